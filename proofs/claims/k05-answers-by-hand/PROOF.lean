import PyProof.Rows.All
import Wide.All
import OpenK.AllK
import Wide.FinOn
import HandS.ForMost
import HandS.ForExc
import HandS.IsInst
import HandS.SortRule
import HandS.Walk
import HandS.Style
import HandS.Flow
import HandS.Evl

import PySem.Challenge.RW_evenring_k05_answers_by_hand
set_option Elab.async false
set_option maxRecDepth 100000
set_option maxHeartbeats 4000000
/-! EvB: a ledger of what a def has made (At), and rules that run a reading forward, one a construct -/
namespace EB
open PySem L2

/-! ### the ledger -/
structure At (H0 : Hp) (L : List (Addr × HO)) (H : Hp) : Prop where
  ex : Same H0 H
  own : ∀ x ∈ L, H x.1 = some x.2
  new : ∀ x ∈ L, H0 x.1 = none
  nd : (L.map Prod.fst).Nodup
section
variable {H0 H H' : Hp} {L : List (Addr × HO)} {p q : Addr} {o o' u : HO} {K : PySem.W.Frag} {xs : List V}
theorem At.nil (H : Hp) : At H [] H := ⟨Same.refl H, (fun _ h => nomatch h), (fun _ h => nomatch h), List.nodup_nil⟩
theorem At.get (A : At H0 L H) (m : (p, o) ∈ L) : H p = some o := A.own _ m
theorem At.fresh (A : At H0 L H) (hp : H p = none) : H0 p = none := A.ex.free hp
theorem At.alloc (A : At H0 L H) (hp : H p = none) (o : HO) : At H0 ((p, o) :: L) (upd H p o) := by
  refine ⟨fun b x e => ?_, fun x hx => ?_, fun x hx => ?_, ?_⟩
  · rw [upd_ne (ne_of_none (A.ex b x e) hp)]
    exact A.ex b x e
  · rcases List.mem_cons.mp hx with rfl | hx
    · exact upd_same
    · rw [upd_ne (ne_of_none (A.own x hx) hp)]
      exact A.own x hx
  · rcases List.mem_cons.mp hx with rfl | hx
    · exact A.fresh hp
    · exact A.new x hx
  · refine List.nodup_cons.mpr ⟨fun h => ?_, A.nd⟩
    obtain ⟨x, hx, e⟩ := List.mem_map.mp h
    have := A.own x hx
    rw [e] at this
    rw [show (p, o).1 = p from rfl] at this
    rw [hp] at this
    cases this
theorem At.same (A : At H0 L H) (s : Same H H') : At H0 L H' := ⟨A.ex.trans s, fun x hx => s _ _ (A.own x hx), A.new, A.nd⟩
theorem At.made (A : At H0 L H) (s : Same H H') (hp : H p = none) (h : H' p = some o) : At H0 ((p, o) :: L) H' := by
  have B := A.alloc hp o
  refine ⟨A.ex.trans s, fun x hx => ?_, B.new, B.nd⟩
  rcases List.mem_cons.mp hx with rfl | hx
  · exact h
  · exact s _ _ (A.own x hx)
theorem At.tl {x : Addr × HO} (A : At H0 (x :: L) H) : At H0 L H :=
  ⟨A.ex, fun y hy => A.own y (List.mem_cons_of_mem _ hy), fun y hy => A.new y (List.mem_cons_of_mem _ hy), (List.nodup_cons.mp A.nd).2⟩
theorem At.perm {L' : List (Addr × HO)} (A : At H0 L H) (h : L'.Perm L) : At H0 L' H :=
  ⟨A.ex, fun y hy => A.own y (h.mem_iff.mp hy), fun y hy => A.new y (h.mem_iff.mp hy), ((h.map Prod.fst).nodup_iff).mpr A.nd⟩
theorem At.sub {L' : List (Addr × HO)} (A : At H0 L H) (h : L'.Sublist L) : At H0 L' H :=
  ⟨A.ex, fun y hy => A.own y (h.subset hy), fun y hy => A.new y (h.subset hy), A.nd.sublist (h.map Prod.fst)⟩
theorem At.put (A : At H0 ((p, o) :: L) H) (o' : HO) : At H0 ((p, o') :: L) (upd H p o') := by
  have hp : H0 p = none := A.new _ List.mem_cons_self
  have hn : ∀ x ∈ L, x.1 ≠ p := fun x hx e => (List.nodup_cons.mp A.nd).1 (by rw [← e]; exact List.mem_map.mpr ⟨x, hx, rfl⟩)
  refine ⟨fun b x e => ?_, fun x hx => ?_, fun x hx => ?_, A.nd⟩
  · rw [upd_ne (ne_of_none e hp)]
    exact A.ex b x e
  · rcases List.mem_cons.mp hx with rfl | hx
    · exact upd_same
    · rw [upd_ne (hn x hx)]
      exact A.own x (List.mem_cons_of_mem _ hx)
  · rcases List.mem_cons.mp hx with rfl | hx
    · exact hp
    · exact A.new x (List.mem_cons_of_mem _ hx)
/-- the second one changed -/
theorem At.swap {x y : Addr × HO} (A : At H0 (x :: y :: L) H) : At H0 (y :: x :: L) H := A.perm (List.Perm.swap ..)
theorem At.put2 {x : Addr × HO} (A : At H0 (x :: (p, o) :: L) H) (o' : HO) : At H0 (x :: (p, o') :: L) (upd H p o') := (A.swap.put o').swap
theorem At.put3 {x y : Addr × HO} (A : At H0 (x :: y :: (p, o) :: L) H) (o' : HO) : At H0 (x :: y :: (p, o') :: L) (upd H p o') := by
  have e : ∀ o : HO, ((p, o) :: x :: y :: L).Perm (x :: y :: (p, o) :: L) := fun o => (List.Perm.swap ..).trans (.cons _ (List.Perm.swap ..))
  exact (((A.perm (e o)).put o').perm (e o').symm)
theorem At.sq (A : At H0 L H) (h : SqL K H0 p xs) : SqL K H p xs := A.ex.seq h
theorem At.sqo (A : At H0 L H) (m : (p, HO.lst xs) ∈ L) : SqL K H p xs := SqL.of (A.get m)
theorem At.st (A : At H0 L H) (h : SqT K H0 p xs) : SqT K H p xs := by
  rcases h with (h | ⟨o, h⟩) | h
  · exact .inl (.inl (A.ex _ _ h))
  · exact .inl (.inr ⟨o, A.ex _ _ h⟩)
  · exact .inr h
theorem At.sto (A : At H0 L H) (m : (p, HO.tup xs) ∈ L) : SqT K H p xs := SqT.of (A.get m)
/-- the ledger becomes the ground -/
theorem At.base (A : At H0 L H) : At H [] H := At.nil H
end
theorem sz {n : Nat} (h : n ≤ 10000000) : n ≤ sizeLine := Nat.le_trans h (by rw [sizeLine_eq]; decide)
theorem sz' {n : Nat} (h : n < 10000000) : n < sizeLine := Nat.lt_of_lt_of_le h (by rw [sizeLine_eq]; decide)

/-! ### what a reading asks, under names -/
def isB (x : V) (Q : Bool → Hp → Prop) (H : Hp) : Prop := ∃ k, x = .bl k ∧ Q k H
def ifB (b : Bool) (A B : Prop) : Prop := if b = true then A else B
def mkL (xs : List V) (H : Hp) (Q : VK) : Prop := xs.length ≤ sizeLine ∧ ∀ p, H p = none → Q (.ref p) (upd H p (.lst xs))
def mkT (xs : List V) (H : Hp) (Q : VK) : Prop := xs.length ≤ sizeLine ∧ ∀ p, H p = none → Q (.ref p) (upd H p (.tup xs))
def fldK (K : PySem.W.Frag) (f : Str) (x : V) (H : Hp) (Q : VK) : Prop := ∃ a C dx fs v, x = .ref a ∧ H a = some (.ins C dx fs) ∧ Cls K C ∧ NoAttr K C f ∧ fs.lookup f = some v ∧ Q v H
def notNone (x : V) (Q : VK) (H : Hp) : Prop := x = .non ∧ Q x H
def rAbs : List V → Hp → VK → Prop := fun xs H Q => ∃ i, xs = [.int i] ∧ Q (.int (if i < 0 then -i else i)) H
def rMax2 : List V → Hp → VK → Prop := fun xs H Q => ∃ i j, xs = [.int i, .int j] ∧ Q (.int (if j > i then j else i)) H
def rMin2 : List V → Hp → VK → Prop := fun xs H Q => ∃ i j, xs = [.int i, .int j] ∧ Q (.int (if j < i then j else i)) H
def rLenQ (K : PySem.W.Frag) : List V → Hp → VK → Prop := fun xs H Q => ∃ p ys, xs = [.ref p] ∧ (SqL K H p ys ∨ SqT K H p ys) ∧ Q (.int ys.length) H
def rListQ (K : PySem.W.Frag) : List V → Hp → VK → Prop := fun xs H Q => ∃ p ys, xs = [.ref p] ∧ (SqL K H p ys ∨ SqT K H p ys) ∧ ∀ l, H l = none → Q (.ref l) (upd H l (.lst ys))
theorem cr_abs {X : Cx} : CallR X (.builtin "abs") rAbs := call_abs
theorem cr_max2 {X : Cx} (hc : X.calm = true) : CallR X (.builtin "max") rMax2 := call_max2 hc
theorem cr_min2 {X : Cx} (hc : X.calm = true) : CallR X (.builtin "min") rMin2 := call_min2 hc
theorem cr_len {X : Cx} : CallR X (.builtin "len") (rLenQ X.K) := call_len_seq
theorem cr_list {X : Cx} : CallR X (.type "list") (rListQ X.K) := call_list_of


/-! ### the layer's rules with the written part named -/
section
variable {X : Cx} {K : PySem.W.Frag}
theorem kLen (h : X.K = K := by rfl) : CallR X (.builtin "len") (rLenQ K) := by subst h; exact cr_len
theorem kList (h : X.K = K := by rfl) : CallR X (.type "list") (rListQ K) := by subst h; exact cr_list
theorem kAll (hc : X.calm = true := by rfl) (h : X.K = K := by rfl) : CallR X (.builtin "all") (rAll K) := by subst h; exact cr_all hc
theorem kAny (hc : X.calm = true := by rfl) (h : X.K = K := by rfl) : CallR X (.builtin "any") (rAny K) := by subst h; exact cr_any hc
theorem kSum (hc : X.calm = true := by rfl) (h : X.K = K := by rfl) : CallR X (.builtin "sum") (rSum K) := by subst h; exact cr_sum hc
theorem kMax (hc : X.calm = true := by rfl) (h : X.K = K := by rfl) : CallR X (.builtin "max") (rMax K) := by subst h; exact cr_max hc
theorem kMin (hc : X.calm = true := by rfl) (h : X.K = K := by rfl) : CallR X (.builtin "min") (rMin K) := by subst h; exact cr_min hc
theorem kIsi (h : X.K = K := by rfl) : CallR X (.builtin "isinstance") (rIsi K) := by subst h; exact call_isi
theorem kIsiT (h : X.K = K := by rfl) : CallR X (.builtin "isinstance") (rIsiT K) := by subst h; exact call_isiT
theorem kSorted (h : X.K = K := by rfl) : CallR X (.builtin "sorted") (rSortedPO K) := by subst h; exact cr_sortedPO
theorem kIxL (h : X.K = K := by rfl) : IxR X (rIxL K) := by subst h; exact ix_list
theorem kIxT (h : X.K = K := by rfl) : IxR X (rIxT K) := by subst h; exact ix_tup
theorem kSlL (h : X.K = K := by rfl) : SlR X (rSlL K) := by subst h; exact sl_list
theorem kIn (h : X.K = K := by rfl) : OpR X (compareOp .In) (rIn K false) := by subst h; exact op_in_seq
theorem kEqD (hu : X.A.units + 64 < cLine) (h : X.K = K := by rfl) : OpR X (compareOp .Eq) (rEqD K) := by subst h; exact op_eqD hu
theorem kNeD (hu : X.A.units + 64 < cLine) (h : X.K = K := by rfl) : OpR X (compareOp .NotEq) (rNeD K) := by subst h; exact op_neD hu
theorem kIdx (h : X.K = K := by rfl) : MtR X "list.index" (rIndex K) := by subst h; exact mt_index
theorem kFld {e : Expr} {f : Str} {pos : Pos} {ta : TE} (he : PE X e ta) (hb : attributeBase e f X.env (eval e X.env) = eval e X.env := by rfl) (h : X.K = K := by rfl) : PE X (.Attribute e f pos) (tFld K ta f) := by subst h; exact pe_fld he hb
theorem kPiL {tg l : Expr} {tl : TE} (hl : PE X l tl) (h : X.K = K := by rfl) : PI X tg l (iList K tl) := by subst h; exact pi_list hl
theorem kPiT {tg l : Expr} {tl : TE} (hl : PE X l tl) (h : X.K = K := by rfl) : PI X tg l (iTup K tl) := by subst h; exact pi_tup hl
theorem kRevL {e : Expr} {te : TE} {k : Nat} {p1 p2 p3 pos : Pos} (he : PE X e te) (h : X.K = K := by rfl) : PE X (.Subscript e (.Slice none none (some (.UnaryOp .USub (.Constant (.int 1) k p1) p2)) p3) pos) (tRevL K te) := by subst h; exact pe_revL he
theorem kPgT {es : List Expr} {k : Nat} {pos : Pos} {t : TGs} {n : Nat} (hc : X.calm = true) (hh : PGs X es t) (hn : (assignEach es X.env).length = n := by rfl) (hst : (assignEach es X.env).findIdx? (·.1) = none := by rfl) (h : X.K = K := by rfl) : PG X (.Tuple es k pos) (gTup K n t) := by
  subst h; exact pg_tup hc hh hn hst
theorem kZip {e e2 : Expr} {ta : TA} {p pos tpos : Pos} {elts : List Expr} {kk : Nat} (hg : Gl X "zip") (hm : X.mg "zip" = none) (ha : PA X [e, e2] ta)
    (hs : starEach [e, e2] X.env = (false, eval e X.env) :: starEach [e2] X.env := by rfl) (hpl : (backTo pos (starEach [e2] X.env)).any (·.1) = false := by rfl) (h : X.K = K := by rfl) :
    PI X (.Tuple elts kk tpos) (.Call (.Name "zip" p) [e, e2] [] pos) (iZip K ta) := by subst h; exact pi_zip hg hm ha hs hpl
end

section
variable {X : Cx} {pos apos : Pos} {e o : Expr} {es : List Expr} {m : Str}
/-- o.m(..), o an instance of one of two classes -/
def tMeth2 (C C' : Addr) (m : Str) (sp sp' : Sp) (E E' : XK) (ta : TE) (t : TA) : TE := fun σ H Q => ta σ H fun x H1 => ∃ a dx fs, x = .ref a ∧ fs.lookup m = none ∧
  ((H1 a = some (.ins C dx fs) ∧ t σ H1 fun vs H2 => sp (x :: vs) H2 Q E) ∨ (H1 a = some (.ins C' dx fs) ∧ t σ H1 fun vs H2 => sp' (x :: vs) H2 Q E'))
theorem pe_meth2 {pl : Sem Bool} {ta : TE} {t : TA} {C C' f f' : Addr} {fd fd' : FuncData} {ps ps' : List Str} {sp sp' : Sp} {CX CX' : CXT} {E E' : XK} {k k' : Nat} (he : PE X o ta)
    (c : Cls X.K C) (hm : Meth X.K C m f) (F : FnOk X.prog X.w X.K X.mg X.base CX k f fd ps sp) (hr : Room k X.A) (hb : Binds X.K fd ps [])
    (c' : Cls X.K C') (hm' : Meth X.K C' m f') (F' : FnOk X.prog X.w X.K X.mg X.base CX' k' f' fd' ps' sp') (hr' : Room k' X.A) (hb' : Binds X.K fd' ps' []) (hx : Passes CX X E) (hx' : Passes CX' X E') (ha : PA X (e :: es) t)
    (hst : starEach (e :: es) X.env = (false, eval e X.env) :: starEach es X.env := by rfl) (hpl : (backTo pos (starEach es X.env)).any (·.1) = false := by rfl)
    (ht : eval (.Call (.Attribute o m apos) (e :: es) [] pos) X.env = (do
      let ov ← eval o X.env
      standAt apos.atName
      let (f, first) ← holding [ov] (getMethod ov m pl)
      callWith pos f first (backTo pos (starEach (e :: es) X.env)) (backToKw pos (keywordEach [] X.env))) := by rfl) :
    PE X (.Call (.Attribute o m apos) (e :: es) [] pos) (tMeth2 C C' m sp sp' E E' ta t) := by
  refine ⟨fun pins s σ H Q I h => ?_⟩
  refine PySem.W.methodCall_KW (pl := pl) (thn (he.run pins s σ H _ I h) fun u s1 ⟨x, H1, I1, rx, a, dx, fs, ex, l, q⟩ => ?_) ht
  subst ex
  obtain rfl : u = Value.ref a := rx
  rcases q with ⟨ea, q⟩ | ⟨ea, q⟩
  · refine getmeth_ok I1 ea c hm l ?_
    refine PySem.W.callWith_K (first := [.ref a]) (h₀ := X.base) I.ok.mod.kin hm.kp (thn (ha.run pos pins s1 σ H1 _ I1 q) fun us s2 ⟨vs, H2, I2, r, q2⟩ => ⟨I2.kIn, ?_⟩) hst hpl
    exact run_fn (us := .ref a :: us) (vs := .ref a :: vs) (dvs := []) F hr hb .nil hx I2 (.cons rfl r) (by rw [List.append_nil]; exact q2)
  · refine getmeth_ok I1 ea c' hm' l ?_
    refine PySem.W.callWith_K (first := [.ref a]) (h₀ := X.base) I.ok.mod.kin hm'.kp (thn (ha.run pos pins s1 σ H1 _ I1 q) fun us s2 ⟨vs, H2, I2, r, q2⟩ => ⟨I2.kIn, ?_⟩) hst hpl
    exact run_fn (us := .ref a :: us) (vs := .ref a :: vs) (dvs := []) F' hr' hb' .nil hx' I2 (.cons rfl r) (by rw [List.append_nil]; exact q2)
end

/-! ### the i-th int -/
/-- ns[i] as Python reads it -/
def gz (ns : List Int) (i : Int) : Int := if 0 ≤ i then ns.getD i.toNat 0 else ns.getD (i + ns.length).toNat 0
theorem atI_gz {ns : List Int} {i : Int} (h1 : -(ns.length : Int) ≤ i) (h2 : i < ns.length) : atI (ns.map V.int) i = some (.int (gz ns i)) := by
  unfold gz
  unfold atI ixN
  rw [List.length_map]
  by_cases h : 0 ≤ i
  · rw [if_pos h, if_pos h, if_pos h2]
    have h3 : i.toNat < ns.length := by omega
    show (ns.map V.int)[i.toNat]? = _
    rw [List.getElem?_map, List.getElem?_eq_getElem h3, List.getD_eq_getElem?_getD, List.getElem?_eq_getElem h3]
    rfl
  · rw [if_neg h, if_neg h, if_pos h1]
    have h3 : (i + ns.length).toNat < ns.length := by omega
    show (ns.map V.int)[(i + ns.length).toNat]? = _
    rw [List.getElem?_map, List.getElem?_eq_getElem h3, List.getD_eq_getElem?_getD, List.getElem?_eq_getElem h3]
    rfl
theorem ixN_gz {n : Nat} {i : Int} (h1 : 0 ≤ i) (h2 : i < n) : ixN n i = some i.toNat := by
  unfold ixN
  rw [if_pos h1, if_pos h2]
theorem gz_nat {ns : List Int} {k : Nat} : gz ns (k : Int) = ns.getD k 0 := by
  unfold gz
  rw [if_pos (by omega)]
  simp


theorem look1 {f g : Str} {v : V} (h : (g == f) = false) : List.lookup g [(f, v)] = none := by simp [List.lookup, h]
theorem look1y {f : Str} {v : V} : List.lookup f [(f, v)] = some v := by simp [List.lookup]
/-! ### the built-ins' names -/
theorem bt_abs : bootBuiltins "abs" = some (.builtin "abs") := by decide +kernel
theorem bt_sum : bootBuiltins "sum" = some (.builtin "sum") := by decide +kernel
theorem bt_all : bootBuiltins "all" = some (.builtin "all") := by decide +kernel
theorem bt_any : bootBuiltins "any" = some (.builtin "any") := by decide +kernel
theorem bt_isinstance : bootBuiltins "isinstance" = some (.builtin "isinstance") := by decide +kernel
theorem bt_sorted : bootBuiltins "sorted" = some (.builtin "sorted") := by decide +kernel
theorem bt_max : bootBuiltins "max" = some (.builtin "max") := by decide +kernel
theorem bt_min : bootBuiltins "min" = some (.builtin "min") := by decide +kernel
theorem bt_list : bootBuiltins "list" = some (.type "list") := by decide +kernel
theorem bt_int : bootBuiltins "int" = some (.type "int") := by decide +kernel
theorem bt_str : bootBuiltins "str" = some (.type "str") := by decide +kernel
theorem bt_bool : bootBuiltins "bool" = some (.type "bool") := by decide +kernel
theorem bt_tuple : bootBuiltins "tuple" = some (.type "tuple") := by decide +kernel

/-! ### rules -/
section
variable {H0 H : Hp} {L : List (Addr × HO)} {K : PySem.W.Frag} {σ : L2.St} {D : Ends} {Q : VK} {QB : Bool → Hp → Prop} {QL : List V → Hp → Prop} {t u : TS} {te ta tb tc : TE} {tt tu : TT} {tl : TA} {v : V} {b : Bool} {A B : Prop} {i j : Int} {p : Addr} {xs : List V} {ns : List Int} {bs : List Bool}
theorem r_seq (k : t { D with nx := u D } σ H) : tSeq t u D σ H := k
theorem r_asg {n : Nat} (k : te σ H (fun x H1 => D.nx (σ.set n (some x)) H1)) : tAsg te (gName n) D σ H := k
theorem r_ret (k : te σ H D.rt) : tRet te D σ H := k
theorem r_if (k : tt σ H (fun b H1 => ifB b (t D σ H1) (u D σ H1))) : tIfS tt t u D σ H := k
theorem r_next (k : D.nx σ H) : tNext D σ H := k
theorem r_drop (k : te σ H (fun _ H1 => D.nx σ H1)) : tDrop te D σ H := k
theorem r_test (k : te σ H (fun x H1 => isB x QB H1)) : tTest te σ H QB := k
theorem r_testB (k : te σ H (fun x H1 => isB x QB H1)) : tB te σ H QB := k
theorem r_isB (k : QB b H) : isB (.bl b) QB H := ⟨b, rfl, k⟩
theorem r_ifT (k : A) : ifB true A B := k
theorem r_ifF (k : B) : ifB false A B := by
  show if false = true then A else B
  rw [if_neg Bool.false_ne_true]
  exact k
theorem r_if2 (h1 : b = true → A) (h2 : b = false → B) : ifB b A B := by
  cases b with
  | true => exact h1 rfl
  | false => exact r_ifF (h2 rfl)
theorem r_ifD {P : Prop} [Decidable P] (h1 : P → A) (h2 : ¬ P → B) : ifB (decide P) A B := r_if2 (fun h => h1 (of_decide_eq_true h)) (fun h => h2 (of_decide_eq_false h))
theorem r_ifND {P : Prop} [Decidable P] (h1 : ¬ P → A) (h2 : P → B) : ifB (!decide P) A B := r_if2 (fun h => h1 (of_decide_eq_false (by simpa using h))) (fun h => h2 (of_decide_eq_true (by simpa using h)))
theorem r_ifd_T {P : Prop} [Decidable P] (h : P) (k : A) : ifB (decide P) A B := by rw [decide_eq_true h]; exact k
theorem r_ifd_F {P : Prop} [Decidable P] (h : ¬ P) (k : B) : ifB (decide P) A B := by rw [decide_eq_false h]; exact r_ifF k
theorem r_ifND_T {P : Prop} [Decidable P] (h : ¬ P) (k : A) : ifB (!decide P) A B := by rw [decide_eq_false h]; exact k
theorem r_ifND_F {P : Prop} [Decidable P] (h : P) (k : B) : ifB (!decide P) A B := by rw [decide_eq_true h]; exact r_ifF k
theorem r_notT (h : b = true) (k : B) : ifB (!b) A B := by rw [h]; exact r_ifF k
theorem r_notF (h : b = false) (k : A) : ifB (!b) A B := by rw [h]; exact k
theorem r_bT (h : b = true) (k : A) : ifB b A B := by rw [h]; exact k
theorem r_bF (h : b = false) (k : B) : ifB b A B := by rw [h]; exact r_ifF k
theorem r_var {n : Nat} (h : σ[n]? = some (some v)) (k : Q v H) : tVar n σ H Q := ⟨v, h, k⟩
theorem r_c (k : Q v H) : tC v σ H Q := k
theorem r_op {r : R2} (k : ta σ H fun x H1 => tb σ H1 fun y H2 => r x y H2 Q) : tOp r ta tb σ H Q := k
theorem r_un {r : V → Hp → VK → Prop} (k : ta σ H fun x H1 => r x H1 Q) : tUn r ta σ H Q := k
theorem r_and (k : tt σ H fun c H1 => ifB c (tu σ H1 QB) (QB false H1)) : tAnd tt tu σ H QB := k
theorem r_or (k : tt σ H fun c H1 => ifB c (QB true H1) (tu σ H1 QB)) : tOr tt tu σ H QB := k
theorem r_not (k : tt σ H fun c H1 => QB (!c) H1) : tNot tt σ H QB := k
theorem r_andV (k : ta σ H fun x H1 => isB x (fun c H2 => ifB c (tb σ H2 Q) (Q (.bl false) H2)) H1) : tAndV ta tb σ H Q := k
theorem r_orV (k : ta σ H fun x H1 => isB x (fun c H2 => ifB c (Q (.bl true) H2) (tb σ H2 Q)) H1) : tOrV ta tb σ H Q := k
theorem r_notV (k : ta σ H fun x H1 => isB x (fun c H2 => Q (.bl (!c)) H2) H1) : tNotV ta σ H Q := k
theorem r_ifE (k : tt σ H fun c H1 => ifB c (ta σ H1 Q) (tb σ H1 Q)) : tIf tt ta tb σ H Q := k
theorem r_chain {r r' : R2} (k : ta σ H fun x H1 => tb σ H1 fun y H2 => r x y H2 fun z H3 => isB z (fun c H4 => ifB c (tc σ H4 fun w H5 => r' y w H5 Q) (Q (.bl false) H4)) H3) : tChain r r' ta tb tc σ H Q := k
theorem r_nil (k : QL [] H) : tNil σ H QL := k
theorem r_cons (k : ta σ H fun x H1 => tl σ H1 fun xs H2 => QL (x :: xs) H2) : tCons ta tl σ H QL := k
theorem r_cb {r : List V → Hp → VK → Prop} (k : tl σ H fun vs H1 => r vs H1 Q) : tCB r tl σ H Q := k
theorem r_lst (k : tl σ H fun xs H1 => mkL xs H1 Q) : tLst tl σ H Q := k
theorem r_tup (k : tl σ H fun xs H1 => mkT xs H1 Q) : tTup tl σ H Q := k
theorem r_mkL (A : At H0 L H) (hl : xs.length ≤ 10000000) (k : ∀ p H', At H0 ((p, .lst xs) :: L) H' → Q (.ref p) H') : mkL xs H Q := ⟨sz hl, fun p hp => k p _ (A.alloc hp _)⟩
theorem r_mkT (A : At H0 L H) (hl : xs.length ≤ 10000000) (k : ∀ p H', At H0 ((p, .tup xs) :: L) H' → Q (.ref p) H') : mkT xs H Q := ⟨sz hl, fun p hp => k p _ (A.alloc hp _)⟩
theorem r_call {sp : Sp} {E : XK} (k : tl σ H fun vs H1 => sp vs H1 Q E) : tCall sp [] E tl σ H Q := by
  show tl σ H fun vs H1 => sp (vs ++ []) H1 Q E
  have e : (fun (vs : List V) (H1 : Hp) => sp (vs ++ []) H1 Q E) = fun vs H1 => sp vs H1 Q E := by funext vs H1; rw [List.append_nil]
  rw [e]
  exact k
/-! ints -/
theorem r_I0 {g : Int → Int → V} (k : Q (g i j) H) : rI0 g (.int i) (.int j) H Q := ⟨i, j, rfl, rfl, k⟩
theorem r_I {C : Int → Int → Prop} {g : Int → Int → V} (h : C i j) (k : Q (g i j) H) : rI C g (.int i) (.int j) H Q := ⟨i, j, rfl, rfl, h, k⟩
theorem r_U {g : Int → V} (k : Q (g i) H) : rU g (.int i) H Q := ⟨i, rfl, k⟩
theorem dec_int {a b : Int} : decide (V.int a = V.int b) = decide (a = b) := by
  by_cases h : a = b
  · subst h; simp
  · rw [decide_eq_false h, decide_eq_false (fun e => h (V.int.inj e))]
theorem dec_bl {a b : Bool} : decide (V.bl a = V.bl b) = decide (a = b) := by cases a <;> cases b <;> rfl
theorem r_eqI (k : Q (.bl (decide (i = j))) H) : rEq (.int i) (.int j) H Q := ⟨rfl, by rw [dec_int]; exact k⟩
theorem r_neI (k : Q (.bl (!decide (i = j))) H) : rNe (.int i) (.int j) H Q := ⟨rfl, by rw [dec_int]; exact k⟩
theorem r_eqB {c d : Bool} (k : Q (.bl (decide (c = d))) H) : rEq (.bl c) (.bl d) H Q := ⟨rfl, by rw [dec_bl]; exact k⟩
theorem r_neB {c d : Bool} (k : Q (.bl (!decide (c = d))) H) : rNe (.bl c) (.bl d) H Q := ⟨rfl, by rw [dec_bl]; exact k⟩
theorem r_isBl {c d : Bool} (k : Q (.bl (decide (c = d))) H) : rIsB (.bl c) (.bl d) H Q := ⟨c, d, rfl, rfl, k⟩
theorem r_isNBl {c d : Bool} (k : Q (.bl (!decide (c = d))) H) : rNotB (.bl c) (.bl d) H Q := ⟨c, d, rfl, rfl, k⟩
theorem r_abs (k : Q (.int (i.natAbs : Int)) H) : rAbs [.int i] H Q := ⟨i, rfl, by
  have e : (if i < 0 then -i else i) = (i.natAbs : Int) := by split <;> omega
  rw [e]; exact k⟩
theorem r_max2 (k : Q (.int (max i j)) H) : rMax2 [.int i, .int j] H Q := ⟨i, j, rfl, by
  have e : (if j > i then j else i) = max i j := by split <;> omega
  rw [e]; exact k⟩
theorem r_min2 (k : Q (.int (min i j)) H) : rMin2 [.int i, .int j] H Q := ⟨i, j, rfl, by
  have e : (if j < i then j else i) = min i j := by split <;> omega
  rw [e]; exact k⟩
/-! lists -/
theorem r_len (h : SqL K H p xs) (k : Q (.int (xs.length : Int)) H) : rLenQ K [.ref p] H Q := ⟨p, xs, rfl, .inl h, k⟩
theorem r_lenI (h : SqL K H p (ns.map V.int)) (k : Q (.int (ns.length : Int)) H) : rLenQ K [.ref p] H Q := ⟨p, _, rfl, .inl h, by rw [List.length_map]; exact k⟩
theorem r_lenT (h : SqT K H p xs) (k : Q (.int (xs.length : Int)) H) : rLenQ K [.ref p] H Q := ⟨p, xs, rfl, .inr h, k⟩
theorem r_list (A : At H0 L H) (h : SqL K H p xs) (k : ∀ l H', At H0 ((l, .lst xs) :: L) H' → Q (.ref l) H') : rListQ K [.ref p] H Q := ⟨p, xs, rfl, .inl h, fun l hl => k l _ (A.alloc hl _)⟩
theorem r_listT (A : At H0 L H) (h : SqT K H p xs) (k : ∀ l H', At H0 ((l, .lst xs) :: L) H' → Q (.ref l) H') : rListQ K [.ref p] H Q := ⟨p, xs, rfl, .inr h, fun l hl => k l _ (A.alloc hl _)⟩
theorem r_ixI (h : SqL K H p (ns.map V.int)) (h1 : -(ns.length : Int) ≤ i) (h2 : i < ns.length) (k : Q (.int (gz ns i)) H) : rIxL K (.ref p) (.int i) H Q := ⟨p, _, i, _, rfl, rfl, h, atI_gz h1 h2, k⟩
theorem r_ixL (h : SqL K H p xs) (ha : atI xs i = some v) (k : Q v H) : rIxL K (.ref p) (.int i) H Q := ⟨p, xs, i, v, rfl, rfl, h, ha, k⟩
theorem r_ixT (h : SqT K H p xs) (ha : atI xs i = some v) (k : Q v H) : rIxT K (.ref p) (.int i) H Q := ⟨p, xs, i, v, rfl, rfl, h, ha, k⟩
theorem r_ixTI (h : SqT K H p (ns.map V.int)) (h1 : -(ns.length : Int) ≤ i) (h2 : i < ns.length) (k : Q (.int (gz ns i)) H) : rIxT K (.ref p) (.int i) H Q := ⟨p, _, i, _, rfl, rfl, h, atI_gz h1 h2, k⟩
theorem r_sum (h : SqL K H p (ns.map V.int)) (k : Q (.int ns.sum) H) : rSum K [.ref p] H Q := ⟨p, ns, rfl, h, k⟩
theorem r_all (h : SqL K H p (bs.map V.bl)) (k : Q (.bl (bs.all id)) H) : rAll K [.ref p] H Q := ⟨p, bs, rfl, h, k⟩
theorem r_any (h : SqL K H p (bs.map V.bl)) (k : Q (.bl (bs.any id)) H) : rAny K [.ref p] H Q := ⟨p, bs, rfl, h, k⟩
theorem r_max (h : SqL K H p (ns.map V.int)) (hn : 0 < ns.length) (k : ∀ m, m ∈ ns → (∀ y, y ∈ ns → y ≤ m) → Q (.int m) H) : rMax K [.ref p] H Q := ⟨p, ns, rfl, h, hn, k⟩
theorem r_min (h : SqL K H p (ns.map V.int)) (hn : 0 < ns.length) (k : ∀ m, m ∈ ns → (∀ y, y ∈ ns → m ≤ y) → Q (.int m) H) : rMin K [.ref p] H Q := ⟨p, ns, rfl, h, hn, k⟩
/-! fields -/
theorem r_fld {f : Str} (k : ta σ H fun x H1 => fldK K f x H1 Q) : tFld K ta f σ H Q := k
theorem r_fldK {f : Str} {a C dx : Addr} {fs : List (Str × V)} (h : H a = some (.ins C dx fs)) (hc : Cls K C) (hn : NoAttr K C f) (hl : fs.lookup f = some v) (k : Q v H) : fldK K f (.ref a) H Q := ⟨a, C, dx, fs, v, rfl, h, hc, hn, hl, k⟩
/-! comprehensions over a range -/
def rng1 (vs : List V) (H : Hp) (R : It → Hp → Prop) : Prop := ∃ j : Int, vs = [.int j] ∧ -(2 ^ 62) ≤ j ∧ j < 2 ^ 62 ∧ R (Itr 0 j.toNat) H
def lcB (J : It) (g : TG) (tt : TT) (te : TE) (vs : List Nat) (σ : L2.St) (H1 : Hp) (Q : VK) : Prop := ∀ D, H1 D = none → ∃ W : Nat → Nat → Hp → Prop, (∃ m, W 0 m (upd H1 D (.lst []))) ∧ ∀ i m H, W i m H →
  (J.stop i H ∧ Q (.ref D) H) ∨ (J.go i H ∧ ∃ Nx : Hp → Prop, (∀ H', Nx H' → ∃ m', m' < m ∧ W (i + 1) m' H') ∧ ∀ x H', J.yld i H x H' → g x (wipe σ vs) H' fun σ2 H2 => wipe σ2 vs = wipe σ vs ∧ tt σ2 H2 fun b H3 =>
    if b = true then te σ2 H3 fun y H4 => ∃ acc, H4 D = some (.lst acc) ∧ acc.length < sizeLine ∧ Nx (upd H4 D (.lst (acc ++ [y]))) else Nx H3)
theorem r_lcR {g : TG} {vs : List Nat} (k : tl σ H fun us H1 => rng1 us H1 fun J H2 => lcB J g tt te vs σ H2 Q) : tLc (iRng1 tl) g tt te vs σ H Q := k
theorem r_rng1 {R : It → Hp → Prop} {n : Nat} (h : i = (n : Int)) (hn : n ≤ 10000000) (k : R (Itr 0 n) H) : rng1 [.int i] H R := by
  subst h
  exact ⟨_, rfl, by omega, by omega, by rw [show ((n : Int)).toNat = n by omega]; exact k⟩
/-- the end of a turn: the value, what the turn made beside the list is let go -/
def TurnQ (H0 : Hp) (L : List (Addr × HO)) (w : V) (Q : VK) : Prop := ∀ y H' L', y = w → At H0 (L' ++ L) H' → Q y H'
theorem TurnQ.t0 {w : V} (q : TurnQ H0 L w Q) (e : v = w) (A : At H0 L H) : Q v H := q _ _ [] e A
theorem TurnQ.t1 {w : V} {x : Addr × HO} (q : TurnQ H0 L w Q) (e : v = w) (A : At H0 (x :: L) H) : Q v H := q _ _ [x] e A
theorem TurnQ.t2 {w : V} {x y : Addr × HO} (q : TurnQ H0 L w Q) (e : v = w) (A : At H0 (x :: y :: L) H) : Q v H := q _ _ [x, y] e A
theorem TurnQ.t3 {w : V} {x y z : Addr × HO} (q : TurnQ H0 L w Q) (e : v = w) (A : At H0 (x :: y :: z :: L) H) : Q v H := q _ _ [x, y, z] e A
theorem At.dropMid {L' : List (Addr × HO)} {H0 H : Hp} {L : List (Addr × HO)} (A : At H0 (L' ++ L) H) : At H0 L H := A.sub (List.sublist_append_right L' L)
theorem range_map_succ {α : Type} (f : Nat → α) (i : Nat) : (List.range (i + 1)).map f = (List.range i).map f ++ [f i] := by
  rw [List.range_succ, List.map_append]
  rfl
theorem r_lcItr {m : Nat} {vs : List Nat} {n : Nat} (f : Nat → V) (A : At H0 L H) (hn : n < 10000000) (hw : ∀ x, wipe ((wipe σ vs).set m (some x)) vs = wipe σ vs)
    (hs : ∀ (i : Nat) (D : Addr) H' Q', i < n → At H0 ((D, .lst ((List.range i).map f)) :: L) H' → TurnQ H0 ((D, .lst ((List.range i).map f)) :: L) (f i) Q' → te ((wipe σ vs).set m (some (.int (i : Int)))) H' Q')
    (k : ∀ D H', At H0 ((D, .lst ((List.range n).map f)) :: L) H' → Q (.ref D) H') : lcB (Itr 0 n) (gName m) tYes te vs σ H Q := fun D hD =>
  lc_range (lo := 0) (n := n) (fun i H' => At H0 ((D, .lst ((List.range i).map f)) :: L) H') (A.alloc hD _) (fun i H' hi A' => by
    refine ⟨hw _, ?_⟩
    show te ((wipe σ vs).set m (some (.int ((0 : Int) + (i : Int))))) H' _
    rw [Int.zero_add]
    refine hs i D H' _ hi A' fun y H4 L' e A4 => ?_
    have B := A4.dropMid
    refine ⟨_, B.get List.mem_cons_self, ?_, ?_⟩
    · rw [List.length_map, List.length_range]
      exact sz' (by omega)
    · subst e
      rw [range_map_succ]
      exact B.put _) (fun H' A' => k D H' A')
/-- over a list that stands -/
def lst1 (K : PySem.W.Frag) (x : V) (H : Hp) (R : It → Hp → Prop) : Prop := ∃ a, x = .ref a ∧ (∃ xs, SqL K H a xs) ∧ R (Itl K a) H
theorem r_lcL {g : TG} {vs : List Nat} (k : ta σ H fun x H1 => lst1 K x H1 fun J H2 => lcB J g tt te vs σ H2 Q) : tLc (iList K ta) g tt te vs σ H Q := k
theorem r_lst1 {R : It → Hp → Prop} (h : SqL K H p xs) (k : R (Itl K p) H) : lst1 K (.ref p) H R := ⟨p, rfl, ⟨xs, h⟩, k⟩
theorem take_map_succ {α β : Type} (f : α → β) {l : List α} {i : Nat} {x : α} (h : l[i]? = some x) : (l.take (i + 1)).map f = (l.take i).map f ++ [f x] := by
  rw [List.take_add_one, h, List.map_append]
  rfl
theorem r_lcItl {m : Nat} {vs : List Nat} (f : V → V) (A : At H0 L H) (hx : ∀ L' H', At H0 (L' ++ L) H' → SqL K H' p xs) (hn : xs.length < 10000000) (hw : ∀ x, wipe ((wipe σ vs).set m (some x)) vs = wipe σ vs)
    (hs : ∀ (i : Nat) (x : V) (D : Addr) H' Q', xs[i]? = some x → At H0 ((D, .lst ((xs.take i).map f)) :: L) H' → TurnQ H0 ((D, .lst ((xs.take i).map f)) :: L) (f x) Q' → te ((wipe σ vs).set m (some x)) H' Q')
    (k : ∀ D H', At H0 ((D, .lst (xs.map f)) :: L) H' → Q (.ref D) H') : lcB (Itl K p) (gName m) tYes te vs σ H Q := fun D hD =>
  lc_list (K := K) (a := p) (xs := xs) (fun i H' => At H0 ((D, .lst ((xs.take i).map f)) :: L) H') (A.alloc hD _) (fun i H' _ A' => hx [_] H' A') (fun i x H' hi A' => by
    refine ⟨hw _, ?_⟩
    show te ((wipe σ vs).set m (some x)) H' _
    refine hs i x D H' _ hi A' fun y H4 L' e A4 => ?_
    have B := A4.dropMid
    refine ⟨_, B.get List.mem_cons_self, ?_, ?_⟩
    · rw [List.length_map, List.length_take]
      exact sz' (by omega)
    · subst e
      rw [take_map_succ f hi]
      exact B.put _) (fun H' A' => by
    rw [List.take_length] at A'
    exact k D H' A')
/-- .. of ints, giving ints, bools -/
theorem r_lcItlI {m : Nat} {vs : List Nat} (f : Int → V) (A : At H0 L H) (h0 : SqL K H0 p (ns.map V.int) ∨ (p, HO.lst (ns.map V.int)) ∈ L) (hn : ns.length < 10000000) (hw : ∀ x, wipe ((wipe σ vs).set m (some x)) vs = wipe σ vs)
    (hs : ∀ (i : Nat) (x : Int) (D : Addr) H' Q', ns[i]? = some x → At H0 ((D, .lst ((ns.take i).map f)) :: L) H' → TurnQ H0 ((D, .lst ((ns.take i).map f)) :: L) (f x) Q' → te ((wipe σ vs).set m (some (.int x))) H' Q')
    (k : ∀ D H', At H0 ((D, .lst (ns.map f)) :: L) H' → Q (.ref D) H') : lcB (Itl K p) (gName m) tYes te vs σ H Q := fun D hD =>
  lc_list (K := K) (a := p) (xs := ns.map V.int) (fun i H' => At H0 ((D, .lst ((ns.take i).map f)) :: L) H') (A.alloc hD _) (fun i H' _ A' => by
    rcases h0 with h | h
    · exact A'.sq h
    · exact A'.sqo (List.mem_cons_of_mem _ h)) (fun i x H' hi A' => by
    refine ⟨hw _, ?_⟩
    rw [List.getElem?_map] at hi
    obtain ⟨z, hz, rfl⟩ : ∃ z, ns[i]? = some z ∧ V.int z = x := by
      cases e : ns[i]? with
      | none => rw [e] at hi; cases hi
      | some z => rw [e] at hi; exact ⟨z, rfl, Option.some.inj hi⟩
    show te ((wipe σ vs).set m (some (V.int z))) H' _
    refine hs i z D H' _ hz A' fun y H4 L' e A4 => ?_
    have B := A4.dropMid
    refine ⟨_, B.get List.mem_cons_self, ?_, ?_⟩
    · rw [List.length_map, List.length_take]
      exact sz' (by omega)
    · subst e
      rw [take_map_succ f hz]
      exact B.put _) (fun H' A' => by
    rw [List.length_map, List.take_length] at A'
    exact k D H' A')
/-! the same, ints or bools given -/
theorem map_bl {α : Type} (l : List α) (g : α → Bool) : l.map (fun k => V.bl (g k)) = (l.map g).map V.bl := by rw [List.map_map]; rfl
theorem map_in {α : Type} (l : List α) (g : α → Int) : l.map (fun k => V.int (g k)) = (l.map g).map V.int := by rw [List.map_map]; rfl
theorem r_lcRB {m : Nat} {vs : List Nat} {n : Nat} (g : Nat → Bool) (A : At H0 L H) (hn : n < 10000000) (hw : ∀ x, wipe ((wipe σ vs).set m (some x)) vs = wipe σ vs)
    (hs : ∀ (i : Nat) (D : Addr) H' Q', i < n → At H0 ((D, .lst ((List.range i).map fun k => V.bl (g k))) :: L) H' → TurnQ H0 ((D, .lst ((List.range i).map fun k => V.bl (g k))) :: L) (V.bl (g i)) Q' → te ((wipe σ vs).set m (some (.int (i : Int)))) H' Q')
    (k : ∀ D H', At H0 ((D, .lst (((List.range n).map g).map V.bl)) :: L) H' → Q (.ref D) H') : lcB (Itr 0 n) (gName m) tYes te vs σ H Q :=
  r_lcItr (fun k => V.bl (g k)) A hn hw hs fun D H' A' => k D H' (by rw [← map_bl]; exact A')
theorem r_lcRI {m : Nat} {vs : List Nat} {n : Nat} (g : Nat → Int) (A : At H0 L H) (hn : n < 10000000) (hw : ∀ x, wipe ((wipe σ vs).set m (some x)) vs = wipe σ vs)
    (hs : ∀ (i : Nat) (D : Addr) H' Q', i < n → At H0 ((D, .lst ((List.range i).map fun k => V.int (g k))) :: L) H' → TurnQ H0 ((D, .lst ((List.range i).map fun k => V.int (g k))) :: L) (V.int (g i)) Q' → te ((wipe σ vs).set m (some (.int (i : Int)))) H' Q')
    (k : ∀ D H', At H0 ((D, .lst (((List.range n).map g).map V.int)) :: L) H' → Q (.ref D) H') : lcB (Itr 0 n) (gName m) tYes te vs σ H Q :=
  r_lcItr (fun k => V.int (g k)) A hn hw hs fun D H' A' => k D H' (by rw [← map_in]; exact A')
theorem r_lcLB {m : Nat} {vs : List Nat} (g : Int → Bool) (A : At H0 L H) (h0 : SqL K H0 p (ns.map V.int) ∨ (p, HO.lst (ns.map V.int)) ∈ L) (hn : ns.length < 10000000) (hw : ∀ x, wipe ((wipe σ vs).set m (some x)) vs = wipe σ vs)
    (hs : ∀ (i : Nat) (x : Int) (D : Addr) H' Q', ns[i]? = some x → At H0 ((D, .lst ((ns.take i).map fun k => V.bl (g k))) :: L) H' → TurnQ H0 ((D, .lst ((ns.take i).map fun k => V.bl (g k))) :: L) (V.bl (g x)) Q' → te ((wipe σ vs).set m (some (.int x))) H' Q')
    (k : ∀ D H', At H0 ((D, .lst ((ns.map g).map V.bl)) :: L) H' → Q (.ref D) H') : lcB (Itl K p) (gName m) tYes te vs σ H Q :=
  r_lcItlI (fun k => V.bl (g k)) A h0 hn hw hs fun D H' A' => k D H' (by rw [← map_bl]; exact A')
theorem r_lcLI {m : Nat} {vs : List Nat} (g : Int → Int) (A : At H0 L H) (h0 : SqL K H0 p (ns.map V.int) ∨ (p, HO.lst (ns.map V.int)) ∈ L) (hn : ns.length < 10000000) (hw : ∀ x, wipe ((wipe σ vs).set m (some x)) vs = wipe σ vs)
    (hs : ∀ (i : Nat) (x : Int) (D : Addr) H' Q', ns[i]? = some x → At H0 ((D, .lst ((ns.take i).map fun k => V.int (g k))) :: L) H' → TurnQ H0 ((D, .lst ((ns.take i).map fun k => V.int (g k))) :: L) (V.int (g x)) Q' → te ((wipe σ vs).set m (some (.int x))) H' Q')
    (k : ∀ D H', At H0 ((D, .lst ((ns.map g).map V.int)) :: L) H' → Q (.ref D) H') : lcB (Itl K p) (gName m) tYes te vs σ H Q :=
  r_lcItlI (fun k => V.int (g k)) A h0 hn hw hs fun D H' A' => k D H' (by rw [← map_in]; exact A')
/-! loops -/
def lstF (K : PySem.W.Frag) (x : V) (H : Hp) (R : It → Hp → Prop) : Prop := lst1 K x H R
def forB (J : It) (g : TG) (tb : TS) (D : Ends) (σ : L2.St) (H1 : Hp) : Prop := ∃ W : Nat → Nat → L2.St → Hp → Prop, (∃ m, W 0 m σ H1) ∧ ∀ i m σ H, W i m σ H →
  (J.stop i H ∧ D.nx σ H) ∨ (J.go i H ∧ ∃ N : L2.St → Hp → Prop, (∀ σ' H', N σ' H' → ∃ m', m' < m ∧ W (i + 1) m' σ' H') ∧ ∀ x H', J.yld i H x H' → g x σ H' fun σ2 H2 => tb { D with nx := N, ct := N, bk := D.nx } σ2 H2)
theorem r_forL {g : TG} {tb : TS} (k : ta σ H fun x H1 => lst1 K x H1 fun J H2 => forB J g tb D σ H2) : tFor (iList K ta) g tb D σ H := k
theorem r_forR {g : TG} {tb : TS} (k : tl σ H fun us H1 => rng1 us H1 fun J H2 => forB J g tb D σ H2) : tFor (iRng1 tl) g tb D σ H := k
theorem r_forItr {g : TG} {tb : TS} {n : Nat} (Pv : Nat → L2.St → Hp → Prop) (h0 : Pv 0 σ H)
    (hs : ∀ i σ H (N : L2.St → Hp → Prop), i < n → Pv i σ H → (∀ σ' H', Pv (i + 1) σ' H' → N σ' H') → g (.int (i : Int)) σ H fun σ2 H2 => tb { D with nx := N, ct := N, bk := D.nx } σ2 H2) (hd : ∀ σ H, Pv n σ H → D.nx σ H) : forB (Itr 0 n) g tb D σ H :=
  for_range (lo := 0) (n := n) Pv h0 (fun i σ H hi p => by
    rw [Int.zero_add]
    exact hs i σ H _ hi p fun _ _ z => z) hd
theorem r_forItl {g : TG} {tb : TS} (xs : List V) (Pv : Nat → L2.St → Hp → Prop) (h0 : Pv 0 σ H) (hl : ∀ i σ H, i ≤ xs.length → Pv i σ H → SqL K H p xs)
    (hs : ∀ i x σ H (N : L2.St → Hp → Prop), xs[i]? = some x → Pv i σ H → (∀ σ' H', Pv (i + 1) σ' H' → N σ' H') → g x σ H fun σ2 H2 => tb { D with nx := N, ct := N, bk := D.nx } σ2 H2) (hd : ∀ σ H, Pv xs.length σ H → D.nx σ H) : forB (Itl K p) g tb D σ H :=
  for_list (K := K) (a := p) (xs := xs) Pv h0 hl (fun i x σ H hi pp => hs i x σ H _ hi pp fun _ _ z => z) hd
theorem r_forItlI {n : Nat} {tb : TS} (ns : List Int) (Pv : Nat → L2.St → Hp → Prop) (h0 : Pv 0 σ H) (hl : ∀ i σ H, i ≤ ns.length → Pv i σ H → SqL K H p (ns.map V.int))
    (hs : ∀ i x σ H (N : L2.St → Hp → Prop), ns[i]? = some x → Pv i σ H → (∀ σ' H', Pv (i + 1) σ' H' → N σ' H') → tb { D with nx := N, ct := N, bk := D.nx } (σ.set n (some (V.int x))) H) (hd : ∀ σ H, Pv ns.length σ H → D.nx σ H) : forB (Itl K p) (gName n) tb D σ H :=
  r_forItl (K := K) (p := p) (ns.map V.int) Pv h0 (fun i σ H hi => hl i σ H (by rw [List.length_map] at hi; exact hi)) (fun i x σ H N hi pp hN => by
    rw [List.getElem?_map] at hi
    obtain ⟨z, hz, rfl⟩ : ∃ z, ns[i]? = some z ∧ V.int z = x := by
      cases e : ns[i]? with
      | none => rw [e] at hi; cases hi
      | some z => rw [e] at hi; exact ⟨z, rfl, Option.some.inj hi⟩
    exact hs i z σ H N hz pp hN) (fun σ H => by rw [List.length_map]; exact hd σ H)
/-! appending, storing by place -/
def bmK (K : PySem.W.Frag) (T : String) (r : V → List V → Hp → VK → Prop) (t : TA) (σ : L2.St) (x : V) (H : Hp) (Q : VK) : Prop := tyV K T x H ∧ t σ H fun xs H2 => r x xs H2 Q
theorem r_bm {T : String} {r : V → List V → Hp → VK → Prop} (k : ta σ H fun x H1 => bmK K T r tl σ x H1 Q) : tBM K T r ta tl σ H Q := k
theorem r_bmL {r : V → List V → Hp → VK → Prop} (h : SqL K H p xs) (k : tl σ H fun xs H2 => r (.ref p) xs H2 Q) : bmK K "list" r tl σ (.ref p) H Q := ⟨Or.inl ⟨rfl, _, h⟩, k⟩
theorem r_append (A : At H0 ((p, .lst xs) :: L) H) (hl : xs.length < 10000000) (k : ∀ H', At H0 ((p, .lst (xs ++ [v])) :: L) H' → Q .non H') : rAppend (.ref p) [v] H Q :=
  ⟨p, xs, v, rfl, rfl, A.get List.mem_cons_self, sz' hl, k _ (A.put _)⟩
theorem r_gName {n : Nat} {QS : L2.St → Hp → Prop} (k : QS (σ.set n (some v)) H) : gName n v σ H QS := k
theorem r_gSub {s : TSet} {QS : L2.St → Hp → Prop} (k : ta σ H fun o H1 => tb σ H1 fun i H2 => s o i v H2 fun H3 => QS σ H3) : gSub ta tb s v σ H QS := k
theorem r_asgG {g : TG} (k : te σ H (fun x H1 => g x σ H1 D.nx)) : tAsg te g D σ H := k
theorem r_setL {QH : Hp → Prop} (A : At H0 ((p, .lst xs) :: L) H) (h1 : 0 ≤ i) (h2 : i < xs.length) (k : ∀ H', At H0 ((p, .lst (xs.set i.toNat v)) :: L) H' → QH H') : rSetL (.ref p) (.int i) v H QH :=
  ⟨p, xs, i, i.toNat, rfl, rfl, A.get List.mem_cons_self, ixN_gz h1 h2, k _ (A.put _)⟩
/-! isinstance of plain things -/
theorem r_isiI {b : Bool} {n : String} (h : kitB "int" n = some b) (k : Q (.bl b) H) : rIsi K [.int i, .ty n] H Q := ⟨_, _, _, _, b, rfl, .ty n, .base (.int i), kit_ty h, k⟩
theorem r_isiB {b c : Bool} {n : String} (h : kitB "bool" n = some b) (k : Q (.bl b) H) : rIsi K [.bl c, .ty n] H Q := ⟨_, _, _, _, b, rfl, .ty n, .base (.bl c), kit_ty h, k⟩
theorem ty_list (h : SqL K H p xs) : TyX K H (.ref p) (.type "list") := by
  rcases h with (h | ⟨o, h⟩) | ⟨o, its, n, h, hc, _⟩
  · exact .base (.lst h)
  · exact .base (.frz h)
  · exact .kList h hc
theorem r_isiL {b : Bool} {n : String} (hs : SqL K H p xs) (h : kitB "list" n = some b) (k : Q (.bl b) H) : rIsi K [.ref p, .ty n] H Q := ⟨_, _, _, _, b, rfl, .ty n, ty_list hs, kit_ty h, k⟩
/-! own instances -/
def mkC (C : Addr) (sp : Sp) (vs : List V) (H1 : Hp) (Q : VK) (E : XK) : Prop := ∀ x dx, H1 x = none → H1 dx = none → dx ≠ x → sp (.ref x :: vs) (upd (upd H1 dx (.own x)) x (.ins C dx [])) (fun v H2 => v = .non ∧ Q (.ref x) H2) E
theorem r_make {C : Addr} {sp : Sp} {E : XK} (k : tl σ H fun vs H1 => mkC C sp vs H1 Q E) : tMake C sp [] E tl σ H Q := by
  show tl σ H fun vs H1 => ∀ x dx, H1 x = none → H1 dx = none → dx ≠ x → sp (.ref x :: (vs ++ [])) (upd (upd H1 dx (.own x)) x (.ins C dx [])) (fun v H2 => v = .non ∧ Q (.ref x) H2) E
  have e : (fun (vs : List V) (H1 : Hp) => ∀ x dx, H1 x = none → H1 dx = none → dx ≠ x → sp (.ref x :: (vs ++ [])) (upd (upd H1 dx (.own x)) x (.ins C dx [])) (fun v H2 => v = .non ∧ Q (.ref x) H2) E) = fun vs H1 => mkC C sp vs H1 Q E := by
    funext vs H1
    rw [List.append_nil]
    rfl
  rw [e]
  exact k
/-- the new instance's heap -/
theorem same_mk {H : Hp} {x dx C : Addr} (nx : H x = none) (nd : H dx = none) : Same H (upd (upd H dx (.own x)) x (.ins C dx [])) := fun b o e => by
  rw [upd_ne (ne_of_none e nx), upd_ne (ne_of_none e nd)]
  exact e
def mthK (C : Addr) (m : Str) (sp : Sp) (tl : TA) (σ : L2.St) (x : V) (H1 : Hp) (Q : VK) (E : XK) : Prop := ∃ a dx fs, x = .ref a ∧ H1 a = some (.ins C dx fs) ∧ fs.lookup m = none ∧ tl σ H1 fun vs H2 => sp (x :: vs) H2 Q E
theorem r_meth {C : Addr} {m : Str} {sp : Sp} {E : XK} (k : ta σ H fun x H1 => mthK C m sp tl σ x H1 Q E) : tMeth C m sp [] E ta tl σ H Q := by
  show ta σ H fun x H1 => ∃ a dx fs, x = .ref a ∧ H1 a = some (.ins C dx fs) ∧ fs.lookup m = none ∧ tl σ H1 fun vs H2 => sp (x :: (vs ++ [])) H2 Q E
  have e : (fun (x : V) (H1 : Hp) => ∃ a dx fs, x = .ref a ∧ H1 a = some (.ins C dx fs) ∧ fs.lookup m = none ∧ tl σ H1 fun vs H2 => sp (x :: (vs ++ [])) H2 Q E) = fun x H1 => mthK C m sp tl σ x H1 Q E := by
    funext x H1
    unfold mthK
    congr
    funext a
    congr
    funext dx
    congr
    funext fs
    have e2 : (fun (vs : List V) (H2 : Hp) => sp (x :: (vs ++ [])) H2 Q E) = fun vs H2 => sp (x :: vs) H2 Q E := by
      funext vs H2
      rw [List.append_nil]
    rw [e2]
  rw [e]
  exact k
theorem r_mthK {C dx a : Addr} {m : Str} {sp : Sp} {E : XK} {fs : List (Str × V)} (h : H a = some (.ins C dx fs)) (hl : fs.lookup m = none) (k : tl σ H fun vs H2 => sp (.ref a :: vs) H2 Q E) : mthK C m sp tl σ (.ref a) H Q E := ⟨a, dx, fs, rfl, h, hl, k⟩
/-- self.f = e -/
def sfK (K : PySem.W.Frag) (f : Str) (y x : V) (H2 : Hp) (N : Hp → Prop) : Prop := ∃ a C dx fs, x = .ref a ∧ H2 a = some (.ins C dx fs) ∧ Cls K C ∧ NoAttr K C f ∧ fs.length < 1000 ∧ N (upd H2 a (.ins C dx (putF f y fs)))
theorem r_sfld {f : Str} (k : tb σ H fun y H1 => ta σ H1 fun x H2 => sfK K f y x H2 fun H3 => D.nx σ H3) : sFld K ta tb f D σ H := k
theorem r_sfK {f : Str} {y : V} {a C dx : Addr} {fs : List (Str × V)} {N : Hp → Prop} (h : H a = some (.ins C dx fs)) (hc : Cls K C) (hn : NoAttr K C f) (hl : fs.length < 1000) (k : N (upd H a (.ins C dx (putF f y fs)))) : sfK K f y (.ref a) H N := ⟨a, C, dx, fs, rfl, h, hc, hn, hl, k⟩
/-- isinstance of an own instance -/
theorem r_isiO {a C C' dx : Addr} {fs : List (Str × V)} {b : Bool} (h : H a = some (.ins C dx fs)) (hc : Cls K C) (hi : PySem.W.findIn K (.ref C) "__class__" = some (some (.builtin "object.__class__")) ∧ PySem.W.specialIn K (.builtin "object.__class__") "__get__" = some (some (.builtin "getset_descriptor.__get__")) ∧ PySem.W.takesIn K (.builtin "object.__class__") = some true ∧ PySem.W.mroIn K C (.type "object") = some true)
    (hk : PySem.W.kitOne K (.ref C) (.ref C') = some b) (k : Q (.bl b) H) : rIsi K [.ref a, .ref C'] H Q := ⟨_, _, _, _, b, rfl, .own C', .base (.ins h hc hi.1 hi.2.1 hi.2.2.1 hi.2.2.2), hk, k⟩
theorem r_ifNT (k : B) : ifB (!true) A B := r_ifF k
theorem r_ifNF (k : A) : ifB (!false) A B := k
theorem r_isiII (k : Q (.bl true) H) : rIsi K [.int i, .ty "int"] H Q := r_isiI (by decide +kernel) k
theorem r_isiIB (k : Q (.bl false) H) : rIsi K [.int i, .ty "bool"] H Q := r_isiI (by decide +kernel) k
theorem r_isiBB {c : Bool} (k : Q (.bl true) H) : rIsi K [.bl c, .ty "bool"] H Q := r_isiB (by decide +kernel) k
theorem r_isiBI {c : Bool} (k : Q (.bl true) H) : rIsi K [.bl c, .ty "int"] H Q := r_isiB (by decide +kernel) k
theorem r_isiLL (hs : SqL K H p xs) (k : Q (.bl true) H) : rIsi K [.ref p, .ty "list"] H Q := r_isiL hs (by decide +kernel) k
/-! lists compared -/
theorem dpAll_int (ns : List Int) : DpAll K H (ns.map V.int) (ns.map PyData.int) := by
  induction ns with
  | nil => exact .nil
  | cons a r ih => exact .cons (.int a) ih
theorem dpAll_bl (bs : List Bool) : DpAll K H (bs.map V.bl) (bs.map PyData.bool) := by
  induction bs with
  | nil => exact .nil
  | cons a r ih => exact .cons (.bl a) ih
theorem eqvAll_int : ∀ ns ms : List Int, PyData.eqvAll (ns.map PyData.int) (ms.map PyData.int) = decide (ns = ms)
  | [], [] => by simp [PyData.eqvAll]
  | [], _ :: _ => by simp [PyData.eqvAll]
  | _ :: _, [] => by simp [PyData.eqvAll]
  | a :: r, b :: q => by
    have ih := eqvAll_int r q
    rw [List.map_cons, List.map_cons, PyData.eqvAll, PyData.eqv, ih]
    by_cases h : a = b
    · subst h; simp
    · simp [h]
theorem eqvAll_bl : ∀ ns ms : List Bool, PyData.eqvAll (ns.map PyData.bool) (ms.map PyData.bool) = decide (ns = ms)
  | [], [] => by simp [PyData.eqvAll]
  | [], _ :: _ => by simp [PyData.eqvAll]
  | _ :: _, [] => by simp [PyData.eqvAll]
  | a :: r, b :: q => by
    have ih := eqvAll_bl r q
    rw [List.map_cons, List.map_cons, PyData.eqvAll, PyData.eqv, ih]
    by_cases h : a = b
    · subst h; simp
    · simp [h]
theorem canLay_int (ns : List Int) : PyData.canLayAll0 (ns.map PyData.int) = true := by
  induction ns with
  | nil => simp [PyData.canLayAll0]
  | cons a r ih => rw [List.map_cons, PyData.canLayAll0, ih]; simp [PyData.canLay0]
theorem canLay_bl (ns : List Bool) : PyData.canLayAll0 (ns.map PyData.bool) = true := by
  induction ns with
  | nil => simp [PyData.canLayAll0]
  | cons a r ih => rw [List.map_cons, PyData.canLayAll0, ih]; simp [PyData.canLay0]
theorem depth_int (ns : List Int) : PyData.depthAll (ns.map PyData.int) ≤ 1 := by
  induction ns with
  | nil => simp [PyData.depthAll]
  | cons a r ih => rw [List.map_cons, PyData.depthAll]; simp [PyData.depth]; omega
theorem depth_bl (ns : List Bool) : PyData.depthAll (ns.map PyData.bool) ≤ 1 := by
  induction ns with
  | nil => simp [PyData.depthAll]
  | cons a r ih => rw [List.map_cons, PyData.depthAll]; simp [PyData.depth]; omega
theorem shaped_int (ns : List Int) : SeqAt.shaped (.list (ns.map PyData.int)) = true := by
  unfold SeqAt.shaped
  rw [PyData.canLay0, canLay_int]
  have := depth_int ns
  simp [PyData.depth]
  omega
theorem shaped_bl (ns : List Bool) : SeqAt.shaped (.list (ns.map PyData.bool)) = true := by
  unfold SeqAt.shaped
  rw [PyData.canLay0, canLay_bl]
  have := depth_bl ns
  simp [PyData.depth]
  omega
variable {q : Addr} {ms : List Int} {cs : List Bool}
theorem r_eqL (h1 : SqL K H p (ns.map V.int)) (h2 : SqL K H q (ms.map V.int)) (k : Q (.bl (decide (ns = ms))) H) : rEqD K (.ref p) (.ref q) H Q :=
  ⟨.list (ns.map PyData.int), .list (ms.map PyData.int), .lst h1 (dpAll_int ns), .lst h2 (dpAll_int ms), shaped_int ns, shaped_int ms, by rw [PyData.eqv, eqvAll_int]; exact k⟩
theorem r_neL (h1 : SqL K H p (ns.map V.int)) (h2 : SqL K H q (ms.map V.int)) (k : Q (.bl (!decide (ns = ms))) H) : rNeD K (.ref p) (.ref q) H Q :=
  ⟨.list (ns.map PyData.int), .list (ms.map PyData.int), .lst h1 (dpAll_int ns), .lst h2 (dpAll_int ms), shaped_int ns, shaped_int ms, by rw [PyData.eqv, eqvAll_int]; exact k⟩
theorem r_eqLB (h1 : SqL K H p (bs.map V.bl)) (h2 : SqL K H q (cs.map V.bl)) (k : Q (.bl (decide (bs = cs))) H) : rEqD K (.ref p) (.ref q) H Q :=
  ⟨.list (bs.map PyData.bool), .list (cs.map PyData.bool), .lst h1 (dpAll_bl bs), .lst h2 (dpAll_bl cs), shaped_bl bs, shaped_bl cs, by rw [PyData.eqv, eqvAll_bl]; exact k⟩
theorem r_neLB (h1 : SqL K H p (bs.map V.bl)) (h2 : SqL K H q (cs.map V.bl)) (k : Q (.bl (!decide (bs = cs))) H) : rNeD K (.ref p) (.ref q) H Q :=
  ⟨.list (bs.map PyData.bool), .list (cs.map PyData.bool), .lst h1 (dpAll_bl bs), .lst h2 (dpAll_bl cs), shaped_bl bs, shaped_bl cs, by rw [PyData.eqv, eqvAll_bl]; exact k⟩
/-! + of lists, a slice, index -/
theorem r_cat {zs : List V} (A : At H0 L H) (h1 : H p = some (.lst xs)) (h2 : H q = some (.lst zs)) (hl : xs.length + zs.length ≤ 10000000) (k : ∀ l H', At H0 ((l, .lst (xs ++ zs)) :: L) H' → Q (.ref l) H') : rCat (.ref p) (.ref q) H Q :=
  ⟨p, q, xs, zs, rfl, rfl, h1, h2, sz hl, fun l hl => k l _ (A.alloc hl _)⟩
def slK (r : V → Option Int → Option Int → Hp → VK → Prop) (x : V) (lo hi : Option Int) (H : Hp) (Q : VK) : Prop := r x lo hi H Q
def ptK (x : V) (QO : Option Int → Hp → Prop) (H : Hp) : Prop := ∃ i, x = .int i ∧ QO (some i) H
theorem r_sl {r : V → Option Int → Option Int → Hp → VK → Prop} {tlo thi : TO} (k : ta σ H fun x H1 => tlo σ H1 fun l H2 => thi σ H2 fun u H3 => r x l u H3 Q) : tSl r ta tlo thi σ H Q := k
theorem r_noPart {QO : Option Int → Hp → Prop} (k : QO none H) : tNoPart σ H QO := k
theorem r_part {QO : Option Int → Hp → Prop} (k : ta σ H fun x H1 => ptK x QO H1) : tPart ta σ H QO := k
theorem r_ptK {QO : Option Int → Hp → Prop} (k : QO (some i) H) : ptK (.int i) QO H := ⟨i, rfl, k⟩
theorem r_slL {lo hi : Option Int} (A : At H0 L H) (h1 : SqL K H p xs) (k : ∀ l H', At H0 ((l, .lst (cutV xs lo hi)) :: L) H' → Q (.ref l) H') : rSlL K (.ref p) lo hi H Q :=
  ⟨p, xs, rfl, h1, fun l hl => k l _ (A.alloc hl _)⟩
def revK (K : PySem.W.Frag) (x : V) (H1 : Hp) (Q : VK) : Prop := ∃ a xs, x = .ref a ∧ SqL K H1 a xs ∧ ∀ p, H1 p = none → Q (.ref p) (upd H1 p (.lst xs.reverse))
theorem r_rev (k : ta σ H fun x H1 => revK K x H1 Q) : tRevL K ta σ H Q := k
theorem r_revK (A : At H0 L H) (h1 : SqL K H p xs) (k : ∀ l H', At H0 ((l, .lst xs.reverse) :: L) H' → Q (.ref l) H') : revK K (.ref p) H Q := ⟨p, xs, rfl, h1, fun l hl => k l _ (A.alloc hl _)⟩
theorem r_revKI (A : At H0 L H) (h1 : SqL K H p (ns.map V.int)) (k : ∀ l H', At H0 ((l, .lst (ns.reverse.map V.int)) :: L) H' → Q (.ref l) H') : revK K (.ref p) H Q := r_revK A h1 fun l H' A' => k l H' (by rw [List.map_reverse]; exact A')
theorem r_aug {n : Nat} {ip : TIp} {w : V} (h : σ[n]? = some (some w)) (k : te σ H fun y H1 => ip w y H1 fun z H2 => D.nx (σ.set n (some z)) H2) : tAug n te ip D σ H := ⟨w, h, k⟩
theorem r_ipI {f : Int → Int → Int} (k : Q (.int (f i j)) H) : ipI f (.int i) (.int j) H Q := ⟨i, j, rfl, rfl, k⟩
def parK (n m : Nat) (D : Ends) (σ : L2.St) (vs : List V) (H1 : Hp) : Prop := ∃ v w, vs = [v, w] ∧ D.nx ((σ.set n (some v)).set m (some w)) H1
theorem r_par {n m : Nat} (k : tl σ H fun vs H1 => parK n m D σ vs H1) : tPar n m tl D σ H := k
theorem r_parK {n m : Nat} {w : V} (k : D.nx ((σ.set n (some v)).set m (some w)) H) : parK n m D σ [v, w] H := ⟨v, w, rfl, k⟩
/-! the place of an int -/
theorem flat_ints (ns : List Int) : (ns.map V.int).all flatV = true := by
  induction ns with
  | nil => rfl
  | cons a r ih => rw [List.map_cons, List.all_cons, ih]; rfl
theorem least_at (z : Int) : ∀ {ns : List Int}, z ∈ ns → ∃ j : Nat, ns[j]? = some z ∧ ∀ (m : Nat) (y : Int), m < j → ns[m]? = some y → y ≠ z
  | [], h => nomatch h
  | a :: r, h => by
    by_cases e : a = z
    · exact ⟨0, by rw [e]; rfl, fun m y hm => absurd hm (Nat.not_lt_zero m)⟩
    · have h' : z ∈ r := (List.mem_cons.mp h).resolve_left (fun q => e q.symm)
      obtain ⟨j, h1, h2⟩ := least_at z h'
      refine ⟨j + 1, h1, fun m y hm hy => ?_⟩
      cases m with
      | zero =>
        have : a = y := Option.some.inj hy
        rw [← this]
        exact e
      | succ m => exact h2 m y (by omega) hy
theorem r_index {z : Int} (h : SqL K H p (ns.map V.int)) (hm : z ∈ ns) (k : ∀ j : Nat, ns[j]? = some z → Q (.int (j : Int)) H) : rIndex K (.ref p) [.int z] H Q := by
  obtain ⟨j, h1, h2⟩ := least_at z hm
  refine ⟨p, _, .int z, j, .int z, rfl, rfl, h, rfl, flat_ints ns, by rw [List.getElem?_map, h1]; rfl, by simp [eqV], fun m y hmj hy => ?_, k j h1⟩
  rw [List.getElem?_map] at hy
  cases e : ns[m]? with
  | none => rw [e] at hy; cases hy
  | some u =>
    rw [e] at hy
    have hy' : V.int u = y := Option.some.inj hy
    subst hy'
    have := h2 m u hmj e
    simp [eqV, this]
def mth2K (C C' : Addr) (m : Str) (sp sp' : Sp) (tl : TA) (σ : L2.St) (x : V) (H1 : Hp) (Q : VK) (E E' : XK) : Prop := ∃ a dx fs, x = .ref a ∧ fs.lookup m = none ∧
  ((H1 a = some (.ins C dx fs) ∧ tl σ H1 fun vs H2 => sp (x :: vs) H2 Q E) ∨ (H1 a = some (.ins C' dx fs) ∧ tl σ H1 fun vs H2 => sp' (x :: vs) H2 Q E'))
theorem r_meth2 {C C' : Addr} {m : Str} {sp sp' : Sp} {E E' : XK} (k : ta σ H fun x H1 => mth2K C C' m sp sp' tl σ x H1 Q E E') : tMeth2 C C' m sp sp' E E' ta tl σ H Q := k
theorem r_m2l {C C' dx a : Addr} {m : Str} {sp sp' : Sp} {E E' : XK} {fs : List (Str × V)} (h : H a = some (.ins C dx fs)) (hl : fs.lookup m = none) (k : tl σ H fun vs H2 => sp (.ref a :: vs) H2 Q E) : mth2K C C' m sp sp' tl σ (.ref a) H Q E E' := ⟨a, dx, fs, rfl, hl, .inl ⟨h, k⟩⟩
theorem r_m2r {C C' dx a : Addr} {m : Str} {sp sp' : Sp} {E E' : XK} {fs : List (Str × V)} (h : H a = some (.ins C' dx fs)) (hl : fs.lookup m = none) (k : tl σ H fun vs H2 => sp' (.ref a :: vs) H2 Q E') : mth2K C C' m sp sp' tl σ (.ref a) H Q E E' := ⟨a, dx, fs, rfl, hl, .inr ⟨h, k⟩⟩
/-! over a tuple -/
def tup1 (K : PySem.W.Frag) (x : V) (H : Hp) (R : It → Hp → Prop) : Prop := ∃ a, x = .ref a ∧ (∃ xs, SqT K H a xs) ∧ R (Itt K a) H
theorem r_forT {g : TG} {tb : TS} (k : ta σ H fun x H1 => tup1 K x H1 fun J H2 => forB J g tb D σ H2) : tFor (iTup K ta) g tb D σ H := k
theorem r_tup1 {R : It → Hp → Prop} (h : SqT K H p xs) (k : R (Itt K p) H) : tup1 K (.ref p) H R := ⟨p, rfl, ⟨xs, h⟩, k⟩
theorem r_forItt {g : TG} {tb : TS} (xs : List V) (Pv : Nat → L2.St → Hp → Prop) (h0 : Pv 0 σ H) (hl : ∀ i σ H, i ≤ xs.length → Pv i σ H → SqT K H p xs)
    (hs : ∀ i x σ H (N : L2.St → Hp → Prop), xs[i]? = some x → Pv i σ H → (∀ σ' H', Pv (i + 1) σ' H' → N σ' H') → g x σ H fun σ2 H2 => tb { D with nx := N, ct := N, bk := D.nx } σ2 H2) (hd : ∀ σ H, Pv xs.length σ H → D.nx σ H) : forB (Itt K p) g tb D σ H :=
  for_tup (K := K) (a := p) (xs := xs) Pv h0 hl (fun i x σ H hi pp => hs i x σ H _ hi pp fun _ _ z => z) hd
/-! a list that the def itself stores into -/
theorem At.of (H0 : Hp) {L : List (Addr × HO)} {H : Hp} (A : At H0 L H) : At H0 L H := A
theorem At.more {H0 H : Hp} {L : List (Addr × HO)} {p : Addr} {o : HO} (A : At H0 L H) (h0 : H0 p = none) (h : H p = some o) (hn : ∀ x ∈ L, x.1 ≠ p) : At H0 ((p, o) :: L) H := by
  refine ⟨A.ex, fun x hx => ?_, fun x hx => ?_, ?_⟩
  · rcases List.mem_cons.mp hx with rfl | hx
    · exact h
    · exact A.own x hx
  · rcases List.mem_cons.mp hx with rfl | hx
    · exact h0
    · exact A.new x hx
  · refine List.nodup_cons.mpr ⟨fun hm => ?_, A.nd⟩
    obtain ⟨x, hx, e⟩ := List.mem_map.mp hm
    exact hn x hx e
/-- two new objects -/
theorem At.two {H0 H : Hp} {p q : Addr} {o u : HO} (s : Same H0 H) (hp : H0 p = none) (hq : H0 q = none) (h1 : H p = some o) (h2 : H q = some u) (d : o ≠ u) : At H0 [(p, o), (q, u)] H :=
  At.more (At.made (At.nil H0) s hq h2) hp h1 fun x hx => by
    rw [List.mem_singleton] at hx
    subst hx
    exact fun e => ne_of h1 h2 d e.symm
theorem r_setLI {QH : Hp → Prop} {z : Int} (A : At H0 ((p, .lst (ns.map V.int)) :: L) H) (h1 : 0 ≤ i) (h2 : i < ns.length) (k : ∀ H', At H0 ((p, .lst ((ns.set i.toNat z).map V.int)) :: L) H' → QH H') : rSetL (.ref p) (.int i) (.int z) H QH :=
  r_setL A h1 (by rw [List.length_map]; exact h2) fun H' A' => k H' (by rw [List.map_set]; exact A')
/-! a list of pairs made: numbers by place, some left out -/
/-- at xs stand references to pairs: those of ps -/
def Prs (H : Hp) (xs : List V) (ps : List (Int × Int)) : Prop := xs.length = ps.length ∧ ∀ (i : Nat) (q : Int × Int), ps[i]? = some q → ∃ t : Addr, xs[i]? = some (V.ref t) ∧ H t = some (HO.tup [V.int q.1, V.int q.2])
theorem Prs.nil : Prs H [] [] := ⟨rfl, fun i q h => by simp at h⟩
theorem Prs.keep {H H' : Hp} {ps : List (Int × Int)} (P : Prs H xs ps) (h : ∀ t q, H t = some (.tup q) → H' t = some (.tup q)) : Prs H' xs ps := ⟨P.1, fun i q e => by
  obtain ⟨t, h1, h2⟩ := P.2 i q e
  exact ⟨t, h1, h _ _ h2⟩⟩
theorem Prs.snoc {ps : List (Int × Int)} {t : Addr} {q : Int × Int} (P : Prs H xs ps) (h : H t = some (.tup [.int q.1, .int q.2])) : Prs H (xs ++ [.ref t]) (ps ++ [q]) := by
  refine ⟨by rw [List.length_append, List.length_append, P.1]; rfl, fun i r e => ?_⟩
  by_cases hi : i < ps.length
  · rw [List.getElem?_append_left hi] at e
    obtain ⟨u, h1, h2⟩ := P.2 i r e
    exact ⟨u, by rw [List.getElem?_append_left (by rw [P.1]; exact hi)]; exact h1, h2⟩
  · rw [List.getElem?_append_right (by omega)] at e
    have hz : i - ps.length = 0 := by
      have := (List.getElem?_eq_some_iff.mp e).1
      simp at this
      omega
    rw [hz] at e
    have e' : q = r := Option.some.inj e
    subst e'
    exact ⟨t, by rw [List.getElem?_append_right (by rw [P.1]; omega), P.1, hz]; rfl, h⟩
theorem r_lcPairs {m : Nat} {vs : List Nat} {n : Nat} (f : Nat → Bool) (g h : Nat → Int) (A : At H0 L H) (hn : n < 10000000) (hw : ∀ x, wipe ((wipe σ vs).set m (some x)) vs = wipe σ vs)
    (he : ∀ (i : Nat) H' L' QT, i < n → At H0 (L' ++ L) H' → mkT [.int (g i), .int (h i)] H' QT → te ((wipe σ vs).set m (some (.int (i : Int)))) H' QT)
    (k : ∀ D H' xs, At H0 ((D, .lst xs) :: L) H' → Prs H' xs (((List.range n).filter f).map fun i => (g i, h i)) → Q (.ref D) H')
    (htt : ∀ (i : Nat) H' L' (QB : Bool → Hp → Prop), i < n → At H0 (L' ++ L) H' → QB (f i) H' → tt ((wipe σ vs).set m (some (.int (i : Int)))) H' QB) : lcB (Itr 0 n) (gName m) tt te vs σ H Q := fun D hD =>
  lc_range (lo := 0) (n := n) (fun i H' => ∃ xs, At H0 ((D, .lst xs) :: L) H' ∧ Prs H' xs (((List.range i).filter f).map fun i => (g i, h i))) ⟨[], A.alloc hD _, Prs.nil⟩ (fun i H' hi ⟨xs, A', P⟩ => by
    refine ⟨hw _, ?_⟩
    show tt ((wipe σ vs).set m (some (.int ((0 : Int) + (i : Int))))) H' _
    rw [Int.zero_add]
    refine htt i H' [(D, .lst xs)] _ hi A' ?_
    cases hf : f i with
    | false =>
      show ∃ xs, _
      rw [List.range_succ, List.filter_append, List.filter_cons_of_neg (by rw [hf]; decide), List.filter_nil, List.append_nil]
      exact ⟨xs, A', P⟩
    | true =>
      show te _ H' _
      refine he i H' [(D, .lst xs)] _ hi A' ⟨by show 2 ≤ sizeLine; exact sz (by decide), fun t ht => ?_⟩
      have B := A'.alloc ht (.tup [.int (g i), .int (h i)])
      have hD2 := B.get (p := D) (List.mem_cons_of_mem _ List.mem_cons_self)
      have ntD : t ≠ D := fun e => by
        rw [e] at ht
        have := A'.get (p := D) List.mem_cons_self
        rw [ht] at this
        cases this
      refine ⟨xs, hD2, ?_, xs ++ [.ref t], (B.tl).put _, ?_⟩
      · have h1 := P.1
        have h2 : (((List.range i).filter f).map fun i => (g i, h i)).length ≤ i := by
          rw [List.length_map]
          have := List.length_filter_le f (List.range i)
          rw [List.length_range] at this
          exact this
        exact sz' (by omega)
      · rw [List.range_succ, List.filter_append, List.filter_cons_of_pos hf, List.filter_nil, List.map_append]
        refine Prs.snoc (Prs.keep P fun u q e => ?_) ?_
        · have nu : u ≠ t := fun z => by rw [z, ht] at e; cases e
          have nD : u ≠ D := fun z => by
            rw [z] at e
            have := A'.get (p := D) List.mem_cons_self
            rw [e] at this
            cases this
          rw [upd_ne nD, upd_ne nu]
          exact e
        · rw [upd_ne ntD]
          exact upd_same) (fun H' ⟨xs, A', P⟩ => k D H' xs A' P)
/-- what pair a reference is to -/
def kfH (H : Hp) : V → Int × Int
  | .ref t => match H t with
    | some (.tup [.int a, .int b]) => (a, b)
    | _ => (0, 0)
  | _ => (0, 0)
theorem kfH_of {t : Addr} {a b : Int} (h : H t = some (.tup [.int a, .int b])) : kfH H (.ref t) = (a, b) := by simp only [kfH, h]
theorem Prs.of {ps : List (Int × Int)} (h : ∀ x ∈ xs, ∃ t, x = V.ref t ∧ H t = some (.tup [.int (kfH H x).1, .int (kfH H x).2])) (e : xs.map (kfH H) = ps) : Prs H xs ps := by
  subst e
  refine ⟨by rw [List.length_map], fun i q hq => ?_⟩
  rw [List.getElem?_map] at hq
  cases hx : xs[i]? with
  | none => rw [hx] at hq; cases hq
  | some x =>
    rw [hx] at hq
    obtain ⟨t, rfl, ht⟩ := h x (List.mem_of_getElem? hx)
    have : kfH H (.ref t) = q := Option.some.inj hq
    rw [this] at ht
    exact ⟨t, rfl, ht⟩
theorem Prs.kf {ps : List (Int × Int)} (P : Prs H xs ps) : (∀ x ∈ xs, ∃ t, x = V.ref t ∧ H t = some (.tup [.int (kfH H x).1, .int (kfH H x).2])) ∧ xs.map (kfH H) = ps := by
  constructor
  · intro x hx
    obtain ⟨i, hi, e⟩ := List.getElem_of_mem hx
    have hi2 : i < ps.length := by rw [← P.1]; exact hi
    obtain ⟨t, h1, h2⟩ := P.2 i (ps[i]'hi2) (List.getElem?_eq_getElem hi2)
    rw [List.getElem?_eq_getElem hi, e] at h1
    have : x = V.ref t := Option.some.inj h1
    subst this
    refine ⟨t, rfl, ?_⟩
    rw [kfH_of h2]
    exact h2
  · refine List.ext_getElem? fun i => ?_
    by_cases hi : i < ps.length
    · obtain ⟨t, h1, h2⟩ := P.2 i ps[i] (List.getElem?_eq_getElem hi)
      rw [List.getElem?_map, h1, List.getElem?_eq_getElem hi]
      show some (kfH H (.ref t)) = _
      rw [kfH_of h2]
    · rw [List.getElem?_eq_none (by rw [List.length_map, P.1]; omega), List.getElem?_eq_none (by omega)]
theorem r_sorted {ps : List (Int × Int)} (A : At H0 ((p, .lst xs) :: L) H) (P : Prs H xs ps)
    (k : ∀ ys qs q H', At H0 ((q, .lst ys) :: (p, .lst xs) :: L) H' → qs.Perm ps → qs.Pairwise (fun a b => a.1 ≤ b.1) → Prs H' ys qs → Q (.ref q) H') : rSortedPO K [.ref p] H Q := by
  obtain ⟨h1, h2⟩ := P.kf
  refine ⟨p, xs, kfH H, rfl, A.sqo List.mem_cons_self, h1, fun ys q hs hst hq => ?_⟩
  refine k ys (ys.map (kfH H)) q _ (A.alloc hq _) (by rw [← h2]; exact hst.perm.map _) ?_ ?_
  · refine List.pairwise_map.mpr (hs.imp fun {a b} hab => ?_)
    have := SrtO.lexB_no.mp hab
    omega
  · have hy : ∀ x ∈ ys, ∃ t, x = V.ref t ∧ H t = some (.tup [.int (kfH H x).1, .int (kfH H x).2]) := fun x hx => h1 x (hst.perm.mem_iff.mp hx)
    refine Prs.keep (Prs.of hy rfl) fun t r e => ?_
    rw [upd_ne (ne_of_none e hq)]
    exact e
theorem r_gTup2 {i j : Nat} {t : Addr} {u v : V} {QS : L2.St → Hp → Prop} (h : SqT K H t [u, v]) (k : QS ((σ.set i (some u)).set j (some v)) H) : gTup K 2 (gCons (gName i) (gCons (gName j) gNil)) (.ref t) σ H QS :=
  ⟨t, _, rfl, h, rfl, u, [v], rfl, v, [], rfl, rfl, k⟩
/-! over zip of two lists of ints -/
def zip1 (K : PySem.W.Frag) (vs : List V) (H1 : Hp) (R : It → Hp → Prop) : Prop := ∃ a b xs ys, vs = [.ref a, .ref b] ∧ SqL K H1 a xs ∧ SqL K H1 b ys ∧ R (Itz K a b) H1
theorem r_forZ {g : TG} {tb : TS} (k : tl σ H fun vs H1 => zip1 K vs H1 fun J H2 => forB J g tb D σ H2) : tFor (iZip K tl) g tb D σ H := k
theorem r_lcZ {g : TG} {vs : List Nat} (k : tl σ H fun us H1 => zip1 K us H1 fun J H2 => lcB J g tt te vs σ H2 Q) : tLc (iZip K tl) g tt te vs σ H Q := k
theorem r_zip1 {R : It → Hp → Prop} {ys : List V} (h : SqL K H p xs) (h2 : SqL K H q ys) (k : R (Itz K p q) H) : zip1 K [.ref p, .ref q] H R := ⟨p, q, xs, ys, rfl, h, h2, k⟩
theorem map_get_inv {ns : List Int} {i : Nat} {x : V} (h : (ns.map V.int)[i]? = some x) : ∃ z, ns[i]? = some z ∧ x = V.int z := by
  rw [List.getElem?_map] at h
  cases e : ns[i]? with
  | none => rw [e] at h; cases h
  | some z => rw [e] at h; exact ⟨z, rfl, (Option.some.inj h).symm⟩
theorem r_forItz {i1 j1 : Nat} {tb : TS} (ns ms : List Int) (hlen : ns.length = ms.length) (Pv : Nat → L2.St → Hp → Prop) (h0 : Pv 0 σ H) (hl : ∀ i σ H, Pv i σ H → SqL K H p (ns.map V.int) ∧ SqL K H q (ms.map V.int))
    (hs : ∀ i x y σ H t (N : L2.St → Hp → Prop), ns[i]? = some x → ms[i]? = some y → Pv i σ H → H t = none → (∀ σ' H', Pv (i + 1) σ' H' → N σ' H') → tb { D with nx := N, ct := N, bk := D.nx } ((σ.set i1 (some (V.int x))).set j1 (some (V.int y))) (upd H t (.tup [.int x, .int y])))
    (hd : ∀ σ H, Pv ns.length σ H → D.nx σ H) : forB (Itz K p q) (gTup K 2 (gCons (gName i1) (gCons (gName j1) gNil))) tb D σ H :=
  for_it (walk_zip (K := K) (a := p) (b := q) (xs := ns.map V.int) (ys := ms.map V.int) (n := ns.length) (by rw [List.length_map, List.length_map]; omega)) Pv h0 (fun i σ H _ pp => hl i σ H pp) (fun i v σ H H' hi pp hy => by
    obtain ⟨t, x0, y0, rfl, ht, rfl, hx0, hy0⟩ := hy
    obtain ⟨x, hx, rfl⟩ := map_get_inv hx0
    obtain ⟨y, hy, rfl⟩ := map_get_inv hy0
    refine r_gTup2 (SqT.of upd_same) ?_
    exact hs i x y σ H t _ hx hy pp ht fun _ _ z => z) hd
theorem zipWith_take_succ {f : Int → Int → Int} {ns ms : List Int} {i : Nat} {x y : Int} (hx : ns[i]? = some x) (hy : ms[i]? = some y) : (List.zipWith f ns ms).take (i + 1) = (List.zipWith f ns ms).take i ++ [f x y] := by
  rw [List.take_add_one, List.getElem?_zipWith, hx, hy]
  rfl
theorem r_lcZI {i1 j1 : Nat} {vs : List Nat} (f : Int → Int → Int) (ns ms : List Int) (hlen : ns.length = ms.length) (A : At H0 L H) (h1 : SqL K H0 p (ns.map V.int) ∨ (p, HO.lst (ns.map V.int)) ∈ L) (h2 : SqL K H0 q (ms.map V.int) ∨ (q, HO.lst (ms.map V.int)) ∈ L) (hn : ns.length < 10000000) (hw : ∀ x y, wipe (((wipe σ vs).set i1 (some x)).set j1 (some y)) vs = wipe σ vs)
    (hs : ∀ (i : Nat) (x y : Int) H' L' Q', ns[i]? = some x → ms[i]? = some y → At H0 (L' ++ L) H' → (∀ v H2, v = V.int (f x y) → At H0 (L' ++ L) H2 → Q' v H2) → te (((wipe σ vs).set i1 (some (.int x))).set j1 (some (.int y))) H' Q')
    (k : ∀ D H', At H0 ((D, .lst ((List.zipWith f ns ms).map V.int)) :: L) H' → Q (.ref D) H') : lcB (Itz K p q) (gTup K 2 (gCons (gName i1) (gCons (gName j1) gNil))) tYes te vs σ H Q := fun D hD =>
  lc_it (walk_zip (K := K) (a := p) (b := q) (xs := ns.map V.int) (ys := ms.map V.int) (n := ns.length) (by rw [List.length_map, List.length_map]; omega)) (fun i H' => At H0 ((D, .lst (((List.zipWith f ns ms).take i).map V.int)) :: L) H') (A.alloc hD _) (fun i H' _ A' => by
    refine ⟨?_, ?_⟩
    · rcases h1 with h | h
      · exact A'.sq h
      · exact A'.sqo (List.mem_cons_of_mem _ h)
    · rcases h2 with h | h
      · exact A'.sq h
      · exact A'.sqo (List.mem_cons_of_mem _ h)) (fun i v H' H2 hi A' hy => by
    obtain ⟨t, x0, y0, rfl, ht, rfl, hx0, hy0⟩ := hy
    obtain ⟨x, hx, rfl⟩ := map_get_inv hx0
    obtain ⟨y, hy, rfl⟩ := map_get_inv hy0
    refine r_gTup2 (SqT.of upd_same) ⟨hw _ _, ?_⟩
    have B := A'.alloc ht (.tup [.int x, .int y])
    refine hs i x y _ [(t, .tup [.int x, .int y]), (D, .lst (((List.zipWith f ns ms).take i).map V.int))] _ hx hy B fun v H3 e A3 => ?_
    subst e
    have C := A3.tl
    refine ⟨_, C.get List.mem_cons_self, ?_, ?_⟩
    · rw [List.length_map, List.length_take]
      exact sz' (by omega)
    · rw [zipWith_take_succ hx hy, List.map_append]
      exact C.put _) (fun H' A' => by
    rw [List.take_of_length_le (by rw [List.length_zipWith]; omega)] at A'
    exact k D H' A')
theorem ty_tuple (h : SqT K H p xs) : TyX K H (.ref p) (.type "tuple") := by
  rcases h with (h | ⟨o, h⟩) | ⟨o, its, n, h, hc, _⟩
  · exact .base (.tup h)
  · exact .fTuple h
  · exact .kTuple h hc
theorem r_isiT {b : Bool} {n : String} (hs : SqT K H p xs) (h : kitB "tuple" n = some b) (k : Q (.bl b) H) : rIsi K [.ref p, .ty n] H Q := ⟨_, _, _, _, b, rfl, .ty n, ty_tuple hs, kit_ty h, k⟩
theorem r_isiTT (hs : SqT K H p xs) (k : Q (.bl true) H) : rIsi K [.ref p, .ty "tuple"] H Q := r_isiT hs (by decide +kernel) k
theorem r_cut {Mid : L2.St → Hp → Prop} (h : t { D with nx := Mid } σ H) (k : ∀ σ' H', Mid σ' H' → u D σ' H') : Evl.tCut t u D σ H := ⟨Mid, h, k⟩
theorem rep_flat (z : Int) : ∀ n : Nat, (List.replicate n [V.int z]).flatten = (List.replicate n z).map V.int
  | 0 => rfl
  | n + 1 => by
    rw [List.replicate_succ, List.replicate_succ, List.flatten_cons, List.map_cons, rep_flat z n]
    rfl
theorem r_rep1 {z : Int} (A : At H0 L H) (h : H p = some (.lst [V.int z])) {n : Nat} (hi : i = (n : Int)) (hn : n ≤ 1000000) (k : ∀ l H', At H0 ((l, .lst ((List.replicate n z).map V.int)) :: L) H' → Q (.ref l) H') : rRep (.ref p) (.int i) H Q := by
  subst hi
  refine ⟨p, _, _, rfl, rfl, h, by omega, by omega, ?_, fun l hl => ?_⟩
  · show 1 * ((n : Int)).toNat ≤ sizeLine
    exact sz (by omega)
  · rw [Int.toNat_natCast, rep_flat]
    exact k l _ (A.alloc hl _)
theorem At.made2 {H0 H H' : Hp} {L : List (Addr × HO)} {p q : Addr} {o u : HO} (A : At H0 L H) (s : Same H H') (hp : H p = none) (hq : H q = none) (h1 : H' p = some o) (h2 : H' q = some u) (d : p ≠ q) : At H0 ((p, o) :: (q, u) :: L) H' :=
  At.more (At.made A s hq h2) (A.ex.free hp) h1 fun x hx => by
    rcases List.mem_cons.mp hx with rfl | hx
    · exact d.symm
    · exact ne_of_none (A.own x hx) hp
theorem At.bring {H0 H : Hp} {L1 L2 : List (Addr × HO)} {x : Addr × HO} (A : At H0 (L1 ++ x :: L2) H) : At H0 (x :: (L1 ++ L2)) H := A.perm List.perm_middle.symm
def bm0K (K : PySem.W.Frag) (T : String) (r : V → List V → Hp → VK → Prop) (x : V) (H : Hp) (Q : VK) : Prop := tyV K T x H ∧ r x [] H Q
theorem r_bm0 {T : String} {r : V → List V → Hp → VK → Prop} (k : ta σ H fun x H1 => bm0K K T r x H1 Q) : tBM0 K T r ta σ H Q := k
theorem r_bm0L {r : V → List V → Hp → VK → Prop} (h : SqL K H p xs) (k : r (.ref p) [] H Q) : bm0K K "list" r (.ref p) H Q := ⟨Or.inl ⟨rfl, _, h⟩, k⟩
theorem r_clear (A : At H0 ((p, .lst xs) :: L) H) (k : ∀ H', At H0 ((p, .lst []) :: L) H' → Q .non H') : rClear (.ref p) [] H Q := ⟨p, xs, rfl, rfl, A.get List.mem_cons_self, k _ (A.put _)⟩
theorem Same.hp {H H' : Hp} {p : Addr} {o : HO} (s : Same H H') (h : H p = some o) : H' p = some o := s _ _ h
theorem Same.st {H H' : Hp} {p : Addr} {xs : List V} (s : Same H H') (h : SqT K H p xs) : SqT K H' p xs := (At.nil H |>.same s).st h
end
end EB

/-! EvMath: lists of ints around a ring -/
namespace EM
open EB
theorem gz_mem {ns : List Int} {i : Int} (h0 : -(ns.length : Int) ≤ i) (h1 : i < ns.length) : gz ns i ∈ ns := by
  unfold gz
  by_cases h : 0 ≤ i
  · rw [if_pos h, List.getD_eq_getElem?_getD, List.getElem?_eq_getElem (show i.toNat < ns.length by omega)]
    exact List.getElem_mem _
  · rw [if_neg h, List.getD_eq_getElem?_getD, List.getElem?_eq_getElem (show (i + ns.length).toNat < ns.length by omega)]
    exact List.getElem_mem _
theorem map_app {α β : Type} (f : α → β) (l : List α) (x : α) : l.map f ++ [f x] = (l ++ [x]).map f := by simp
/-- what each gives more than comes in, around -/
def cyc (cs : List Int) : List Int := (List.range cs.length).map fun (k : Nat) => gz cs (k : Int) - gz cs ((k : Int) - 1)
theorem cyc_len (cs : List Int) : (cyc cs).length = cs.length := by unfold cyc; rw [List.length_map, List.length_range]
theorem sum_range_succ (f : Nat → Int) (n : Nat) : ((List.range (n + 1)).map f).sum = ((List.range n).map f).sum + f n := by
  rw [List.range_succ, List.map_append, List.sum_append]
  simp
/-- the ints by place: a function -/
def fz (ns : List Int) (k : Nat) : Int := ns.getD k 0
theorem gz_pred {cs : List Int} {k : Nat} : gz cs ((k : Int) - 1) = if k = 0 then fz cs (cs.length - 1) else fz cs (k - 1) := by
  unfold gz fz
  by_cases h : k = 0
  · subst h
    rw [if_pos rfl, if_neg (by omega)]
    congr 1
    omega
  · rw [if_neg h, if_pos (by omega)]
    congr 1
    omega
theorem cyc_sum (cs : List Int) (h : cs ≠ []) : (cyc cs).sum = 0 := by
  have key : ∀ n : Nat, 0 < n → ((List.range n).map fun (k : Nat) => gz cs (k : Int) - gz cs ((k : Int) - 1)).sum = fz cs (n - 1) - fz cs (cs.length - 1) := by
    intro n
    induction n with
    | zero => intro z; omega
    | succ n ih =>
      intro _
      rw [sum_range_succ]
      by_cases hn : n = 0
      · subst hn
        rw [gz_nat, gz_pred, if_pos rfl]
        simp [fz]
      · rw [ih (by omega), gz_nat, gz_pred, if_neg hn]
        simp only [fz, Nat.add_sub_cancel]
        omega
  unfold cyc
  rw [key cs.length (List.length_pos_iff.mpr h)]
  omega
theorem cyc_bound {cs : List Int} {b : Int} (hb : ∀ c ∈ cs, -b ≤ c ∧ c ≤ b) : ∀ x ∈ cyc cs, -(2 * b) ≤ x ∧ x ≤ 2 * b := by
  intro x hx
  unfold cyc at hx
  obtain ⟨k, hk, rfl⟩ := List.mem_map.mp hx
  have hk' := List.mem_range.mp hk
  have h1 := hb _ (gz_mem (ns := cs) (i := (k : Int)) (by omega) (by omega))
  have h2 := hb _ (gz_mem (ns := cs) (i := (k : Int) - 1) (by omega) (by omega))
  omega
theorem cyc_head {cs : List Int} (h : cs ≠ []) : (cyc cs).getD 0 0 = fz cs 0 - fz cs (cs.length - 1) := by
  have hl := List.length_pos_iff.mpr h
  unfold cyc
  rw [List.getD_eq_getElem?_getD, List.getElem?_map, List.getElem?_range hl]
  show gz cs ((0 : Nat) : Int) - gz cs (((0 : Nat) : Int) - 1) = _
  rw [gz_nat, gz_pred, if_pos rfl]
  rfl
/-- what a drawn ring is -/
structure Houses (n : Nat) (hs : List Int) : Prop where
  len : hs.length = n + 2
  sum : hs.sum = 0
  bd : ∀ x ∈ hs, -999998 ≤ x ∧ x ≤ 999998
  hd : -500000 ≤ hs.getD 0 0 ∧ hs.getD 0 0 ≤ 500000
theorem houses_of {n : Nat} {cs : List Int} (hl : cs.length = n + 2) (hb : ∀ c ∈ cs, -499999 ≤ c ∧ c ≤ 499999) (h0 : -1 ≤ fz cs 0 ∧ fz cs 0 ≤ 1) : Houses n (cyc cs) := by
  have hne : cs ≠ [] := fun e => by rw [e] at hl; simp at hl
  refine ⟨by rw [cyc_len, hl], cyc_sum cs hne, cyc_bound hb, ?_⟩
  rw [cyc_head hne]
  have : fz cs (cs.length - 1) ∈ cs := by
    unfold fz
    rw [List.getD_eq_getElem?_getD, List.getElem?_eq_getElem (show cs.length - 1 < cs.length by omega)]
    exact List.getElem_mem _
  have := hb _ this
  omega
theorem fz_app {cs : List Int} {x : Int} (h : cs ≠ []) : fz (cs ++ [x]) 0 = fz cs 0 := by
  cases cs with
  | nil => exact absurd rfl h
  | cons a r => rfl
theorem cyc_get {cs : List Int} {k : Nat} (h : k < cs.length) : (cyc cs)[k]? = some (gz cs (k : Int) - gz cs ((k : Int) - 1)) := by
  unfold cyc
  rw [List.getElem?_map, List.getElem?_range h]
  rfl
theorem all_cyc {cs hs : List Int} (hl : cs.length = hs.length) : (((List.range hs.length).map fun (k : Nat) => decide (gz cs (k : Int) - gz cs ((k : Int) - 1) = gz hs (k : Int))).all id) = decide (cyc cs = hs) := by
  rw [Bool.eq_iff_iff]
  rw [List.all_eq_true, decide_eq_true_eq]
  constructor
  · intro h
    refine List.ext_getElem? fun k => ?_
    by_cases hk : k < hs.length
    · rw [cyc_get (by omega)]
      have := h (decide (gz cs (k : Int) - gz cs ((k : Int) - 1) = gz hs (k : Int))) (List.mem_map.mpr ⟨k, List.mem_range.mpr hk, rfl⟩)
      have e := of_decide_eq_true this
      rw [e, gz_nat, List.getD_eq_getElem?_getD, List.getElem?_eq_getElem hk]
      rfl
    · rw [List.getElem?_eq_none (by rw [cyc_len]; omega), List.getElem?_eq_none (by omega)]
  · intro h b hb
    obtain ⟨k, hk, rfl⟩ := List.mem_map.mp hb
    have hk' := List.mem_range.mp hk
    have := cyc_get (cs := cs) (k := k) (by omega)
    rw [h, List.getElem?_eq_getElem hk'] at this
    refine decide_eq_true ?_
    rw [← Option.some.inj this, gz_nat, List.getD_eq_getElem?_getD, List.getElem?_eq_getElem hk']
    rfl
/-- the running sums -/
def runs (hs : List Int) : List Int := (List.range hs.length).map fun (k : Nat) => (hs.take (k + 1)).sum
theorem runs_len (hs : List Int) : (runs hs).length = hs.length := by unfold runs; rw [List.length_map, List.length_range]
theorem runs_get {hs : List Int} {k : Nat} (h : k < hs.length) : (runs hs)[k]? = some (hs.take (k + 1)).sum := by
  unfold runs
  rw [List.getElem?_map, List.getElem?_range h]
  rfl
theorem runs_take {hs : List Int} {i : Nat} {x : Int} (h : hs[i]? = some x) : (runs hs).take (i + 1) = (runs hs).take i ++ [(hs.take (i + 1)).sum] := by
  have hi : i < hs.length := (List.getElem?_eq_some_iff.mp h).1
  rw [List.take_add_one, runs_get hi]
  rfl
/-- the least and the greatest of a list -/
structure Ext (ns : List Int) (lo hi : Int) : Prop where
  lm : lo ∈ ns
  hm : hi ∈ ns
  bd : ∀ y ∈ ns, lo ≤ y ∧ y ≤ hi
theorem Ext.uniq {ns : List Int} {lo hi lo' hi' : Int} (a : Ext ns lo hi) (b : Ext ns lo' hi') : lo = lo' ∧ hi = hi' := by
  have h1 := a.bd _ b.lm
  have h2 := b.bd _ a.lm
  have h3 := a.bd _ b.hm
  have h4 := b.bd _ a.hm
  omega
theorem fz_get {ns : List Int} {k : Nat} (h : k < ns.length) : ns[k]? = some (fz ns k) := by
  unfold fz
  rw [List.getD_eq_getElem?_getD, List.getElem?_eq_getElem h]
  rfl
theorem fz_of {ns : List Int} {k : Nat} {x : Int} (h : ns[k]? = some x) : fz ns k = x := by
  unfold fz
  rw [List.getD_eq_getElem?_getD, h]
  rfl
theorem fz_map {f : Int → Int} {ns : List Int} {k : Nat} (h : k < ns.length) : fz (ns.map f) k = f (fz ns k) := by
  refine fz_of ?_
  rw [List.getElem?_map, fz_get h]
  rfl
theorem fz_runs {hs : List Int} {k : Nat} (h : k < hs.length) : fz (runs hs) k = (hs.take (k + 1)).sum := fz_of (runs_get h)
theorem sum_take_succ {hs : List Int} {k : Nat} (h : k < hs.length) : (hs.take (k + 1)).sum = (hs.take k).sum + fz hs k := by
  rw [List.take_add_one, fz_get h, List.sum_append]
  simp
theorem list_ext {xs ys : List Int} (hl : xs.length = ys.length) (h : ∀ k, k < xs.length → fz xs k = fz ys k) : xs = ys := by
  refine List.ext_getElem? fun k => ?_
  by_cases hk : k < xs.length
  · rw [fz_get hk, fz_get (by omega), h k hk]
  · rw [List.getElem?_eq_none (by omega), List.getElem?_eq_none (by omega)]
theorem fz_cyc {cs : List Int} {k : Nat} (h : k < cs.length) : fz (cyc cs) k = fz cs k - (if k = 0 then fz cs (cs.length - 1) else fz cs (k - 1)) := by
  rw [fz_of (cyc_get h), gz_nat, gz_pred]
  rfl
/-- the running sums, all less the same number, even a ring that has nothing in all -/
theorem cyc_runs {hs : List Int} (m : Int) (h0 : hs.sum = 0) : cyc ((runs hs).map fun r => r - m) = hs := by
  have hl : ((runs hs).map fun r => r - m).length = hs.length := by rw [List.length_map, runs_len]
  refine list_ext (by rw [cyc_len, hl]) fun k hk => ?_
  rw [cyc_len] at hk
  rw [fz_cyc hk, hl]
  have hrl := runs_len hs
  rw [fz_map (by omega), fz_runs (by omega)]
  by_cases h : k = 0
  · subst h
    rw [if_pos rfl, fz_map (by omega), fz_runs (by omega)]
    have e : hs.take (hs.length - 1 + 1) = hs := List.take_of_length_le (by omega)
    rw [e, h0, sum_take_succ (by omega)]
    simp
  · rw [if_neg h, fz_map (by omega), fz_runs (by omega), sum_take_succ (by omega)]
    rw [show k - 1 + 1 = k by omega]
    omega
theorem mid_ok {lo hi y most : Int} (h1 : lo ≤ y) (h2 : y ≤ hi) (h : hi - lo ≤ 2 * most) : ((y - (lo + hi) / 2).natAbs : Int) ≤ most := by omega
/-- what the houses on a stretch have together -/
def str (hs : List Int) (f m : Nat) : Int := (((hs ++ hs).drop f).take m).sum
theorem str_in {hs : List Int} {f m : Nat} (h : f + m ≤ hs.length) : str hs f m = (hs.take (f + m)).sum - (hs.take f).sum := by
  unfold str
  rw [List.drop_append_of_le_length (by omega), List.take_append_of_le_length (by rw [List.length_drop]; omega)]
  have : hs.take (f + m) = hs.take f ++ (hs.drop f).take m := by rw [List.take_add]
  rw [this, List.sum_append]
  omega
theorem str_cyc {hs : List Int} {f m : Nat} (hf : f < hs.length) (hm : m < hs.length) : str hs f m = ((List.range m).map fun (k : Nat) => gz hs (((f : Int) + (k : Int)) % (hs.length : Int))).sum := by
  unfold str
  congr 1
  refine list_ext ?_ fun k hk => ?_
  · rw [List.length_take, List.length_drop, List.length_append, List.length_map, List.length_range]
    omega
  · rw [List.length_take, List.length_drop, List.length_append] at hk
    have e1 : (((hs ++ hs).drop f).take m)[k]? = (hs ++ hs)[f + k]? := by
      rw [List.getElem?_take, if_pos (by omega), List.getElem?_drop]
    have e2 : fz ((List.range m).map fun (k : Nat) => gz hs (((f : Int) + (k : Int)) % (hs.length : Int))) k = gz hs (((f : Int) + (k : Int)) % (hs.length : Int)) := by
      refine fz_of ?_
      rw [List.getElem?_map, List.getElem?_range (by omega)]
      rfl
    rw [e2]
    by_cases h : f + k < hs.length
    · have e3 : ((f : Int) + (k : Int)) % (hs.length : Int) = ((f + k : Nat) : Int) := by rw [Int.emod_eq_of_lt (by omega) (by omega)]; omega
      rw [e3, gz_nat]
      rw [List.getElem?_append_left h] at e1
      exact fz_of (e1.trans (fz_get h))
    · have e3 : ((f : Int) + (k : Int)) % (hs.length : Int) = ((f + k - hs.length : Nat) : Int) := by
        rw [← Int.sub_emod_right, Int.emod_eq_of_lt (by omega) (by omega)]
        omega
      rw [e3, gz_nat]
      rw [List.getElem?_append_right (by omega)] at e1
      exact fz_of (e1.trans (fz_get (by omega)))
/-- whether a stretch shows what it tells -/
def strB (hs : List Int) (f m most : Int) : Bool := decide (hs.sum = 0) && decide (0 ≤ f ∧ f < hs.length) && decide (1 ≤ m ∧ m < hs.length) && decide (2 * most < ((str hs f.toNat m.toNat).natAbs : Int))
/-- two running sums far apart are a stretch -/
theorem str_runs {hs : List Int} {i j : Nat} {lo hi most : Int} (hm : 0 ≤ most) (hi' : (runs hs)[i]? = some lo) (hj : (runs hs)[j]? = some hi) (h : 2 * most < hi - lo) :
    0 ≤ min (i : Int) j + 1 ∧ min (i : Int) j + 1 < hs.length ∧ 1 ≤ (((i : Int) - j).natAbs : Int) ∧ (((i : Int) - j).natAbs : Int) < hs.length ∧ ((str hs (min (i : Int) j + 1).toNat ((i : Int) - j).natAbs).natAbs : Int) = hi - lo := by
  have hrl := runs_len hs
  have h1 : i < hs.length := by have := (List.getElem?_eq_some_iff.mp hi').1; omega
  have h2 : j < hs.length := by have := (List.getElem?_eq_some_iff.mp hj).1; omega
  have e1 : (hs.take (i + 1)).sum = lo := by rw [runs_get h1] at hi'; exact Option.some.inj hi'
  have e2 : (hs.take (j + 1)).sum = hi := by rw [runs_get h2] at hj; exact Option.some.inj hj
  have ne : i ≠ j := fun e => by subst e; omega
  refine ⟨by omega, by omega, by omega, by omega, ?_⟩
  rcases Nat.lt_or_gt_of_ne ne with hlt | hlt
  · have a1 : (min (i : Int) j + 1).toNat = i + 1 := by omega
    have a2 : ((i : Int) - j).natAbs = j - i := by omega
    rw [a1, a2, str_in (by omega), show i + 1 + (j - i) = j + 1 by omega, e1, e2]
    omega
  · have a1 : (min (i : Int) j + 1).toNat = j + 1 := by omega
    have a2 : ((i : Int) - j).natAbs = i - j := by omega
    rw [a1, a2, str_in (by omega), show j + 1 + (i - j) = i + 1 by omega, e1, e2]
    omega
theorem strB_true {hs : List Int} {f m most : Int} (h0 : hs.sum = 0) (hf : 0 ≤ f ∧ f < hs.length) (hm : 1 ≤ m ∧ m < hs.length) : strB hs f m most = decide (2 * most < ((str hs f.toNat m.toNat).natAbs : Int)) := by
  unfold strB
  rw [decide_eq_true h0, decide_eq_true hf, decide_eq_true hm]
  rfl
/-- a carrying changed at house 0 evens no more -/
theorem cyc_bent {cs hs : List Int} (hl : 2 ≤ cs.length) (h : cyc cs = hs) : cyc (cs.set 0 (fz cs 0 + 1)) ≠ hs := by
  intro e
  have e1 := fz_cyc (cs := cs) (k := 0) (by omega)
  have e2 := fz_cyc (cs := cs.set 0 (fz cs 0 + 1)) (k := 0) (by rw [List.length_set]; omega)
  rw [h] at e1
  rw [e, if_pos rfl, List.length_set] at e2
  rw [if_pos rfl] at e1
  have a1 : fz (cs.set 0 (fz cs 0 + 1)) 0 = fz cs 0 + 1 := fz_of (List.getElem?_set_self (by omega))
  have a2 : fz (cs.set 0 (fz cs 0 + 1)) (cs.length - 1) = fz cs (cs.length - 1) := by
    refine fz_of ?_
    rw [List.getElem?_set_ne (by omega)]
    exact fz_get (by omega)
  rw [a1, a2] at e2
  omega
/-- the greatest within a bound: all are -/
theorem max_all {ns : List Int} {m b : Int} (h1 : m ∈ ns) (h2 : ∀ y ∈ ns, y ≤ m) : decide (m ≤ b) = ns.all fun y => decide (y ≤ b) := by
  rw [Bool.eq_iff_iff, decide_eq_true_eq, List.all_eq_true]
  constructor
  · intro h y hy
    have := h2 y hy
    exact decide_eq_true (by omega)
  · intro h
    exact of_decide_eq_true (h m h1)
theorem all_map_id {α : Type} (l : List α) (g : α → Bool) : ((l.map g).all id) = l.all g := by rw [List.all_map]; rfl
open PySem L2 in
theorem cut_str {hs : List Int} {f m : Int} (h1 : 0 ≤ f) (h2 : f ≤ hs.length) (h3 : 0 ≤ m) (h4 : m < hs.length) : cutV (hs.map V.int ++ hs.map V.int) (some f) (some (f + m)) = (((hs ++ hs).drop f.toNat).take m.toNat).map V.int := by
  unfold cutV
  obtain ⟨a, rfl⟩ : ∃ a : Nat, f = a := ⟨f.toNat, by omega⟩
  obtain ⟨b, rfl⟩ : ∃ b : Nat, m = b := ⟨m.toNat, by omega⟩
  rw [show (a : Int) + (b : Int) = ((a + b : Nat) : Int) by omega]
  rw [HT.sIx_nat, HT.sIx_nat, List.length_append, List.length_map]
  rw [show min a (hs.length + hs.length) = a by omega, ← List.map_append]
  rw [List.map_take, List.map_drop]
  simp only [Int.toNat_natCast]
  rw [show min (a + b) (hs.length + hs.length) - a = b by omega]
end EM

/-! EvLeast: the middle of numbers with tolls, steps, prices -/
namespace EM
open EB
/-! ### sums over pairs -/
/-- the tolls of the pairs whose number is such -/
def ws (P : Int → Bool) (l : List (Int × Int)) : Int := (l.map fun p => if P p.1 then p.2 else 0).sum
theorem ws_nil (P : Int → Bool) : ws P [] = 0 := rfl
theorem ws_cons (P : Int → Bool) (p : Int × Int) (l : List (Int × Int)) : ws P (p :: l) = (if P p.1 then p.2 else 0) + ws P l := by
  unfold ws
  rw [List.map_cons, List.sum_cons]
theorem ws_append (P : Int → Bool) (l m : List (Int × Int)) : ws P (l ++ m) = ws P l + ws P m := by
  unfold ws
  rw [List.map_append, List.sum_append]
theorem sum_perm {l m : List Int} (h : l.Perm m) : l.sum = m.sum := by
  induction h with
  | nil => rfl
  | cons x _ ih => rw [List.sum_cons, List.sum_cons, ih]
  | swap x y l => rw [List.sum_cons, List.sum_cons, List.sum_cons, List.sum_cons]; omega
  | trans _ _ ih1 ih2 => rw [ih1, ih2]
theorem ws_perm (P : Int → Bool) {l m : List (Int × Int)} (h : l.Perm m) : ws P l = ws P m := sum_perm (h.map _)
theorem ws_nonneg (P : Int → Bool) {l : List (Int × Int)} (h : ∀ p ∈ l, 0 ≤ p.2) : 0 ≤ ws P l := by
  induction l with
  | nil => exact Int.le_refl 0
  | cons a r ih =>
    rw [ws_cons]
    have h1 := ih fun p hp => h p (List.mem_cons_of_mem _ hp)
    have h2 := h a List.mem_cons_self
    split <;> omega
theorem ws_zero (P : Int → Bool) {l : List (Int × Int)} (h : ∀ p ∈ l, P p.1 = false) : ws P l = 0 := by
  induction l with
  | nil => rfl
  | cons a r ih =>
    rw [ws_cons, ih fun p hp => h p (List.mem_cons_of_mem _ hp), h a List.mem_cons_self]
    rfl
theorem ws_mono {P R : Int → Bool} {l : List (Int × Int)} (h : ∀ p ∈ l, 0 ≤ p.2) (hpr : ∀ x, P x = true → R x = true) : ws P l ≤ ws R l := by
  induction l with
  | nil => exact Int.le_refl 0
  | cons a r ih =>
    rw [ws_cons, ws_cons]
    have h1 := ih fun p hp => h p (List.mem_cons_of_mem _ hp)
    have h2 := h a List.mem_cons_self
    cases hp : P a.1 with
    | true => rw [hpr _ hp]; simp; omega
    | false => cases hr : R a.1 <;> simp <;> omega
theorem ws_split (P R : Int → Bool) (l : List (Int × Int)) (h : ∀ x, P x = true → R x = true → False) : ws (fun x => P x || R x) l = ws P l + ws R l := by
  induction l with
  | nil => rfl
  | cons a r ih =>
    rw [ws_cons, ws_cons, ws_cons, ih]
    cases hp : P a.1 <;> cases hr : R a.1
    · simp
    · simp; omega
    · simp; omega
    · exact (h _ hp hr).elim
def all1 : Int → Bool := fun _ => true
def snd (l : List (Int × Int)) : Int := (l.map Prod.snd).sum
theorem ws_all (l : List (Int × Int)) : ws all1 l = snd l := by
  unfold ws snd all1
  simp
theorem snd_append (l m : List (Int × Int)) : snd (l ++ m) = snd l + snd m := by unfold snd; rw [List.map_append, List.sum_append]
theorem snd_take_succ {l : List (Int × Int)} {i : Nat} {p : Int × Int} (h : l[i]? = some p) : snd (l.take (i + 1)) = snd (l.take i) + p.2 := by
  rw [List.take_add_one, h, snd_append]
  simp [snd]
theorem snd_nonneg {l : List (Int × Int)} (h : ∀ p ∈ l, 0 ≤ p.2) : 0 ≤ snd l := by
  rw [← ws_all]
  exact ws_nonneg _ h
/-- m is such that less than half of all lies below it, and half or more up to it -/
structure Mid (l : List (Int × Int)) (m : Int) : Prop where
  lt : 2 * ws (fun x => decide (x < m)) l < snd l
  le : snd l ≤ 2 * ws (fun x => decide (x ≤ m)) l
structure MidH (l : List (Int × Int)) (m : Int) : Prop where
  lt : 2 * ws (fun x => decide (x < m)) l ≤ snd l
  le : snd l < 2 * ws (fun x => decide (x ≤ m)) l
theorem Mid.perm {l k : List (Int × Int)} {m : Int} (h : l.Perm k) (a : Mid l m) : Mid k m := by
  have e : snd l = snd k := by rw [← ws_all, ← ws_all, ws_perm _ h]
  exact ⟨by rw [← ws_perm _ h, ← e]; exact a.lt, by rw [← ws_perm _ h, ← e]; exact a.le⟩
theorem MidH.perm {l k : List (Int × Int)} {m : Int} (h : l.Perm k) (a : MidH l m) : MidH k m := by
  have e : snd l = snd k := by rw [← ws_all, ← ws_all, ws_perm _ h]
  exact ⟨by rw [← ws_perm _ h, ← e]; exact a.lt, by rw [← ws_perm _ h, ← e]; exact a.le⟩
theorem Mid.uniq {l : List (Int × Int)} {m m' : Int} (h : ∀ p ∈ l, 0 ≤ p.2) (a : Mid l m) (b : Mid l m') : m = m' := by
  have key : ∀ {m m'}, Mid l m → Mid l m' → ¬ m < m' := fun {m m'} a b hlt => by
    have h1 : ws (fun x => decide (x ≤ m)) l ≤ ws (fun x => decide (x < m')) l := ws_mono h fun x hx => by
      have := of_decide_eq_true hx
      exact decide_eq_true (by omega)
    have := a.le
    have := b.lt
    omega
  have h1 := key a b
  have h2 := key b a
  omega
theorem Mid.le_high {l : List (Int × Int)} {m m' : Int} (h : ∀ p ∈ l, 0 ≤ p.2) (a : Mid l m) (b : MidH l m') : m ≤ m' := by
  refine Int.not_lt.mp fun hlt => ?_
  have h1 : ws (fun x => decide (x ≤ m')) l ≤ ws (fun x => decide (x < m)) l := ws_mono h fun x hx => by
    have := of_decide_eq_true hx
    exact decide_eq_true (by omega)
  have := a.lt
  have := b.le
  omega
/-! ### sorted pairs -/
def Sorted (l : List (Int × Int)) : Prop := l.Pairwise fun a b => a.1 ≤ b.1
theorem sorted_at {l : List (Int × Int)} (h : Sorted l) {i j : Nat} {p q : Int × Int} (hp : l[i]? = some p) (hq : l[j]? = some q) (hij : i ≤ j) : p.1 ≤ q.1 := by
  rcases Nat.lt_or_eq_of_le hij with hlt | rfl
  · obtain ⟨h1, e1⟩ := List.getElem?_eq_some_iff.mp hp
    obtain ⟨h2, e2⟩ := List.getElem?_eq_some_iff.mp hq
    have := List.pairwise_iff_getElem.mp h i j h1 h2 hlt
    rw [e1, e2] at this
    exact this
  · rw [hp] at hq
    cases hq
    exact Int.le_refl _
theorem mem_take_at {l : List (Int × Int)} {n : Nat} {p : Int × Int} (h : p ∈ l.take n) : ∃ i, i < n ∧ l[i]? = some p := by
  obtain ⟨i, hi, e⟩ := List.getElem_of_mem h
  rw [List.length_take] at hi
  refine ⟨i, by omega, ?_⟩
  rw [← e, List.getElem_take, List.getElem?_eq_getElem]
theorem mem_drop_at {l : List (Int × Int)} {n : Nat} {p : Int × Int} (h : p ∈ l.drop n) : ∃ i, n ≤ i ∧ l[i]? = some p := by
  obtain ⟨i, hi, e⟩ := List.getElem_of_mem h
  rw [List.length_drop] at hi
  refine ⟨n + i, by omega, ?_⟩
  rw [← e, List.getElem_drop, List.getElem?_eq_getElem]
theorem below_le {l : List (Int × Int)} (hs : Sorted l) (h : ∀ p ∈ l, 0 ≤ p.2) {j : Nat} {p : Int × Int} (hp : l[j]? = some p) : ws (fun x => decide (x < p.1)) l ≤ snd (l.take j) := by
  have e : l = l.take j ++ l.drop j := (List.take_append_drop j l).symm
  have h1 : ws (fun x => decide (x < p.1)) l = ws (fun x => decide (x < p.1)) (l.take j) + ws (fun x => decide (x < p.1)) (l.drop j) := by
    rw [← ws_append, List.take_append_drop]
  have h2 : ws (fun x => decide (x < p.1)) (l.drop j) = 0 := ws_zero _ fun q hq => by
    obtain ⟨i, hi, hq'⟩ := mem_drop_at hq
    have := sorted_at hs hp hq' hi
    exact decide_eq_false (by omega)
  have h3 : ws (fun x => decide (x < p.1)) (l.take j) ≤ ws all1 (l.take j) := ws_mono (fun q hq => h q (List.mem_of_mem_take hq)) fun _ _ => rfl
  rw [ws_all] at h3
  omega
theorem upto_ge {l : List (Int × Int)} (hs : Sorted l) (h : ∀ p ∈ l, 0 ≤ p.2) {j : Nat} {p : Int × Int} (hp : l[j]? = some p) : snd (l.take (j + 1)) ≤ ws (fun x => decide (x ≤ p.1)) l := by
  have h1 : ws (fun x => decide (x ≤ p.1)) l = ws (fun x => decide (x ≤ p.1)) (l.take (j + 1)) + ws (fun x => decide (x ≤ p.1)) (l.drop (j + 1)) := by
    rw [← ws_append, List.take_append_drop]
  have h2 : 0 ≤ ws (fun x => decide (x ≤ p.1)) (l.drop (j + 1)) := ws_nonneg _ fun q hq => h q (List.mem_of_mem_drop hq)
  have h3 : ws all1 (l.take (j + 1)) ≤ ws (fun x => decide (x ≤ p.1)) (l.take (j + 1)) := by
    have e : ∀ k : List (Int × Int), (∀ q ∈ k, q.1 ≤ p.1) → ws all1 k = ws (fun x => decide (x ≤ p.1)) k := by
      intro k
      induction k with
      | nil => intro _; rfl
      | cons a r ih =>
        intro hk
        rw [ws_cons, ws_cons, ih fun q hq => hk q (List.mem_cons_of_mem _ hq), decide_eq_true (hk a List.mem_cons_self)]
        rfl
    refine Int.le_of_eq (e _ fun q hq => ?_)
    obtain ⟨i, hi, hq'⟩ := mem_take_at hq
    exact sorted_at hs hq' hp (by omega)
  rw [ws_all] at h3
  omega
/-- the loop's word: what low is behind i pairs -/
structure LowAt (l : List (Int × Int)) (i : Nat) (low : Int) : Prop where
  ex : i = 0 ∨ ∃ j p, j < i ∧ l[j]? = some p ∧ low = p.1 ∧ 2 * snd (l.take j) < snd l ∧ (j + 1 = i ∨ snd l ≤ 2 * snd (l.take (j + 1)))
structure HighAt (l : List (Int × Int)) (i : Nat) (high : Int) : Prop where
  ex : i = 0 ∨ ∃ j p, j < i ∧ l[j]? = some p ∧ high = p.1 ∧ 2 * snd (l.take j) ≤ snd l ∧ (j + 1 = i ∨ snd l < 2 * snd (l.take (j + 1)))
theorem LowAt.yes {l : List (Int × Int)} {i : Nat} {p : Int × Int} (hp : l[i]? = some p) (h : 2 * snd (l.take i) < snd l) : LowAt l (i + 1) p.1 := ⟨.inr ⟨i, p, by omega, hp, rfl, h, .inl rfl⟩⟩
theorem LowAt.no {l : List (Int × Int)} {i : Nat} {low : Int} (a : LowAt l i low) (hW : 0 < snd l) (h : ¬ 2 * snd (l.take i) < snd l) : LowAt l (i + 1) low := by
  rcases a.ex with rfl | ⟨j, p, h1, h2, h3, h4, h5⟩
  · exact (h (by simpa [snd] using hW)).elim
  · refine ⟨.inr ⟨j, p, by omega, h2, h3, h4, .inr ?_⟩⟩
    rcases h5 with rfl | h5
    · omega
    · exact h5
theorem HighAt.yes {l : List (Int × Int)} {i : Nat} {p : Int × Int} (hp : l[i]? = some p) (h : 2 * snd (l.take i) ≤ snd l) : HighAt l (i + 1) p.1 := ⟨.inr ⟨i, p, by omega, hp, rfl, h, .inl rfl⟩⟩
theorem HighAt.no {l : List (Int × Int)} {i : Nat} {high : Int} (a : HighAt l i high) (hW : 0 < snd l) (h : ¬ 2 * snd (l.take i) ≤ snd l) : HighAt l (i + 1) high := by
  rcases a.ex with rfl | ⟨j, p, h1, h2, h3, h4, h5⟩
  · exact (h (by simp [snd] at hW ⊢; omega)).elim
  · refine ⟨.inr ⟨j, p, by omega, h2, h3, h4, .inr ?_⟩⟩
    rcases h5 with rfl | h5
    · omega
    · exact h5
theorem LowAt.mid {l : List (Int × Int)} {low : Int} (hs : Sorted l) (h : ∀ p ∈ l, 0 ≤ p.2) (hn : 0 < l.length) (hW : 0 < snd l) (a : LowAt l l.length low) : Mid l low := by
  rcases a.ex with e | ⟨j, p, h1, h2, h3, h4, h5⟩
  · omega
  · subst h3
    have b1 := below_le hs h h2
    have b2 := upto_ge hs h h2
    refine ⟨by omega, ?_⟩
    rcases h5 with e | h5
    · rw [e, List.take_length] at b2
      omega
    · omega
theorem HighAt.mid {l : List (Int × Int)} {high : Int} (hs : Sorted l) (h : ∀ p ∈ l, 0 ≤ p.2) (hn : 0 < l.length) (hW : 0 < snd l) (a : HighAt l l.length high) : MidH l high := by
  rcases a.ex with e | ⟨j, p, h1, h2, h3, h4, h5⟩
  · omega
  · subst h3
    have b1 := below_le hs h h2
    have b2 := upto_ge hs h h2
    refine ⟨by omega, ?_⟩
    rcases h5 with e | h5
    · rw [e, List.take_length] at b2
      omega
    · omega
/-! ### numbers and tolls by place -/
def prs (S ts : List Int) : List (Int × Int) := (List.range S.length).map fun k => (fz S k, fz ts k)
def prsF (S ts : List Int) : List (Int × Int) := ((List.range S.length).filter fun k => decide (0 < fz ts k)).map fun k => (fz S k, fz ts k)
theorem ws_filter (P : Int → Bool) (f : Nat → Int × Int) (l : List Nat) (h : ∀ k ∈ l, 0 ≤ (f k).2) : ws P ((l.filter fun k => decide (0 < (f k).2)).map f) = ws P (l.map f) := by
  induction l with
  | nil => rfl
  | cons a r ih =>
    have ih' := ih fun k hk => h k (List.mem_cons_of_mem _ hk)
    have h0 := h a List.mem_cons_self
    rw [List.map_cons, ws_cons, ← ih']
    by_cases hp : 0 < (f a).2
    · rw [List.filter_cons_of_pos (by simpa using hp), List.map_cons, ws_cons]
    · rw [List.filter_cons_of_neg (by simpa using hp)]
      have : (f a).2 = 0 := by omega
      rw [this]
      simp
theorem fz_mem {ns : List Int} {k : Nat} (h : k < ns.length) : fz ns k ∈ ns := by
  unfold fz
  rw [List.getD_eq_getElem?_getD, List.getElem?_eq_getElem h]
  exact List.getElem_mem _
theorem ws_prsF (P : Int → Bool) {S ts : List Int} (hl : ts.length = S.length) (h : ∀ t ∈ ts, 0 ≤ t) : ws P (prsF S ts) = ws P (prs S ts) :=
  ws_filter P (fun k => (fz S k, fz ts k)) (List.range S.length) fun k hk => h _ (fz_mem (by have := List.mem_range.mp hk; omega))
theorem snd_prs {S ts : List Int} (hl : ts.length = S.length) : snd (prs S ts) = ts.sum := by
  unfold snd prs
  rw [List.map_map, ← hl]
  congr 1
  refine list_ext (by rw [List.length_map, List.length_range]) fun k hk => ?_
  rw [List.length_map, List.length_range] at hk
  refine fz_of ?_
  rw [List.getElem?_map, List.getElem?_range hk]
  rfl
theorem snd_prsF {S ts : List Int} (hl : ts.length = S.length) (h : ∀ t ∈ ts, 0 ≤ t) : snd (prsF S ts) = ts.sum := by
  rw [← ws_all, ws_prsF _ hl h, ws_all, snd_prs hl]
theorem prsF_pos {S ts : List Int} : ∀ p ∈ prsF S ts, 0 ≤ p.2 := by
  intro p hp
  obtain ⟨k, hk, rfl⟩ := List.mem_map.mp hp
  have := of_decide_eq_true (List.mem_filter.mp hk).2
  show 0 ≤ fz ts k
  omega
theorem prs_pos {S ts : List Int} (hl : ts.length = S.length) (h : ∀ t ∈ ts, 0 ≤ t) : ∀ p ∈ prs S ts, 0 ≤ p.2 := by
  intro p hp
  obtain ⟨k, hk, rfl⟩ := List.mem_map.mp hp
  exact h _ (fz_mem (by have := List.mem_range.mp hk; omega))
theorem mid_prs {S ts : List Int} {m : Int} (hl : ts.length = S.length) (h : ∀ t ∈ ts, 0 ≤ t) (a : Mid (prsF S ts) m) : Mid (prs S ts) m := by
  have h1 := a.lt
  have h2 := a.le
  rw [ws_prsF _ hl h, snd_prsF hl h] at h1 h2
  exact ⟨by rw [snd_prs hl]; exact h1, by rw [snd_prs hl]; exact h2⟩
theorem midH_prs {S ts : List Int} {m : Int} (hl : ts.length = S.length) (h : ∀ t ∈ ts, 0 ≤ t) (a : MidH (prsF S ts) m) : MidH (prs S ts) m := by
  have h1 := a.lt
  have h2 := a.le
  rw [ws_prsF _ hl h, snd_prsF hl h] at h1 h2
  exact ⟨by rw [snd_prs hl]; exact h1, by rw [snd_prs hl]; exact h2⟩
theorem sum_pos {ts : List Int} (h : ∀ t ∈ ts, 0 ≤ t) {t : Int} (ht : t ∈ ts) (hp : 0 < t) : 0 < ts.sum := by
  induction ts with
  | nil => exact nomatch ht
  | cons a r ih =>
    rw [List.sum_cons]
    have h0 := h a List.mem_cons_self
    have hr : 0 ≤ r.sum := by
      have : ∀ l : List Int, (∀ t ∈ l, 0 ≤ t) → 0 ≤ l.sum := by
        intro l
        induction l with
        | nil => intro _; exact Int.le_refl 0
        | cons a r ih =>
          intro h
          rw [List.sum_cons]
          have := ih fun t ht => h t (List.mem_cons_of_mem _ ht)
          have := h a List.mem_cons_self
          omega
      exact this r fun t ht => h t (List.mem_cons_of_mem _ ht)
    rcases List.mem_cons.mp ht with rfl | ht
    · omega
    · have := ih (fun t ht => h t (List.mem_cons_of_mem _ ht)) ht
      omega
/-! ### steps -/
def stp (c t : Int) : Int := if 0 < c then t else if c < 0 then -t else 0
structure StepsOk (cs ts ss : List Int) : Prop where
  len : ss.length = cs.length
  bd : ∀ k, k < cs.length → -fz ts k ≤ fz ss k ∧ fz ss k ≤ fz ts k
  pos : ∀ k, k < cs.length → 0 < fz cs k → fz ss k = fz ts k
  neg : ∀ k, k < cs.length → fz cs k < 0 → fz ss k = -fz ts k
  sum : ss.sum = 0
def steps0 (cs ts : List Int) : List Int := (List.range cs.length).map fun k => stp (fz cs k) (fz ts k)
theorem steps0_len (cs ts : List Int) : (steps0 cs ts).length = cs.length := by unfold steps0; rw [List.length_map, List.length_range]
theorem fz_steps0 {cs ts : List Int} {k : Nat} (h : k < cs.length) : fz (steps0 cs ts) k = stp (fz cs k) (fz ts k) := by
  refine fz_of ?_
  unfold steps0
  rw [List.getElem?_map, List.getElem?_range h]
  rfl
/-- the tolls at bridges with nothing over them, of the first i -/
def zpre (cs ts : List Int) (i : Nat) : Int := ((List.range i).map fun k => if fz cs k = 0 then fz ts k else 0).sum
theorem zpre_succ (cs ts : List Int) (i : Nat) : zpre cs ts (i + 1) = zpre cs ts i + (if fz cs i = 0 then fz ts i else 0) := sum_range_succ _ i
/-- what the greedy loop keeps -/
structure Fill (cs ts : List Int) (i : Nat) (ss : List Int) : Prop where
  len : ss.length = cs.length
  bd : ∀ k, k < cs.length → -fz ts k ≤ fz ss k ∧ fz ss k ≤ fz ts k
  pos : ∀ k, k < cs.length → 0 < fz cs k → fz ss k = fz ts k
  neg : ∀ k, k < cs.length → fz cs k < 0 → fz ss k = -fz ts k
  nil : ∀ k, i ≤ k → k < cs.length → fz cs k = 0 → fz ss k = 0
  lack : -(zpre cs ts cs.length - zpre cs ts i) ≤ ss.sum ∧ ss.sum ≤ zpre cs ts cs.length - zpre cs ts i
theorem Fill.done {cs ts ss : List Int} (a : Fill cs ts cs.length ss) : StepsOk cs ts ss := ⟨a.len, a.bd, a.pos, a.neg, by have := a.lack; omega⟩
theorem Fill.skip {cs ts ss : List Int} {i : Nat} (a : Fill cs ts i ss) (h : fz cs i ≠ 0) : Fill cs ts (i + 1) ss := by
  refine ⟨a.len, a.bd, a.pos, a.neg, fun k h1 h2 h3 => a.nil k (by omega) h2 h3, ?_⟩
  rw [zpre_succ, if_neg h, Int.add_zero]
  exact a.lack
theorem fz_set {l : List Int} {i k : Nat} {x : Int} (hi : i < l.length) (hk : k < l.length) : fz (l.set i x) k = if k = i then x else fz l k := by
  refine fz_of ?_
  by_cases h : k = i
  · subst h
    rw [if_pos rfl]
    exact List.getElem?_set_self hi
  · rw [if_neg h, List.getElem?_set_ne (fun e => h e.symm)]
    exact fz_get hk
theorem zpre_mono {cs ts : List Int} {n : Nat} (ht : ∀ k, k < n → 0 ≤ fz ts k) : ∀ {i : Nat}, i ≤ n → zpre cs ts i ≤ zpre cs ts n := by
  induction n with
  | zero => intro i hi; rw [Nat.le_zero.mp hi]; exact Int.le_refl _
  | succ n ih =>
    intro i hi
    rcases Nat.lt_or_eq_of_le hi with h | rfl
    · have h1 := ih (fun k hk => ht k (by omega)) (i := i) (by omega)
      have h2 := ht n (by omega)
      rw [zpre_succ]
      split <;> omega
    · exact Int.le_refl _
theorem Fill.fill {cs ts ss : List Int} {i : Nat} (a : Fill cs ts i ss) (hi : i < cs.length) (h : fz cs i = 0) (hts : ∀ k, k < cs.length → 0 ≤ fz ts k) :
    Fill cs ts (i + 1) (ss.set i (max (-fz ts i) (min (fz ts i) (-ss.sum)))) := by
  have hl := a.len
  have ht := hts i hi
  have hz : zpre cs ts (i + 1) ≤ zpre cs ts cs.length := zpre_mono hts (by omega)
  rw [zpre_succ, if_pos h] at hz
  have hs : (ss.set i (max (-fz ts i) (min (fz ts i) (-ss.sum)))).sum = ss.sum - fz ss i + max (-fz ts i) (min (fz ts i) (-ss.sum)) := L2.sum_set (fz_get (by omega))
  have h0 := a.nil i (Nat.le_refl i) hi h
  have hlk := a.lack
  refine ⟨by rw [List.length_set]; exact hl, fun k hk => ?_, fun k hk hp => ?_, fun k hk hp => ?_, fun k h1 hk hp => ?_, ?_⟩
  · rw [fz_set (by omega) (by omega)]
    split
    · rename_i e
      subst e
      omega
    · exact a.bd k hk
  · rw [fz_set (by omega) (by omega)]
    split
    · rename_i e
      subst e
      omega
    · exact a.pos k hk hp
  · rw [fz_set (by omega) (by omega)]
    split
    · rename_i e
      subst e
      omega
    · exact a.neg k hk hp
  · rw [fz_set (by omega) (by omega), if_neg (by omega)]
    exact a.nil k (by omega) hk hp
  · rw [hs, zpre_succ, if_pos h, h0]
    omega
/-- half of all tolls at most on either side -/
def Bal (cs ts : List Int) : Prop := -zpre cs ts cs.length ≤ (steps0 cs ts).sum ∧ (steps0 cs ts).sum ≤ zpre cs ts cs.length
theorem Bal.start {cs ts : List Int} (a : Bal cs ts) (hl : ts.length = cs.length) (h : ∀ t ∈ ts, 0 ≤ t) : Fill cs ts 0 (steps0 cs ts) := by
  have ht : ∀ k, k < cs.length → 0 ≤ fz ts k := fun k hk => h _ (fz_mem (by omega))
  refine ⟨steps0_len cs ts, fun k hk => ?_, fun k hk hp => ?_, fun k hk hp => ?_, fun k _ hk hp => ?_, ?_⟩
  · have := ht k hk
    rw [fz_steps0 hk]
    unfold stp
    split
    · omega
    · split <;> omega
  · rw [fz_steps0 hk]
    unfold stp
    rw [if_pos hp]
  · rw [fz_steps0 hk]
    unfold stp
    rw [if_neg (by omega), if_pos hp]
  · rw [fz_steps0 hk]
    unfold stp
    rw [if_neg (by omega), if_neg (by omega)]
  · have e : zpre cs ts 0 = 0 := rfl
    rw [e, Int.sub_zero]
    exact a
theorem map_sum_add (l : List Nat) (f g : Nat → Int) : (l.map fun k => f k + g k).sum = (l.map f).sum + (l.map g).sum := by
  induction l with
  | nil => rfl
  | cons a r ih => rw [List.map_cons, List.map_cons, List.map_cons, List.sum_cons, List.sum_cons, List.sum_cons, ih]; omega
theorem map_sum_congr {l : List Nat} {f g : Nat → Int} (h : ∀ k ∈ l, f k = g k) : (l.map f).sum = (l.map g).sum := by
  rw [List.map_congr_left h]
theorem map_sum_neg (l : List Nat) (f : Nat → Int) : (l.map fun k => -f k).sum = -(l.map f).sum := by
  induction l with
  | nil => rfl
  | cons a r ih => rw [List.map_cons, List.map_cons, List.sum_cons, List.sum_cons, ih]; omega
theorem ws_prs (P : Int → Bool) (S ts : List Int) : ws P (prs S ts) = ((List.range S.length).map fun k => if P (fz S k) then fz ts k else 0).sum := by
  unfold ws prs
  rw [List.map_map]
  rfl
/-- the numbers all less their middle, among these tolls -/
theorem bal_mid {S ts : List Int} {m : Int} (hl : ts.length = S.length) (a : Mid (prs S ts) m) : Bal (S.map fun r => r - m) ts := by
  have h1 := a.lt
  have h2 := a.le
  have hlen : (S.map fun r => r - m).length = S.length := List.length_map _
  have e1 : (steps0 (S.map fun r => r - m) ts).sum = ts.sum - ws (fun x => decide (x ≤ m)) (prs S ts) - ws (fun x => decide (x < m)) (prs S ts) := by
    rw [← snd_prs hl, ← ws_all, ws_prs, ws_prs, ws_prs]
    unfold steps0
    rw [hlen]
    have : ∀ l : List Nat, (∀ k ∈ l, k < S.length) → (l.map fun k => stp (fz (S.map fun r => r - m) k) (fz ts k)).sum = (l.map fun k => if all1 (fz S k) then fz ts k else 0).sum - (l.map fun k => if (fun x => decide (x ≤ m)) (fz S k) then fz ts k else 0).sum - (l.map fun k => if (fun x => decide (x < m)) (fz S k) then fz ts k else 0).sum := by
      intro l
      induction l with
      | nil => intro _; rfl
      | cons k r ih =>
        intro hk
        simp only [List.map_cons, List.sum_cons]
        rw [ih fun j hj => hk j (List.mem_cons_of_mem _ hj), fz_map (hk k List.mem_cons_self)]
        unfold stp all1
        simp only [decide_eq_true_eq, if_true]
        split
        · rw [if_neg (by omega), if_neg (by omega)]; omega
        · split
          · rw [if_pos (by omega), if_pos (by omega)]; omega
          · rw [if_pos (by omega), if_neg (by omega)]; omega
    exact this _ fun k hk => List.mem_range.mp hk
  have e2 : zpre (S.map fun r => r - m) ts S.length = ws (fun x => decide (x ≤ m)) (prs S ts) - ws (fun x => decide (x < m)) (prs S ts) := by
    rw [ws_prs, ws_prs]
    unfold zpre
    have : ∀ l : List Nat, (∀ k ∈ l, k < S.length) → (l.map fun k => if fz (S.map fun r => r - m) k = 0 then fz ts k else 0).sum = (l.map fun k => if (fun x => decide (x ≤ m)) (fz S k) then fz ts k else 0).sum - (l.map fun k => if (fun x => decide (x < m)) (fz S k) then fz ts k else 0).sum := by
      intro l
      induction l with
      | nil => intro _; rfl
      | cons k r ih =>
        intro hk
        simp only [List.map_cons, List.sum_cons]
        rw [ih fun j hj => hk j (List.mem_cons_of_mem _ hj), fz_map (hk k List.mem_cons_self)]
        simp only [decide_eq_true_eq]
        by_cases h0 : fz S k < m
        · rw [if_neg (by omega), if_pos (by omega), if_pos h0]; omega
        · by_cases h1 : fz S k = m
          · rw [if_pos (by omega), if_pos (by omega), if_neg h0]; omega
          · rw [if_neg (by omega), if_neg (by omega), if_neg h0]; omega
    exact this _ fun k hk => List.mem_range.mp hk
  rw [snd_prs hl] at h1 h2
  unfold Bal
  rw [hlen, e1, e2]
  omega
theorem map_sum_zero {l : List Nat} {f : Nat → Int} (h : ∀ k ∈ l, f k = 0) : (l.map f).sum = 0 := by
  induction l with
  | nil => rfl
  | cons a r ih => rw [List.map_cons, List.sum_cons, ih fun k hk => h k (List.mem_cons_of_mem _ hk), h a List.mem_cons_self]; rfl
/-- where all tolls are 0 -/
theorem bal_zero {cs ts : List Int} (hl : ts.length = cs.length) (h : ∀ t ∈ ts, t = 0) : Bal cs ts := by
  have ht : ∀ k, k < cs.length → fz ts k = 0 := fun k hk => h _ (fz_mem (by omega))
  have e1 : (steps0 cs ts).sum = 0 := map_sum_zero fun k hk => by
    rw [ht k (List.mem_range.mp hk)]
    unfold stp
    split
    · rfl
    · split <;> rfl
  have e2 : zpre cs ts cs.length = 0 := map_sum_zero fun k hk => by
    rw [ht k (List.mem_range.mp hk)]
    split <;> rfl
  unfold Bal
  omega
/-! ### prices -/
def pricesOf (ss : List Int) : List Int := (List.range ss.length).map fun k => -(ss.take k).sum
theorem pricesOf_len (ss : List Int) : (pricesOf ss).length = ss.length := by unfold pricesOf; rw [List.length_map, List.length_range]
theorem fz_prices {ss : List Int} {k : Nat} (h : k < ss.length) : fz (pricesOf ss) k = -(ss.take k).sum := by
  refine fz_of ?_
  unfold pricesOf
  rw [List.getElem?_map, List.getElem?_range h]
  rfl
theorem pricesOf_take_succ {ss : List Int} {k : Nat} (h : k < ss.length) : (pricesOf ss).take (k + 1) = (pricesOf ss).take k ++ [-(ss.take k).sum] := by
  rw [List.take_add_one, fz_get (by rw [pricesOf_len]; exact h), fz_prices h]
  rfl
open PySem L2 in
theorem cut_last (ss : List Int) : cutV (ss.map V.int) none (some (-1)) = (ss.take (ss.length - 1)).map V.int := by
  unfold cutV
  have e : HT.sIx (ss.map V.int).length (ss.map V.int).length (some (-1)) = ss.length - 1 := by
    show (if (-1 : Int) < 0 then ((-1 : Int) + ((ss.map V.int).length : Int)).toNat else min (-1 : Int).toNat (ss.map V.int).length) = _
    rw [if_pos (by decide), List.length_map]
    omega
  rw [e, HT.sIx_none, List.drop_zero, Nat.sub_zero, List.map_take]
theorem gz_last {ns : List Int} (h : 0 < ns.length) : gz ns (-1) = fz ns (ns.length - 1) := by
  unfold gz fz
  rw [if_neg (by decide)]
  congr 1
  omega
theorem sum_zero {l : List Int} (h : ∀ t ∈ l, t = 0) : l.sum = 0 := by
  induction l with
  | nil => rfl
  | cons a r ih => rw [List.sum_cons, ih fun t ht => h t (List.mem_cons_of_mem _ ht), h a List.mem_cons_self]; rfl
/-- what least tells of a ring that has nothing in all -/
structure LeastOk (hs ts cs ps : List Int) : Prop where
  ev : cyc cs = hs
  len : cs.length = hs.length
  pr : ∃ ss, StepsOk cs ts ss ∧ ps = pricesOf ss
  mid : 0 < ts.sum → ∃ lo, Mid (prs (runs hs) ts) lo ∧ cs = (runs hs).map fun r => r - lo
/-! ### the cost by what goes over the last bridge -/
def gcost (l : List (Int × Int)) (m : Int) : Int := (l.map fun p => p.2 * ((p.1 - m).natAbs : Int)).sum
theorem gcost_succ (l : List (Int × Int)) (m : Int) : gcost l (m + 1) - gcost l m = 2 * ws (fun x => decide (x ≤ m)) l - snd l := by
  induction l with
  | nil => rfl
  | cons a r ih =>
    have e1 : gcost (a :: r) (m + 1) = a.2 * ((a.1 - (m + 1)).natAbs : Int) + gcost r (m + 1) := by unfold gcost; rw [List.map_cons, List.sum_cons]
    have e2 : gcost (a :: r) m = a.2 * ((a.1 - m).natAbs : Int) + gcost r m := by unfold gcost; rw [List.map_cons, List.sum_cons]
    have e3 : snd (a :: r) = a.2 + snd r := by unfold snd; rw [List.map_cons, List.sum_cons]
    rw [e1, e2, e3, ws_cons]
    by_cases h : a.1 ≤ m
    · rw [if_pos (decide_eq_true h)]
      have e4 : ((a.1 - (m + 1)).natAbs : Int) = ((a.1 - m).natAbs : Int) + 1 := by omega
      rw [e4, Int.mul_add, Int.mul_one]
      omega
    · rw [if_neg (by simpa using h)]
      have e4 : ((a.1 - m).natAbs : Int) = ((a.1 - (m + 1)).natAbs : Int) + 1 := by omega
      rw [e4, Int.mul_add, Int.mul_one]
      omega
theorem gcost_flat {l : List (Int × Int)} (h : ∀ p ∈ l, 0 ≤ p.2) {lo hi : Int} (a : Mid l lo) (b : MidH l hi) : ∀ (n : Nat), lo + n ≤ hi → gcost l (lo + n) = gcost l lo
  | 0, _ => by rw [show lo + ((0 : Nat) : Int) = lo by omega]
  | n + 1, hn => by
    have ih := gcost_flat h a b n (by omega)
    have hs := gcost_succ l (lo + n)
    have h1 : ws (fun x => decide (x ≤ lo)) l ≤ ws (fun x => decide (x ≤ lo + n)) l := ws_mono h fun x hx => by
      have := of_decide_eq_true hx
      exact decide_eq_true (by omega)
    have h2 : ws (fun x => decide (x ≤ lo + n)) l ≤ ws (fun x => decide (x < hi)) l := ws_mono h fun x hx => by
      have := of_decide_eq_true hx
      exact decide_eq_true (by omega)
    have := a.le
    have := b.lt
    rw [show lo + ((n + 1 : Nat) : Int) = lo + n + 1 by omega]
    omega
theorem gcost_in {l : List (Int × Int)} (h : ∀ p ∈ l, 0 ≤ p.2) {lo hi m : Int} (a : Mid l lo) (b : MidH l hi) (h1 : lo ≤ m) (h2 : m ≤ hi) : gcost l m = gcost l lo := by
  have := gcost_flat h a b (m - lo).toNat (by omega)
  rw [show lo + ((m - lo).toNat : Int) = m by omega] at this
  exact this
theorem gcost_below {l : List (Int × Int)} {lo : Int} (a : Mid l lo) : gcost l lo < gcost l (lo - 1) := by
  have h := gcost_succ l (lo - 1)
  rw [show lo - 1 + 1 = lo by omega] at h
  have e : ws (fun x => decide (x ≤ lo - 1)) l = ws (fun x => decide (x < lo)) l := by
    congr 1
    funext x
    by_cases hx : x < lo
    · rw [decide_eq_true hx, decide_eq_true (by omega)]
    · rw [decide_eq_false hx, decide_eq_false (by omega)]
  have := a.lt
  omega
theorem gcost_above {l : List (Int × Int)} {hi : Int} (b : MidH l hi) : gcost l hi < gcost l (hi + 1) := by
  have h := gcost_succ l hi
  have := b.le
  omega
/-- the cost as the row's loop reckons it -/
def costAt (hs ts : List Int) (x : Int) : Int := ((List.range hs.length).map fun k => fz ts k * ((x + (hs.take (k + 1)).sum).natAbs : Int)).sum
theorem costAt_eq (hs ts : List Int) (m : Int) : costAt hs ts (-m) = gcost (prs (runs hs) ts) m := by
  unfold costAt gcost prs
  rw [List.map_map, runs_len]
  refine map_sum_congr fun k hk => ?_
  show _ = fz ts k * ((fz (runs hs) k - m).natAbs : Int)
  rw [fz_runs (List.mem_range.mp hk)]
  congr 3
  omega
/-! ### turned, put together -/
def rot (hs : List Int) (n : Nat) : List Int := hs.drop n ++ hs.take n
theorem rot_len (hs : List Int) (n : Nat) : (rot hs n).length = hs.length := by
  unfold rot
  rw [List.length_append, List.length_drop, List.length_take]
  omega
theorem rot_mem {hs : List Int} {n : Nat} {x : Int} (h : x ∈ rot hs n) : x ∈ hs := by
  rcases List.mem_append.mp h with h | h
  · exact List.mem_of_mem_drop h
  · exact List.mem_of_mem_take h
theorem rot_zero (hs : List Int) : rot hs 0 = hs := by unfold rot; simp
theorem rot_rot {hs : List Int} {n : Nat} (h : n ≤ hs.length) : rot (rot hs n) (hs.length - n) = hs := by
  unfold rot
  have e : (hs.drop n).length = hs.length - n := List.length_drop
  rw [List.drop_append_of_le_length (by omega), List.take_append_of_le_length (by omega), ← e, List.drop_length, List.take_length, List.nil_append, List.take_append_drop]
theorem rot_back {hs : List Int} (b : Int) (h : 0 < hs.length) : rot (rot hs (b % (hs.length : Int)).toNat) ((-b) % (hs.length : Int)).toNat = hs := by
  have m0 : 0 ≤ b % (hs.length : Int) := Int.emod_nonneg _ (by omega)
  have m1 : b % (hs.length : Int) < hs.length := Int.emod_lt_of_pos _ (by omega)
  have n0 : 0 ≤ (-b) % (hs.length : Int) := Int.emod_nonneg _ (by omega)
  have n1 : (-b) % (hs.length : Int) < hs.length := Int.emod_lt_of_pos _ (by omega)
  have e : (b % (hs.length : Int) + (-b) % (hs.length : Int)) % (hs.length : Int) = 0 := by
    rw [← Int.add_emod, Int.add_right_neg, Int.zero_emod]
  by_cases hz : b % (hs.length : Int) = 0
  · rw [hz, Int.zero_add, Int.emod_eq_of_lt n0 n1] at e
    rw [hz, e]
    show rot (rot hs 0) 0 = hs
    rw [rot_zero, rot_zero]
  · have hs2 : b % (hs.length : Int) + (-b) % (hs.length : Int) = hs.length := by
      have hd : (hs.length : Int) ∣ b % (hs.length : Int) + (-b) % (hs.length : Int) := Int.dvd_of_emod_eq_zero e
      obtain ⟨c, hc⟩ := hd
      have hnn : (0 : Int) ≤ (hs.length : Int) := by omega
      have c1 : 0 < c := by
        refine Int.not_le.mp fun hc0 => ?_
        have := Int.mul_le_mul_of_nonneg_left hc0 hnn
        rw [Int.mul_zero] at this
        omega
      have c2 : c < 2 := by
        refine Int.not_le.mp fun hc0 => ?_
        have := Int.mul_le_mul_of_nonneg_left hc0 hnn
        omega
      have : c = 1 := by omega
      rw [hc, this, Int.mul_one]
    have e2 : ((-b) % (hs.length : Int)).toNat = hs.length - (b % (hs.length : Int)).toNat := by omega
    rw [e2]
    exact rot_rot (by omega)
open PySem L2 in
theorem cut_from (hs : List Int) (n : Nat) : cutV (hs.map V.int) (some (n : Int)) none = (hs.drop n).map V.int := by
  unfold cutV
  rw [HT.sIx_nat, HT.sIx_none, List.length_map, ← List.map_drop, ← List.map_take]
  congr 1
  by_cases h : n ≤ hs.length
  · rw [Nat.min_eq_left h]
    exact List.take_of_length_le (by rw [List.length_drop]; omega)
  · rw [Nat.min_eq_right (by omega), List.drop_of_length_le (by omega), List.drop_of_length_le (by omega)]
    simp
open PySem L2 in
theorem cut_to (hs : List Int) (n : Nat) : cutV (hs.map V.int) none (some (n : Int)) = (hs.take n).map V.int := by
  unfold cutV
  rw [HT.sIx_nat, HT.sIx_none, List.length_map, List.drop_zero, Nat.sub_zero, ← List.map_take]
  congr 1
  by_cases h : n ≤ hs.length
  · rw [Nat.min_eq_left h]
  · rw [Nat.min_eq_right (by omega), List.take_of_length_le (by omega), List.take_of_length_le (by omega)]
theorem zip_gz {hs ms : List Int} (hl : ms.length = hs.length) : ((List.range hs.length).map fun (k : Nat) => gz hs (k : Int) + gz ms (k : Int)) = List.zipWith (fun a b => a + b) hs ms := by
  refine list_ext (by rw [List.length_map, List.length_range, List.length_zipWith]; omega) fun k hk => ?_
  rw [List.length_map, List.length_range] at hk
  have e1 : fz ((List.range hs.length).map fun (k : Nat) => gz hs (k : Int) + gz ms (k : Int)) k = gz hs (k : Int) + gz ms (k : Int) := by
    refine fz_of ?_
    rw [List.getElem?_map, List.getElem?_range hk]
    rfl
  have e2 : fz (List.zipWith (fun a b => a + b) hs ms) k = fz hs k + fz ms k := by
    refine fz_of ?_
    rw [List.getElem?_zipWith, fz_get hk, fz_get (by omega)]
  rw [e1, e2, gz_nat, gz_nat]
  rfl
theorem fz_zip {hs ms : List Int} {k : Nat} (h1 : k < hs.length) (h2 : k < ms.length) : fz (List.zipWith (fun a b => a + b) hs ms) k = fz hs k + fz ms k := by
  refine fz_of ?_
  rw [List.getElem?_zipWith, fz_get h1, fz_get h2]
theorem cyc_zip {cs ds : List Int} (hl : ds.length = cs.length) : cyc (List.zipWith (fun a b => a + b) cs ds) = List.zipWith (fun a b => a + b) (cyc cs) (cyc ds) := by
  have hz : (List.zipWith (fun a b => a + b) cs ds).length = cs.length := by rw [List.length_zipWith]; omega
  refine list_ext (by rw [cyc_len, hz, List.length_zipWith, cyc_len, cyc_len]; omega) fun k hk => ?_
  rw [cyc_len, hz] at hk
  have e1 := fz_cyc (cs := List.zipWith (fun a b => a + b) cs ds) (k := k) (by omega)
  rw [hz] at e1
  have e2 := fz_zip (hs := cyc cs) (ms := cyc ds) (k := k) (by rw [cyc_len]; omega) (by rw [cyc_len]; omega)
  have e3 := fz_cyc (cs := cs) (k := k) (by omega)
  have e4 := fz_cyc (cs := ds) (k := k) (by omega)
  have e5 := fz_zip (hs := cs) (ms := ds) (k := k) (by omega) (by omega)
  have e6 := fz_zip (hs := cs) (ms := ds) (k := cs.length - 1) (by omega) (by omega)
  have e7 := fz_zip (hs := cs) (ms := ds) (k := k - 1) (by omega) (by omega)
  rw [e1, e2, e3, e4, e5, e6, e7, hl]
  split <;> omega
theorem sum_zip {hs ms : List Int} (hl : ms.length = hs.length) : (List.zipWith (fun a b => a + b) hs ms).sum = hs.sum + ms.sum := by
  induction hs generalizing ms with
  | nil => cases ms with
    | nil => rfl
    | cons b r => simp at hl
  | cons a r ih => cases ms with
    | nil => simp at hl
    | cons b q =>
      rw [List.zipWith_cons_cons, List.sum_cons, List.sum_cons, List.sum_cons, ih (by simpa using hl)]
      omega
theorem zip_comm (hs ms : List Int) : List.zipWith (fun a b => a + b) ms hs = List.zipWith (fun a b => a + b) hs ms := by
  induction hs generalizing ms with
  | nil => cases ms <;> rfl
  | cons a r ih => cases ms with
    | nil => rfl
    | cons b q => rw [List.zipWith_cons_cons, List.zipWith_cons_cons, ih, Int.add_comm]
/-! ### whether prices show that a carrying costs least -/
def dot (ps hs : List Int) : Int := (List.zipWith (fun p h => p * h) ps hs).sum
def cost (ts cs : List Int) : Int := (List.zipWith (fun t c => t * (c.natAbs : Int)) ts cs).sum
def stepB (ts ps : List Int) : Bool := (List.range ps.length).all fun (k : Nat) => decide (((gz ps (k : Int) - gz ps ((k : Int) - 1)).natAbs : Int) ≤ gz ts ((k : Int) - 1))
def pricedB (hs ts cs ps : List Int) : Bool := stepB ts ps && decide (dot ps hs = cost ts cs)
def showB (hs ts cs ps : List Int) : Bool := decide (cyc cs = hs) && (decide (ps.length = hs.length) && (decide (ts.length = hs.length) && pricedB hs ts cs ps))
theorem stepB_iff {ts ps : List Int} : stepB ts ps = true ↔ ∀ k, k < ps.length → ((gz ps (k : Int) - gz ps ((k : Int) - 1)).natAbs : Int) ≤ gz ts ((k : Int) - 1) := by
  unfold stepB
  rw [List.all_eq_true]
  exact ⟨fun h k hk => of_decide_eq_true (h k (List.mem_range.mpr hk)), fun h k hk => decide_eq_true (h k (List.mem_range.mp hk))⟩
theorem stepB_no {ts ps : List Int} {k : Nat} (hk : k < ps.length) (h : ¬ ((gz ps (k : Int) - gz ps ((k : Int) - 1)).natAbs : Int) ≤ gz ts ((k : Int) - 1)) : stepB ts ps = false := by
  cases e : stepB ts ps with
  | false => rfl
  | true => exact (h (stepB_iff.mp e k hk)).elim
theorem gz_neg {ns : List Int} {k n : Nat} (h : ns.length = n) (hk : k < n) : gz ns ((k : Int) + 1 - (n : Int)) = fz ns (if k + 1 = n then 0 else k + 1) := by
  unfold gz fz
  by_cases e : k + 1 = n
  · rw [if_pos e, if_pos (by omega)]
    congr 1
    omega
  · rw [if_neg e, if_neg (by omega)]
    congr 1
    omega
/-- the same, house by house the other way -/
theorem stepB_next {ts ps : List Int} {n : Nat} (h1 : ps.length = n) (h2 : ts.length = n) : stepB ts ps = true ↔ ∀ k, k < n → ((gz ps (k : Int) - gz ps ((k : Int) + 1 - (n : Int))).natAbs : Int) ≤ gz ts (k : Int) := by
  rw [stepB_iff]
  constructor
  · intro h k hk
    rw [gz_neg h1 hk, gz_nat, gz_nat]
    by_cases e : k + 1 = n
    · have := h 0 (by omega)
      rw [gz_pred, gz_pred, gz_nat, if_pos rfl, if_pos rfl, h1, h2] at this
      rw [if_pos e, show k = n - 1 by omega]
      simp only [fz] at this ⊢
      omega
    · have := h (k + 1) (by omega)
      rw [gz_pred, gz_pred, gz_nat, if_neg (by omega), if_neg (by omega), Nat.add_sub_cancel] at this
      rw [if_neg e]
      simp only [fz] at this ⊢
      omega
  · intro h k hk
    rw [gz_pred, gz_pred, gz_nat]
    by_cases e : k = 0
    · have := h (n - 1) (by omega)
      rw [gz_neg h1 (by omega), gz_nat, gz_nat, if_pos (by omega)] at this
      rw [if_pos e, if_pos e, h1, h2, e]
      simp only [fz] at this ⊢
      omega
    · have := h (k - 1) (by omega)
      rw [gz_neg h1 (by omega), gz_nat, gz_nat, if_neg (by omega), show k - 1 + 1 = k by omega] at this
      rw [if_neg e, if_neg e]
      simp only [fz] at this ⊢
      omega
theorem zip_range {f : Int → Int → Int} {xs ys : List Int} {n : Nat} (h1 : xs.length = n) (h2 : ys.length = n) : List.zipWith f xs ys = (List.range n).map fun k => f (fz xs k) (fz ys k) := by
  refine List.ext_getElem? fun k => ?_
  by_cases hk : k < n
  · rw [List.getElem?_zipWith, fz_get (by omega), fz_get (by omega), List.getElem?_map, List.getElem?_range hk]
    rfl
  · rw [List.getElem?_eq_none (by rw [List.length_zipWith]; omega), List.getElem?_eq_none (by rw [List.length_map, List.length_range]; omega)]
theorem dot_range {ps hs : List Int} {n : Nat} (h1 : ps.length = n) (h2 : hs.length = n) : ((List.range n).map fun (k : Nat) => gz ps (k : Int) * gz hs (k : Int)).sum = dot ps hs := by
  unfold dot
  rw [zip_range h1 h2]
  refine map_sum_congr fun k _ => ?_
  rw [gz_nat, gz_nat]
  rfl
theorem cost_range {ts cs : List Int} {n : Nat} (h1 : ts.length = n) (h2 : cs.length = n) : ((List.range n).map fun (k : Nat) => gz ts (k : Int) * ((gz cs (k : Int)).natAbs : Int)).sum = cost ts cs := by
  unfold cost
  rw [zip_range h1 h2]
  refine map_sum_congr fun k _ => ?_
  rw [gz_nat, gz_nat]
  rfl
/-- summed by parts -/
theorem by_parts (c : Nat → Int) (d : Int) (S : Nat → Int) (h0 : S 0 = 0) : ∀ m : Nat, ((List.range m).map fun k => -(S k) * (c k - (if k = 0 then d else c (k - 1)))).sum = ((List.range m).map fun k => c k * (S (k + 1) - S k)).sum - (if m = 0 then d else c (m - 1)) * S m
  | 0 => by rw [h0]; simp
  | m + 1 => by
    have e1 : (if m + 1 = 0 then d else c (m + 1 - 1)) = c m := if_neg (Nat.succ_ne_zero m)
    rw [sum_range_succ, sum_range_succ, by_parts c d S h0 m, e1]
    generalize (if m = 0 then d else c (m - 1)) = e
    rw [Int.mul_sub, Int.mul_sub, Int.neg_mul, Int.neg_mul, Int.mul_comm (S m) (c m), Int.mul_comm (S m) e]
    omega
theorem priced_ok {hs ts cs ss : List Int} (h : StepsOk cs ts ss) (he : cyc cs = hs) (hl : ts.length = cs.length) (hn : 0 < cs.length) : pricedB hs ts cs (pricesOf ss) = true := by
  have hsl := h.len
  have hpl := pricesOf_len ss
  have hhl : hs.length = cs.length := by rw [← he, cyc_len]
  unfold pricedB
  rw [Bool.and_eq_true]
  constructor
  · rw [stepB_iff]
    intro k hk
    rw [hpl, hsl] at hk
    rw [gz_pred, gz_pred, gz_nat]
    have e0 : (pricesOf ss).getD k 0 = fz (pricesOf ss) k := rfl
    rw [e0, fz_prices (by omega)]
    by_cases e : k = 0
    · rw [if_pos e, if_pos e, fz_prices (by omega), hpl, e]
      have h1 := sum_take_succ (hs := ss) (k := ss.length - 1) (by omega)
      rw [show ss.length - 1 + 1 = ss.length by omega, List.take_length, h.sum] at h1
      have h2 := h.bd (ss.length - 1) (by omega)
      rw [show ts.length - 1 = ss.length - 1 by omega]
      have h3 : (ss.take 0).sum = 0 := rfl
      rw [h3]
      omega
    · rw [if_neg e, if_neg e, fz_prices (by omega)]
      have h1 := sum_take_succ (hs := ss) (k := k - 1) (by omega)
      rw [show k - 1 + 1 = k by omega] at h1
      have h2 := h.bd (k - 1) (by omega)
      omega
  · refine decide_eq_true ?_
    unfold dot cost
    rw [zip_range (n := cs.length) (by omega) hhl, zip_range (n := cs.length) hl rfl]
    have e1 : ((List.range cs.length).map fun k => fz (pricesOf ss) k * fz hs k).sum = ((List.range cs.length).map fun k => -((ss.take k).sum) * (fz cs k - (if k = 0 then fz cs (cs.length - 1) else fz cs (k - 1)))).sum := by
      refine map_sum_congr fun k hk => ?_
      have hk' := List.mem_range.mp hk
      rw [fz_prices (by omega), ← he, fz_cyc hk']
    rw [e1, by_parts (fun k => fz cs k) (fz cs (cs.length - 1)) (fun k => (ss.take k).sum) rfl]
    have e2 : (ss.take cs.length).sum = 0 := by rw [← hsl, List.take_length, h.sum]
    rw [e2, Int.mul_zero, Int.sub_zero]
    refine map_sum_congr fun k hk => ?_
    have hk' := List.mem_range.mp hk
    show fz cs k * ((ss.take (k + 1)).sum - (ss.take k).sum) = fz ts k * ((fz cs k).natAbs : Int)
    rw [sum_take_succ (by omega), show (ss.take k).sum + fz ss k - (ss.take k).sum = fz ss k by omega]
    rcases Int.lt_trichotomy (fz cs k) 0 with hc | hc | hc
    · rw [h.neg k hk' hc, show ((fz cs k).natAbs : Int) = -fz cs k by omega, Int.mul_comm, Int.neg_mul_comm]
    · rw [hc]
      simp
    · rw [h.pos k hk' hc, show ((fz cs k).natAbs : Int) = fz cs k by omega, Int.mul_comm]
theorem LeastOk.priced {hs ts cs ps : List Int} (a : LeastOk hs ts cs ps) (hl : ts.length = hs.length) (hn : 0 < hs.length) : pricedB hs ts cs ps = true := by
  obtain ⟨ss, h, rfl⟩ := a.pr
  have := a.len
  exact priced_ok h a.ev (by omega) (by omega)
theorem LeastOk.plen {hs ts cs ps : List Int} (a : LeastOk hs ts cs ps) : ps.length = hs.length := by
  obtain ⟨ss, h, rfl⟩ := a.pr
  rw [pricesOf_len, h.len, a.len]
theorem showB_of {hs ts cs ps : List Int} (h1 : cyc cs = hs) (h2 : ps.length = hs.length) (h3 : ts.length = hs.length) : showB hs ts cs ps = pricedB hs ts cs ps := by
  unfold showB
  rw [decide_eq_true h1, decide_eq_true h2, decide_eq_true h3]
  rfl
theorem rot_sum (hs : List Int) (n : Nat) : (rot hs n).sum = hs.sum := by
  unfold rot
  rw [List.sum_append, Int.add_comm, ← List.sum_append, List.take_append_drop]
end EM

namespace K5
open PySem L2 EB
local macro_rules | `(tactic| walk_at "mem") => `(tactic| first
  | exact List.mem_cons_self
  | exact List.mem_cons_of_mem _ List.mem_cons_self
  | exact List.mem_cons_of_mem _ (List.mem_cons_of_mem _ List.mem_cons_self)
  | exact List.mem_cons_of_mem _ (List.mem_cons_of_mem _ (List.mem_cons_of_mem _ List.mem_cons_self))
  | exact List.mem_cons_of_mem _ (List.mem_cons_of_mem _ (List.mem_cons_of_mem _ (List.mem_cons_of_mem _ List.mem_cons_self)))
  | exact List.mem_cons_of_mem _ (List.mem_cons_of_mem _ (List.mem_cons_of_mem _ (List.mem_cons_of_mem _ (List.mem_cons_of_mem _ List.mem_cons_self))))
  | exact List.mem_cons_of_mem _ (List.mem_cons_of_mem _ (List.mem_cons_of_mem _ (List.mem_cons_of_mem _ (List.mem_cons_of_mem _ (List.mem_cons_of_mem _ List.mem_cons_self))))))
local macro_rules | `(tactic| walk_at "stp") => `(tactic| first | assumption | exact At.ex (by assumption))
local macro_rules | `(tactic| walk_at "sq3") => `(tactic| first | assumption | exact At.sqo (by assumption) (by walk_at "mem"))
local macro_rules | `(tactic| walk_at "sq2") => `(tactic| first | assumption | exact At.sqo (by assumption) (by walk_at "mem") | exact Same.seq (by walk_at "stp") (by walk_at "sq3"))
local macro_rules | `(tactic| walk_at "sq1") => `(tactic| first | assumption | exact At.sqo (by assumption) (by walk_at "mem") | exact Same.seq (by walk_at "stp") (by walk_at "sq2"))
local macro_rules | `(tactic| walk_at "sq") => `(tactic| first | assumption | exact At.sqo (by assumption) (by walk_at "mem") | exact Same.seq (by walk_at "stp") (by walk_at "sq1"))
local macro_rules | `(tactic| walk_at "st3") => `(tactic| first | assumption | exact At.sto (by assumption) (by walk_at "mem"))
local macro_rules | `(tactic| walk_at "st2") => `(tactic| first | assumption | exact At.sto (by assumption) (by walk_at "mem") | exact Same.st (by walk_at "stp") (by walk_at "st3"))
local macro_rules | `(tactic| walk_at "st1") => `(tactic| first | assumption | exact At.sto (by assumption) (by walk_at "mem") | exact Same.st (by walk_at "stp") (by walk_at "st2"))
local macro_rules | `(tactic| walk_at "st") => `(tactic| first | assumption | exact At.sto (by assumption) (by walk_at "mem") | exact Same.st (by walk_at "stp") (by walk_at "st1"))
local macro_rules | `(tactic| walk_at "cond") => `(tactic| first
  | exact Or.inr ⟨by decide, by decide⟩
  | exact Or.inl ⟨by decide, by decide⟩
  | (show (0 : Int) < _; first | decide | omega)
  | exact ⟨by decide, by decide⟩
  | exact ⟨by decide, by decide, by decide⟩
  | exact Or.inr ⟨by omega, by omega⟩
  | exact Or.inl ⟨by omega, by omega⟩)
local macro_rules | `(tactic| walk_at "s") => `(tactic| first
  | with_reducible refine r_seq ?_
  | with_reducible refine r_asg ?_
  | with_reducible refine r_gName ?_
  | with_reducible refine r_asgG ?_
  | with_reducible refine r_gSub ?_
  | with_reducible refine r_op ?_
  | ((with_reducible show tVar _ _ _ _); refine r_var rfl ?_)
  | with_reducible refine r_c ?_
  | with_reducible refine r_cons ?_
  | with_reducible refine r_nil ?_
  | with_reducible refine r_if ?_
  | with_reducible refine r_test ?_
  | with_reducible refine r_isB ?_
  | with_reducible refine r_cb ?_
  | with_reducible refine r_call ?_
  | with_reducible refine r_fld ?_
  | with_reducible refine r_sfld ?_
  | with_reducible refine r_make ?_
  | with_reducible refine r_meth ?_
  | with_reducible refine r_meth2 ?_
  | with_reducible refine r_forT ?_
  | with_reducible refine r_bm ?_
  | with_reducible refine r_bm0 ?_
  | with_reducible refine r_forL ?_
  | with_reducible refine r_forR ?_
  | with_reducible refine r_forZ ?_
  | with_reducible refine r_lcZ ?_
  | with_reducible refine r_par ?_
  | with_reducible refine r_parK ?_
  | ((with_reducible show tAug _ _ _ _ _ _); refine r_aug rfl ?_)
  | with_reducible refine r_ipI ?_
  | with_reducible refine r_sl ?_
  | with_reducible refine r_noPart ?_
  | with_reducible refine r_part ?_
  | with_reducible refine r_ptK ?_
  | with_reducible refine r_rev ?_
  | with_reducible refine r_ifNT ?_
  | with_reducible refine r_ifNF ?_
  | with_reducible refine r_isiII ?_
  | with_reducible refine r_isiIB ?_
  | with_reducible refine r_isiBB ?_
  | with_reducible refine r_isiBI ?_
  | with_reducible refine r_I0 ?_
  | with_reducible refine r_eqI ?_
  | with_reducible refine r_neI ?_
  | ((with_reducible refine r_I ?_ ?_); (· walk_at "cond"))
  | with_reducible refine r_ret ?_
  | with_reducible refine r_next ?_
  | with_reducible refine r_drop ?_
  | with_reducible refine r_testB ?_
  | with_reducible refine r_ifT ?_
  | with_reducible refine r_ifF ?_
  | with_reducible refine r_un ?_
  | with_reducible refine r_and ?_
  | with_reducible refine r_or ?_
  | with_reducible refine r_not ?_
  | with_reducible refine r_andV ?_
  | with_reducible refine r_orV ?_
  | with_reducible refine r_notV ?_
  | with_reducible refine r_ifE ?_
  | with_reducible refine r_chain ?_
  | with_reducible refine r_lst ?_
  | with_reducible refine r_tup ?_
  | with_reducible refine r_lcR ?_
  | with_reducible refine r_lcL ?_
  | with_reducible refine r_U ?_
  | with_reducible refine r_eqB ?_
  | with_reducible refine r_neB ?_
  | with_reducible refine r_isBl ?_
  | with_reducible refine r_isNBl ?_
  | with_reducible refine r_abs ?_
  | with_reducible refine r_max2 ?_
  | with_reducible refine r_min2 ?_
  | ((with_reducible show rLenQ _ [V.ref _] _ _); first | refine r_lenI (by walk_at "sq") ?_ | refine r_len (by walk_at "sq") ?_ | refine r_lenT (by walk_at "st") ?_)
  | ((with_reducible show rSum _ [V.ref _] _ _); refine r_sum (by walk_at "sq") ?_)
  | ((with_reducible show rAll _ [V.ref _] _ _); refine r_all (by walk_at "sq") ?_)
  | ((with_reducible show rAny _ [V.ref _] _ _); refine r_any (by walk_at "sq") ?_)
  | ((with_reducible show rIxL _ (V.ref _) (V.int _) _ _); refine r_ixI (by walk_at "sq") ?_ ?_ ?_; (· omega); (· omega))
  | ((with_reducible show rEqD _ (V.ref _) (V.ref _) _ _); first | refine r_eqL (by walk_at "sq") (by walk_at "sq") ?_ | refine r_eqLB (by walk_at "sq") (by walk_at "sq") ?_)
  | ((with_reducible show rNeD _ (V.ref _) (V.ref _) _ _); first | refine r_neL (by walk_at "sq") (by walk_at "sq") ?_ | refine r_neLB (by walk_at "sq") (by walk_at "sq") ?_)
  | ((with_reducible show zip1 _ [V.ref _, V.ref _] _ _); refine r_zip1 (by walk_at "sq") (by walk_at "sq") ?_)
  | ((with_reducible show revK _ (V.ref _) _ _); refine r_revKI (by assumption) (by walk_at "sq") ?_; intro l H' A')
  | ((with_reducible show tup1 _ (V.ref _) _ _); refine r_tup1 (by walk_at "st") ?_)
  | ((with_reducible show ifB (decide (_ = _)) _ _); first | refine r_ifd_T (by first | assumption | with_reducible rfl | decide) ?_ | refine r_ifd_F (by decide) ?_)
  | ((with_reducible show ifB (!decide (_ = _)) _ _); first | refine r_ifND_F (by first | assumption | with_reducible rfl | decide) ?_ | refine r_ifND_T (by decide) ?_)
  | ((with_reducible show ifB (decide _) _ _); first | refine r_ifd_T (by omega) ?_ | refine r_ifd_F (by omega) ?_)
  | ((with_reducible show ifB (!decide _) _ _); first | refine r_ifND_F (by omega) ?_ | refine r_ifND_T (by omega) ?_)
  | ((with_reducible show ifB (!_) _ _); first | refine r_notT (by first | assumption | decide) ?_ | refine r_notF (by first | assumption | decide) ?_)
  | ((with_reducible show ifB _ _ _); first | refine r_bT (by first | assumption | decide) ?_ | refine r_bF (by first | assumption | decide) ?_)
  | ((with_reducible show lst1 _ (V.ref _) _ _); refine r_lst1 (by walk_at "sq") ?_)
  | ((with_reducible show bm0K _ "list" _ (V.ref _) _ _); refine r_bm0L (by walk_at "sq") ?_)
  | ((with_reducible show bmK _ "list" _ _ _ (V.ref _) _ _); refine r_bmL (by walk_at "sq") ?_)
  | ((with_reducible show rIsi _ [V.ref _, V.ty "tuple"] _ _); refine r_isiTT (by walk_at "st") ?_)
  | ((with_reducible show rIsi _ [V.ref _, V.ty "list"] _ _); refine r_isiLL (by walk_at "sq") ?_))
local macro_rules | `(tactic| walk_at "hp3") => `(tactic| first | assumption | exact At.get (by assumption) (by walk_at "mem"))
local macro_rules | `(tactic| walk_at "hp2") => `(tactic| first | assumption | exact At.get (by assumption) (by walk_at "mem") | exact Same.hp (by walk_at "stp") (by walk_at "hp3"))
local macro_rules | `(tactic| walk_at "hp1") => `(tactic| first | assumption | exact At.get (by assumption) (by walk_at "mem") | exact Same.hp (by walk_at "stp") (by walk_at "hp2"))
local macro_rules | `(tactic| walk_at "hp") => `(tactic| first | assumption | exact At.get (by assumption) (by walk_at "mem") | exact Same.hp (by walk_at "stp") (by walk_at "hp1"))

def top (i : Nat) : Stmt := PySem.Challenge.pw_evenring_k05_answers_by_hand.main.body.getD i (.Pass ⟨0, 0, 0, 0⟩)
abbrev s_is_evening : Stmt := top 2
abbrev s_cost_of : Stmt := top 3
abbrev s_Even_init : Stmt := inClass (top 4) 0
abbrev s_Even_evens : Stmt := inClass (top 4) 1
abbrev s_Even_shows : Stmt := inClass (top 4) 2
abbrev s_Uneven_init : Stmt := inClass (top 5) 0
abbrev s_Uneven_shows : Stmt := inClass (top 5) 1
abbrev s_Within_init : Stmt := inClass (top 6) 0
abbrev s_Within_shows : Stmt := inClass (top 6) 1
abbrev s_Stretch_init : Stmt := inClass (top 7) 0
abbrev s_Stretch_shows : Stmt := inClass (top 7) 1
abbrev s_is_whole : Stmt := top 14
abbrev s_is_house : Stmt := top 15
abbrev s_Ring_init : Stmt := inClass (top 16) 0
abbrev s_Ring_houses : Stmt := inClass (top 16) 1
abbrev s_Ring_whole : Stmt := inClass (top 16) 2
abbrev s_check_tolls : Stmt := top 19
abbrev s_running : Stmt := top 20
abbrev s_middles : Stmt := top 21
abbrev s_steps_of : Stmt := top 22
abbrev s_prices_of : Stmt := top 23
abbrev s_least : Stmt := top 24
abbrev s_law_cell_at : Stmt := top 26
abbrev s_law_draw : Stmt := top 27
abbrev s_law_houses : Stmt := top 28
abbrev s_law_tolls : Stmt := top 29
abbrev s_law_evened : Stmt := top 31
abbrev s_law_cost : Stmt := top 32
abbrev s_law_priced : Stmt := top 33
abbrev s_law_says : Stmt := top 34
abbrev s_law_bent : Stmt := top 35
abbrev s_law_even_right : Stmt := top 36
abbrev s_law_bounds_right : Stmt := top 37
abbrev s_law : Stmt := top 38
theorem sc_is_evening : FnScope ["houses", "carried", "k"] ["houses", "carried"] (defScope s_is_evening) := ⟨rfl, rfl, rfl, by decide +kernel, rfl, by decide +kernel, by decide +kernel⟩
theorem sc_cost_of : FnScope ["carried", "tolls", "k"] ["carried", "tolls"] (defScope s_cost_of) := ⟨rfl, rfl, rfl, by decide +kernel, rfl, by decide +kernel, by decide +kernel⟩
theorem sc_Even_init : FnScope ["self", "carried", "prices"] ["self", "carried", "prices"] (defScope s_Even_init) := ⟨rfl, rfl, rfl, by decide +kernel, rfl, by decide +kernel, by decide +kernel⟩
theorem sc_Even_evens : FnScope ["self", "ring"] ["self", "ring"] (defScope s_Even_evens) := ⟨rfl, rfl, rfl, by decide +kernel, rfl, by decide +kernel, by decide +kernel⟩
theorem sc_Even_shows : FnScope ["self", "ring", "tolls", "many", "k"] ["self", "ring", "tolls"] (defScope s_Even_shows) := ⟨rfl, rfl, rfl, by decide +kernel, rfl, by decide +kernel, by decide +kernel⟩
theorem sc_Uneven_init : FnScope ["self", "total"] ["self", "total"] (defScope s_Uneven_init) := ⟨rfl, rfl, rfl, by decide +kernel, rfl, by decide +kernel, by decide +kernel⟩
theorem sc_Uneven_shows : FnScope ["self", "ring", "tolls"] ["self", "ring", "tolls"] (defScope s_Uneven_shows) := ⟨rfl, rfl, rfl, by decide +kernel, rfl, by decide +kernel, by decide +kernel⟩
theorem sc_Within_init : FnScope ["self", "carried"] ["self", "carried"] (defScope s_Within_init) := ⟨rfl, rfl, rfl, by decide +kernel, rfl, by decide +kernel, by decide +kernel⟩
theorem sc_Within_shows : FnScope ["self", "ring", "most", "one"] ["self", "ring", "most"] (defScope s_Within_shows) := ⟨rfl, rfl, rfl, by decide +kernel, rfl, by decide +kernel, by decide +kernel⟩
theorem sc_Stretch_init : FnScope ["self", "first", "many"] ["self", "first", "many"] (defScope s_Stretch_init) := ⟨rfl, rfl, rfl, by decide +kernel, rfl, by decide +kernel, by decide +kernel⟩
theorem sc_Stretch_shows : FnScope ["self", "ring", "most", "houses"] ["self", "ring", "most"] (defScope s_Stretch_shows) := ⟨rfl, rfl, rfl, by decide +kernel, rfl, by decide +kernel, by decide +kernel⟩
theorem sc_is_whole : FnScope ["thing"] ["thing"] (defScope s_is_whole) := ⟨rfl, rfl, rfl, by decide +kernel, rfl, by decide +kernel, by decide +kernel⟩
theorem sc_is_house : FnScope ["thing"] ["thing"] (defScope s_is_house) := ⟨rfl, rfl, rfl, by decide +kernel, rfl, by decide +kernel, by decide +kernel⟩
theorem sc_Ring_init : FnScope ["self", "houses", "one"] ["self", "houses"] (defScope s_Ring_init) := ⟨rfl, rfl, rfl, by decide +kernel, rfl, by decide +kernel, by decide +kernel⟩
theorem sc_Ring_houses : FnScope ["self"] ["self"] (defScope s_Ring_houses) := ⟨rfl, rfl, rfl, by decide +kernel, rfl, by decide +kernel, by decide +kernel⟩
theorem sc_Ring_whole : FnScope ["self"] ["self"] (defScope s_Ring_whole) := ⟨rfl, rfl, rfl, by decide +kernel, rfl, by decide +kernel, by decide +kernel⟩
theorem sc_check_tolls : FnScope ["ring", "tolls", "toll"] ["ring", "tolls"] (defScope s_check_tolls) := ⟨rfl, rfl, rfl, by decide +kernel, rfl, by decide +kernel, by decide +kernel⟩
theorem sc_running : FnScope ["houses", "found", "total", "house"] ["houses"] (defScope s_running) := ⟨rfl, rfl, rfl, by decide +kernel, rfl, by decide +kernel, by decide +kernel⟩
theorem sc_middles : FnScope ["sums", "tolls", "order", "k", "whole", "low", "high", "below", "number", "toll"] ["sums", "tolls"] (defScope s_middles) := ⟨rfl, rfl, rfl, by decide +kernel, rfl, by decide +kernel, by decide +kernel⟩
theorem sc_steps_of : FnScope ["carried", "tolls", "steps", "k", "step", "lack"] ["carried", "tolls"] (defScope s_steps_of) := ⟨rfl, rfl, rfl, by decide +kernel, rfl, by decide +kernel, by decide +kernel⟩
theorem sc_prices_of : FnScope ["carried", "tolls", "found", "step"] ["carried", "tolls"] (defScope s_prices_of) := ⟨rfl, rfl, rfl, by decide +kernel, rfl, by decide +kernel, by decide +kernel⟩
theorem sc_least : FnScope ["ring", "tolls", "sums", "middle", "carried", "one"] ["ring", "tolls"] (defScope s_least) := ⟨rfl, rfl, rfl, by decide +kernel, rfl, by decide +kernel, by decide +kernel⟩
theorem sc_law_cell_at : FnScope ["_law_script", "_law_k"] ["_law_script", "_law_k"] (defScope s_law_cell_at) := ⟨rfl, rfl, rfl, by decide +kernel, rfl, by decide +kernel, by decide +kernel⟩
theorem sc_law_draw : FnScope ["_law_cell", "_law_k", "_law_many", "_law_primes"] ["_law_cell", "_law_k", "_law_many"] (defScope s_law_draw) := ⟨rfl, rfl, rfl, by decide +kernel, rfl, by decide +kernel, by decide +kernel⟩
theorem sc_law_houses : FnScope ["_law_script", "_law_first", "_law_most", "_law_carried", "_law_k"] ["_law_script", "_law_first"] (defScope s_law_houses) := ⟨rfl, rfl, rfl, by decide +kernel, rfl, by decide +kernel, by decide +kernel⟩
theorem sc_law_tolls : FnScope ["_law_script", "_law_many", "_law_kind", "_law_found", "_law_k", "_law_cell"] ["_law_script", "_law_many"] (defScope s_law_tolls) := ⟨rfl, rfl, rfl, by decide +kernel, rfl, by decide +kernel, by decide +kernel⟩
theorem sc_law_evened : FnScope ["_law_houses_here", "_law_carried", "_law_k"] ["_law_houses_here", "_law_carried"] (defScope s_law_evened) := ⟨rfl, rfl, rfl, by decide +kernel, rfl, by decide +kernel, by decide +kernel⟩
theorem sc_law_cost : FnScope ["_law_carried", "_law_tolls_here", "_law_toll", "_law_one"] ["_law_carried", "_law_tolls_here"] (defScope s_law_cost) := ⟨rfl, rfl, rfl, by decide +kernel, rfl, by decide +kernel, by decide +kernel⟩
theorem sc_law_priced : FnScope ["_law_houses_here", "_law_tolls_here", "_law_carried", "_law_prices", "_law_k", "_law_price", "_law_house"] ["_law_houses_here", "_law_tolls_here", "_law_carried", "_law_prices"] (defScope s_law_priced) := ⟨rfl, rfl, rfl, by decide +kernel, rfl, by decide +kernel, by decide +kernel⟩
theorem sc_law_says : FnScope ["_law_told", "_law_due"] ["_law_told", "_law_due"] (defScope s_law_says) := ⟨rfl, rfl, rfl, by decide +kernel, rfl, by decide +kernel, by decide +kernel⟩
theorem sc_law_bent : FnScope ["_law_some", "_law_cell", "_law_kind", "_law_at", "_law_one"] ["_law_some", "_law_cell"] (defScope s_law_bent) := ⟨rfl, rfl, rfl, by decide +kernel, rfl, by decide +kernel, by decide +kernel⟩
theorem sc_law_even_right : FnScope ["_law_houses_here", "_law_tolls_here", "_law_ring", "_law_cell", "_law_told", "_law_k", "_law_carried", "_law_prices", "_law_handed", "_law_answer", "_law_evens", "_law_due", "_law_some"] ["_law_houses_here", "_law_tolls_here", "_law_ring", "_law_cell"] (defScope s_law_even_right) := ⟨rfl, rfl, rfl, by decide +kernel, rfl, by decide +kernel, by decide +kernel⟩
theorem sc_law_bounds_right : FnScope ["_law_houses_here", "_law_ring", "_law_cell", "_law_over", "_law_carried", "_law_house", "_law_most", "_law_one", "_law_due", "_law_handed", "_law_answer", "_law_many", "_law_first", "_law_count", "_law_inside", "_law_total", "_law_k", "_law_bound"] ["_law_houses_here", "_law_ring", "_law_cell"] (defScope s_law_bounds_right) := ⟨rfl, rfl, rfl, by decide +kernel, rfl, by decide +kernel, by decide +kernel⟩
theorem sc_law : FnScope ["_law_script", "_law_houses_here", "_law_tolls_here", "_law_ring", "_law_k", "_law_cell", "_law_still", "_law_nothing", "_law_some", "_law_prices", "_law_due", "_law_total"] ["_law_script"] (defScope s_law) := ⟨rfl, rfl, rfl, by decide +kernel, rfl, by decide +kernel, by decide +kernel⟩
/-- what the top has written -/
structure Txt (K : PySem.W.Frag) (mg : Str → Option Value) where
  n_abs : mg "abs" = none
  n_all : mg "all" = none
  n_any : mg "any" = none
  n_bool : mg "bool" = none
  n_int : mg "int" = none
  n_isinstance : mg "isinstance" = none
  n_len : mg "len" = none
  n_list : mg "list" = none
  n_max : mg "max" = none
  n_min : mg "min" = none
  n_range : mg "range" = none
  n_sorted : mg "sorted" = none
  n_sum : mg "sum" = none
  n_zip : mg "zip" = none
  k_GREATEST_rings : (t : Tok) ×' mg "GREATEST_rings" = some (.int 1000000 t)
  k_GREATEST_carrying : (t : Tok) ×' mg "GREATEST_carrying" = some (.int 1000 t)
  c_Answer : Addr
  g_Answer : mg "Answer" = some (.ref c_Answer)
  cl_Answer : Cls K c_Answer
  in_Answer : PySem.W.findIn K (.ref c_Answer) "__class__" = some (some (.builtin "object.__class__")) ∧ PySem.W.specialIn K (.builtin "object.__class__") "__get__" = some (some (.builtin "getset_descriptor.__get__")) ∧ PySem.W.takesIn K (.builtin "object.__class__") = some true ∧ PySem.W.mroIn K c_Answer (.type "object") = some true
  c_Even : Addr
  g_Even : mg "Even" = some (.ref c_Even)
  cl_Even : Cls K c_Even
  no_Even_carried : NoAttr K c_Even "carried"
  no_Even_prices : NoAttr K c_Even "prices"
  in_Even : PySem.W.findIn K (.ref c_Even) "__class__" = some (some (.builtin "object.__class__")) ∧ PySem.W.specialIn K (.builtin "object.__class__") "__get__" = some (some (.builtin "getset_descriptor.__get__")) ∧ PySem.W.takesIn K (.builtin "object.__class__") = some true ∧ PySem.W.mroIn K c_Even (.type "object") = some true
  c_Uneven : Addr
  g_Uneven : mg "Uneven" = some (.ref c_Uneven)
  cl_Uneven : Cls K c_Uneven
  no_Uneven_total : NoAttr K c_Uneven "total"
  in_Uneven : PySem.W.findIn K (.ref c_Uneven) "__class__" = some (some (.builtin "object.__class__")) ∧ PySem.W.specialIn K (.builtin "object.__class__") "__get__" = some (some (.builtin "getset_descriptor.__get__")) ∧ PySem.W.takesIn K (.builtin "object.__class__") = some true ∧ PySem.W.mroIn K c_Uneven (.type "object") = some true
  c_Within : Addr
  g_Within : mg "Within" = some (.ref c_Within)
  cl_Within : Cls K c_Within
  no_Within_carried : NoAttr K c_Within "carried"
  in_Within : PySem.W.findIn K (.ref c_Within) "__class__" = some (some (.builtin "object.__class__")) ∧ PySem.W.specialIn K (.builtin "object.__class__") "__get__" = some (some (.builtin "getset_descriptor.__get__")) ∧ PySem.W.takesIn K (.builtin "object.__class__") = some true ∧ PySem.W.mroIn K c_Within (.type "object") = some true
  c_Stretch : Addr
  g_Stretch : mg "Stretch" = some (.ref c_Stretch)
  cl_Stretch : Cls K c_Stretch
  no_Stretch_first : NoAttr K c_Stretch "first"
  no_Stretch_many : NoAttr K c_Stretch "many"
  in_Stretch : PySem.W.findIn K (.ref c_Stretch) "__class__" = some (some (.builtin "object.__class__")) ∧ PySem.W.specialIn K (.builtin "object.__class__") "__get__" = some (some (.builtin "getset_descriptor.__get__")) ∧ PySem.W.takesIn K (.builtin "object.__class__") = some true ∧ PySem.W.mroIn K c_Stretch (.type "object") = some true
  c_RingError : Addr
  g_RingError : mg "RingError" = some (.ref c_RingError)
  c_BadRing : Addr
  g_BadRing : mg "BadRing" = some (.ref c_BadRing)
  c_BadTolls : Addr
  g_BadTolls : mg "BadTolls" = some (.ref c_BadTolls)
  c_Ring : Addr
  g_Ring : mg "Ring" = some (.ref c_Ring)
  cl_Ring : Cls K c_Ring
  no_Ring_over : NoAttr K c_Ring "over"
  in_Ring : PySem.W.findIn K (.ref c_Ring) "__class__" = some (some (.builtin "object.__class__")) ∧ PySem.W.specialIn K (.builtin "object.__class__") "__get__" = some (some (.builtin "getset_descriptor.__get__")) ∧ PySem.W.takesIn K (.builtin "object.__class__") = some true ∧ PySem.W.mroIn K c_Ring (.type "object") = some true
  kit_Even_Uneven : PySem.W.kitOne K (.ref c_Even) (.ref c_Uneven) = some false
  kit_Uneven_Uneven : PySem.W.kitOne K (.ref c_Uneven) (.ref c_Uneven) = some true
  f_is_evening : Addr
  fd_is_evening : FuncData
  F_is_evening : Fun K "is_evening" "is_evening" s_is_evening f_is_evening fd_is_evening
  g_is_evening : mg "is_evening" = some (.ref f_is_evening)
  f_cost_of : Addr
  fd_cost_of : FuncData
  F_cost_of : Fun K "cost_of" "cost_of" s_cost_of f_cost_of fd_cost_of
  g_cost_of : mg "cost_of" = some (.ref f_cost_of)
  f_Even_init : Addr
  fd_Even_init : FuncData
  F_Even_init : Fun K "__init__" "Even.__init__" s_Even_init f_Even_init fd_Even_init
  mk_Even : Mk K c_Even f_Even_init
  f_Even_evens : Addr
  fd_Even_evens : FuncData
  F_Even_evens : Fun K "evens" "Even.evens" s_Even_evens f_Even_evens fd_Even_evens
  m_Even_evens : Meth K c_Even "evens" f_Even_evens
  f_Even_shows : Addr
  fd_Even_shows : FuncData
  F_Even_shows : Fun K "shows" "Even.shows" s_Even_shows f_Even_shows fd_Even_shows
  m_Even_shows : Meth K c_Even "shows" f_Even_shows
  f_Uneven_init : Addr
  fd_Uneven_init : FuncData
  F_Uneven_init : Fun K "__init__" "Uneven.__init__" s_Uneven_init f_Uneven_init fd_Uneven_init
  mk_Uneven : Mk K c_Uneven f_Uneven_init
  f_Uneven_shows : Addr
  fd_Uneven_shows : FuncData
  F_Uneven_shows : Fun K "shows" "Uneven.shows" s_Uneven_shows f_Uneven_shows fd_Uneven_shows
  m_Uneven_shows : Meth K c_Uneven "shows" f_Uneven_shows
  f_Within_init : Addr
  fd_Within_init : FuncData
  F_Within_init : Fun K "__init__" "Within.__init__" s_Within_init f_Within_init fd_Within_init
  mk_Within : Mk K c_Within f_Within_init
  f_Within_shows : Addr
  fd_Within_shows : FuncData
  F_Within_shows : Fun K "shows" "Within.shows" s_Within_shows f_Within_shows fd_Within_shows
  m_Within_shows : Meth K c_Within "shows" f_Within_shows
  f_Stretch_init : Addr
  fd_Stretch_init : FuncData
  F_Stretch_init : Fun K "__init__" "Stretch.__init__" s_Stretch_init f_Stretch_init fd_Stretch_init
  mk_Stretch : Mk K c_Stretch f_Stretch_init
  f_Stretch_shows : Addr
  fd_Stretch_shows : FuncData
  F_Stretch_shows : Fun K "shows" "Stretch.shows" s_Stretch_shows f_Stretch_shows fd_Stretch_shows
  m_Stretch_shows : Meth K c_Stretch "shows" f_Stretch_shows
  f_is_whole : Addr
  fd_is_whole : FuncData
  F_is_whole : Fun K "is_whole" "is_whole" s_is_whole f_is_whole fd_is_whole
  g_is_whole : mg "is_whole" = some (.ref f_is_whole)
  f_is_house : Addr
  fd_is_house : FuncData
  F_is_house : Fun K "is_house" "is_house" s_is_house f_is_house fd_is_house
  g_is_house : mg "is_house" = some (.ref f_is_house)
  f_Ring_init : Addr
  fd_Ring_init : FuncData
  F_Ring_init : Fun K "__init__" "Ring.__init__" s_Ring_init f_Ring_init fd_Ring_init
  mk_Ring : Mk K c_Ring f_Ring_init
  f_Ring_houses : Addr
  fd_Ring_houses : FuncData
  F_Ring_houses : Fun K "houses" "Ring.houses" s_Ring_houses f_Ring_houses fd_Ring_houses
  m_Ring_houses : Meth K c_Ring "houses" f_Ring_houses
  f_Ring_whole : Addr
  fd_Ring_whole : FuncData
  F_Ring_whole : Fun K "whole" "Ring.whole" s_Ring_whole f_Ring_whole fd_Ring_whole
  m_Ring_whole : Meth K c_Ring "whole" f_Ring_whole
  f_check_tolls : Addr
  fd_check_tolls : FuncData
  F_check_tolls : Fun K "check_tolls" "check_tolls" s_check_tolls f_check_tolls fd_check_tolls
  g_check_tolls : mg "check_tolls" = some (.ref f_check_tolls)
  f_running : Addr
  fd_running : FuncData
  F_running : Fun K "running" "running" s_running f_running fd_running
  g_running : mg "running" = some (.ref f_running)
  f_middles : Addr
  fd_middles : FuncData
  F_middles : Fun K "middles" "middles" s_middles f_middles fd_middles
  g_middles : mg "middles" = some (.ref f_middles)
  f_steps_of : Addr
  fd_steps_of : FuncData
  F_steps_of : Fun K "steps_of" "steps_of" s_steps_of f_steps_of fd_steps_of
  g_steps_of : mg "steps_of" = some (.ref f_steps_of)
  f_prices_of : Addr
  fd_prices_of : FuncData
  F_prices_of : Fun K "prices_of" "prices_of" s_prices_of f_prices_of fd_prices_of
  g_prices_of : mg "prices_of" = some (.ref f_prices_of)
  f_least : Addr
  fd_least : FuncData
  F_least : Fun K "least" "least" s_least f_least fd_least
  g_least : mg "least" = some (.ref f_least)
  f_law_cell_at : Addr
  fd_law_cell_at : FuncData
  F_law_cell_at : Fun K "_law_cell_at" "_law_cell_at" s_law_cell_at f_law_cell_at fd_law_cell_at
  g_law_cell_at : mg "_law_cell_at" = some (.ref f_law_cell_at)
  f_law_draw : Addr
  fd_law_draw : FuncData
  F_law_draw : Fun K "_law_draw" "_law_draw" s_law_draw f_law_draw fd_law_draw
  g_law_draw : mg "_law_draw" = some (.ref f_law_draw)
  f_law_houses : Addr
  fd_law_houses : FuncData
  F_law_houses : Fun K "_law_houses" "_law_houses" s_law_houses f_law_houses fd_law_houses
  g_law_houses : mg "_law_houses" = some (.ref f_law_houses)
  f_law_tolls : Addr
  fd_law_tolls : FuncData
  F_law_tolls : Fun K "_law_tolls" "_law_tolls" s_law_tolls f_law_tolls fd_law_tolls
  g_law_tolls : mg "_law_tolls" = some (.ref f_law_tolls)
  f_law_evened : Addr
  fd_law_evened : FuncData
  F_law_evened : Fun K "_law_evened" "_law_evened" s_law_evened f_law_evened fd_law_evened
  g_law_evened : mg "_law_evened" = some (.ref f_law_evened)
  f_law_cost : Addr
  fd_law_cost : FuncData
  F_law_cost : Fun K "_law_cost" "_law_cost" s_law_cost f_law_cost fd_law_cost
  g_law_cost : mg "_law_cost" = some (.ref f_law_cost)
  f_law_priced : Addr
  fd_law_priced : FuncData
  F_law_priced : Fun K "_law_priced" "_law_priced" s_law_priced f_law_priced fd_law_priced
  g_law_priced : mg "_law_priced" = some (.ref f_law_priced)
  f_law_says : Addr
  fd_law_says : FuncData
  F_law_says : Fun K "_law_says" "_law_says" s_law_says f_law_says fd_law_says
  g_law_says : mg "_law_says" = some (.ref f_law_says)
  f_law_bent : Addr
  fd_law_bent : FuncData
  F_law_bent : Fun K "_law_bent" "_law_bent" s_law_bent f_law_bent fd_law_bent
  g_law_bent : mg "_law_bent" = some (.ref f_law_bent)
  f_law_even_right : Addr
  fd_law_even_right : FuncData
  F_law_even_right : Fun K "_law_even_right" "_law_even_right" s_law_even_right f_law_even_right fd_law_even_right
  g_law_even_right : mg "_law_even_right" = some (.ref f_law_even_right)
  f_law_bounds_right : Addr
  fd_law_bounds_right : FuncData
  F_law_bounds_right : Fun K "_law_bounds_right" "_law_bounds_right" s_law_bounds_right f_law_bounds_right fd_law_bounds_right
  g_law_bounds_right : mg "_law_bounds_right" = some (.ref f_law_bounds_right)
  f_law : Addr
  fd_law : FuncData
  F_law : Fun K "law" "law" s_law f_law fd_law
  g_law : mg "law" = some (.ref f_law)
section
variable {K : PySem.W.Frag} {mg : Str → Option Value}
theorem b_is_evening (T : Txt K mg) : Binds K T.fd_is_evening ["houses", "carried"] [] := T.F_is_evening.binds (ps := ["houses", "carried"]) fun _ _ _ _ _ _ us hl => match us, hl with | [_, _], _ => rfl
theorem b_cost_of (T : Txt K mg) : Binds K T.fd_cost_of ["carried", "tolls"] [] := T.F_cost_of.binds (ps := ["carried", "tolls"]) fun _ _ _ _ _ _ us hl => match us, hl with | [_, _], _ => rfl
theorem b_Even_init (T : Txt K mg) : Binds K T.fd_Even_init ["self", "carried", "prices"] [] := T.F_Even_init.binds (ps := ["self", "carried", "prices"]) fun _ _ _ _ _ _ us hl => match us, hl with | [_, _, _], _ => rfl
theorem b_Even_evens (T : Txt K mg) : Binds K T.fd_Even_evens ["self", "ring"] [] := T.F_Even_evens.binds (ps := ["self", "ring"]) fun _ _ _ _ _ _ us hl => match us, hl with | [_, _], _ => rfl
theorem b_Even_shows (T : Txt K mg) : Binds K T.fd_Even_shows ["self", "ring", "tolls"] [] := T.F_Even_shows.binds (ps := ["self", "ring", "tolls"]) fun _ _ _ _ _ _ us hl => match us, hl with | [_, _, _], _ => rfl
theorem b_Uneven_init (T : Txt K mg) : Binds K T.fd_Uneven_init ["self", "total"] [] := T.F_Uneven_init.binds (ps := ["self", "total"]) fun _ _ _ _ _ _ us hl => match us, hl with | [_, _], _ => rfl
theorem b_Uneven_shows (T : Txt K mg) : Binds K T.fd_Uneven_shows ["self", "ring", "tolls"] [] := T.F_Uneven_shows.binds (ps := ["self", "ring", "tolls"]) fun _ _ _ _ _ _ us hl => match us, hl with | [_, _, _], _ => rfl
theorem b_Within_init (T : Txt K mg) : Binds K T.fd_Within_init ["self", "carried"] [] := T.F_Within_init.binds (ps := ["self", "carried"]) fun _ _ _ _ _ _ us hl => match us, hl with | [_, _], _ => rfl
theorem b_Within_shows (T : Txt K mg) : Binds K T.fd_Within_shows ["self", "ring", "most"] [] := T.F_Within_shows.binds (ps := ["self", "ring", "most"]) fun _ _ _ _ _ _ us hl => match us, hl with | [_, _, _], _ => rfl
theorem b_Stretch_init (T : Txt K mg) : Binds K T.fd_Stretch_init ["self", "first", "many"] [] := T.F_Stretch_init.binds (ps := ["self", "first", "many"]) fun _ _ _ _ _ _ us hl => match us, hl with | [_, _, _], _ => rfl
theorem b_Stretch_shows (T : Txt K mg) : Binds K T.fd_Stretch_shows ["self", "ring", "most"] [] := T.F_Stretch_shows.binds (ps := ["self", "ring", "most"]) fun _ _ _ _ _ _ us hl => match us, hl with | [_, _, _], _ => rfl
theorem b_is_whole (T : Txt K mg) : Binds K T.fd_is_whole ["thing"] [] := T.F_is_whole.binds (ps := ["thing"]) fun _ _ _ _ _ _ us hl => match us, hl with | [_], _ => rfl
theorem b_is_house (T : Txt K mg) : Binds K T.fd_is_house ["thing"] [] := T.F_is_house.binds (ps := ["thing"]) fun _ _ _ _ _ _ us hl => match us, hl with | [_], _ => rfl
theorem b_Ring_init (T : Txt K mg) : Binds K T.fd_Ring_init ["self", "houses"] [] := T.F_Ring_init.binds (ps := ["self", "houses"]) fun _ _ _ _ _ _ us hl => match us, hl with | [_, _], _ => rfl
theorem b_Ring_houses (T : Txt K mg) : Binds K T.fd_Ring_houses ["self"] [] := T.F_Ring_houses.binds (ps := ["self"]) fun _ _ _ _ _ _ us hl => match us, hl with | [_], _ => rfl
theorem b_Ring_whole (T : Txt K mg) : Binds K T.fd_Ring_whole ["self"] [] := T.F_Ring_whole.binds (ps := ["self"]) fun _ _ _ _ _ _ us hl => match us, hl with | [_], _ => rfl
theorem b_check_tolls (T : Txt K mg) : Binds K T.fd_check_tolls ["ring", "tolls"] [] := T.F_check_tolls.binds (ps := ["ring", "tolls"]) fun _ _ _ _ _ _ us hl => match us, hl with | [_, _], _ => rfl
theorem b_running (T : Txt K mg) : Binds K T.fd_running ["houses"] [] := T.F_running.binds (ps := ["houses"]) fun _ _ _ _ _ _ us hl => match us, hl with | [_], _ => rfl
theorem b_middles (T : Txt K mg) : Binds K T.fd_middles ["sums", "tolls"] [] := T.F_middles.binds (ps := ["sums", "tolls"]) fun _ _ _ _ _ _ us hl => match us, hl with | [_, _], _ => rfl
theorem b_steps_of (T : Txt K mg) : Binds K T.fd_steps_of ["carried", "tolls"] [] := T.F_steps_of.binds (ps := ["carried", "tolls"]) fun _ _ _ _ _ _ us hl => match us, hl with | [_, _], _ => rfl
theorem b_prices_of (T : Txt K mg) : Binds K T.fd_prices_of ["carried", "tolls"] [] := T.F_prices_of.binds (ps := ["carried", "tolls"]) fun _ _ _ _ _ _ us hl => match us, hl with | [_, _], _ => rfl
theorem b_least (T : Txt K mg) : Binds K T.fd_least ["ring", "tolls"] [] := T.F_least.binds (ps := ["ring", "tolls"]) fun _ _ _ _ _ _ us hl => match us, hl with | [_, _], _ => rfl
theorem b_law_cell_at (T : Txt K mg) : Binds K T.fd_law_cell_at ["_law_script", "_law_k"] [] := T.F_law_cell_at.binds (ps := ["_law_script", "_law_k"]) fun _ _ _ _ _ _ us hl => match us, hl with | [_, _], _ => rfl
theorem b_law_draw (T : Txt K mg) : Binds K T.fd_law_draw ["_law_cell", "_law_k", "_law_many"] [] := T.F_law_draw.binds (ps := ["_law_cell", "_law_k", "_law_many"]) fun _ _ _ _ _ _ us hl => match us, hl with | [_, _, _], _ => rfl
theorem b_law_houses (T : Txt K mg) : Binds K T.fd_law_houses ["_law_script", "_law_first"] [] := T.F_law_houses.binds (ps := ["_law_script", "_law_first"]) fun _ _ _ _ _ _ us hl => match us, hl with | [_, _], _ => rfl
theorem b_law_tolls (T : Txt K mg) : Binds K T.fd_law_tolls ["_law_script", "_law_many"] [] := T.F_law_tolls.binds (ps := ["_law_script", "_law_many"]) fun _ _ _ _ _ _ us hl => match us, hl with | [_, _], _ => rfl
theorem b_law_evened (T : Txt K mg) : Binds K T.fd_law_evened ["_law_houses_here", "_law_carried"] [] := T.F_law_evened.binds (ps := ["_law_houses_here", "_law_carried"]) fun _ _ _ _ _ _ us hl => match us, hl with | [_, _], _ => rfl
theorem b_law_cost (T : Txt K mg) : Binds K T.fd_law_cost ["_law_carried", "_law_tolls_here"] [] := T.F_law_cost.binds (ps := ["_law_carried", "_law_tolls_here"]) fun _ _ _ _ _ _ us hl => match us, hl with | [_, _], _ => rfl
theorem b_law_priced (T : Txt K mg) : Binds K T.fd_law_priced ["_law_houses_here", "_law_tolls_here", "_law_carried", "_law_prices"] [] := T.F_law_priced.binds (ps := ["_law_houses_here", "_law_tolls_here", "_law_carried", "_law_prices"]) fun _ _ _ _ _ _ us hl => match us, hl with | [_, _, _, _], _ => rfl
theorem b_law_says (T : Txt K mg) : Binds K T.fd_law_says ["_law_told", "_law_due"] [] := T.F_law_says.binds (ps := ["_law_told", "_law_due"]) fun _ _ _ _ _ _ us hl => match us, hl with | [_, _], _ => rfl
theorem b_law_bent (T : Txt K mg) : Binds K T.fd_law_bent ["_law_some", "_law_cell"] [] := T.F_law_bent.binds (ps := ["_law_some", "_law_cell"]) fun _ _ _ _ _ _ us hl => match us, hl with | [_, _], _ => rfl
theorem b_law_even_right (T : Txt K mg) : Binds K T.fd_law_even_right ["_law_houses_here", "_law_tolls_here", "_law_ring", "_law_cell"] [] := T.F_law_even_right.binds (ps := ["_law_houses_here", "_law_tolls_here", "_law_ring", "_law_cell"]) fun _ _ _ _ _ _ us hl => match us, hl with | [_, _, _, _], _ => rfl
theorem b_law_bounds_right (T : Txt K mg) : Binds K T.fd_law_bounds_right ["_law_houses_here", "_law_ring", "_law_cell"] [] := T.F_law_bounds_right.binds (ps := ["_law_houses_here", "_law_ring", "_law_cell"]) fun _ _ _ _ _ _ us hl => match us, hl with | [_, _, _], _ => rfl
theorem b_law (T : Txt K mg) : Binds K T.fd_law ["_law_script"] [] := T.F_law.binds (ps := ["_law_script"]) fun _ _ _ _ _ _ us hl => match us, hl with | [_], _ => rfl
theorem isi_Even_Uneven {T : Txt K mg} {H : Hp} {Q : VK} {p dx : Addr} {fs : List (Str × V)} (h : H p = some (.ins T.c_Even dx fs)) (k : Q (.bl false) H) : rIsi K [.ref p, .ref T.c_Uneven] H Q := r_isiO h T.cl_Even T.in_Even T.kit_Even_Uneven k
theorem isi_Uneven_Uneven {T : Txt K mg} {H : Hp} {Q : VK} {p dx : Addr} {fs : List (Str × V)} (h : H p = some (.ins T.c_Uneven dx fs)) (k : Q (.bl true) H) : rIsi K [.ref p, .ref T.c_Uneven] H Q := r_isiO h T.cl_Uneven T.in_Uneven T.kit_Uneven_Uneven k
end
local macro_rules | `(tactic| walk_at "s") => `(tactic| ((with_reducible show rIsi _ [V.ref _, V.ref _] _ _); first | refine isi_Even_Uneven (by walk_at "hp") ?_ | refine isi_Uneven_Uneven (by walk_at "hp") ?_))
section
variable {P : Program} {w : World} {K : PySem.W.Frag} {mg : Str → Option Value} {base : Heap}
/-- a ring stands at p: the list of its houses is one of its own -/
def RingAt (T : Txt K mg) (H : Hp) (p : Addr) (hs : List Int) : Prop := ∃ dx l, H p = some (.ins T.c_Ring dx [("over", .ref l)]) ∧ H l = some (.lst (hs.map V.int))
theorem RingAt.mono {T : Txt K mg} {H H' : Hp} {p : Addr} {hs : List Int} (R : RingAt T H p hs) (s : Same H H') : RingAt T H' p hs := by
  obtain ⟨dx, l, h1, h2⟩ := R
  exact ⟨dx, l, s _ _ h1, s _ _ h2⟩
theorem RingAt.via {T : Txt K mg} {H H' : Hp} {p : Addr} {hs : List Int} (s : Same H H') (R : RingAt T H p hs) : RingAt T H' p hs := R.mono s
theorem r_over {T : Txt K mg} {H : Hp} {Q : VK} {p dx l : Addr} (h : H p = some (.ins T.c_Ring dx [("over", .ref l)])) (k : Q (.ref l) H) : fldK K "over" (.ref p) H Q := r_fldK h T.cl_Ring T.no_Ring_over rfl k
local macro_rules | `(tactic| walk_at "s") => `(tactic| ((with_reducible show fldK _ _ (V.ref _) _ _); refine r_over (by walk_at "hp") ?_))
local macro_rules | `(tactic| walk_at "ra3") => `(tactic| first | assumption | exact ⟨_, _, by walk_at "hp", by walk_at "hp"⟩)
local macro_rules | `(tactic| walk_at "ra2") => `(tactic| first | assumption | exact RingAt.via (by walk_at "stp") (by walk_at "ra3") | exact ⟨_, _, by walk_at "hp", by walk_at "hp"⟩)
local macro_rules | `(tactic| walk_at "ra1") => `(tactic| first | assumption | exact RingAt.via (by walk_at "stp") (by walk_at "ra2") | exact ⟨_, _, by walk_at "hp", by walk_at "hp"⟩)
local macro_rules | `(tactic| walk_at "ra") => `(tactic| first | assumption | exact RingAt.via (by walk_at "stp") (by walk_at "ra1") | exact ⟨_, _, by walk_at "hp", by walk_at "hp"⟩)
def sp_is_whole (_ : Txt K mg) : Sp := fun vs H Q _ => ∃ i : Int, vs = [.int i] ∧ Q (.bl true) H
theorem ok_is_whole (T : Txt K mg) : FnOk P w K mg base CX0 1 T.f_is_whole T.fd_is_whole ["thing"] (sp_is_whole T) := by
  refine T.F_is_whole.ok sc_is_whole (fun vs H Q E h => ?_) (fun cdv A outer s H vs Q E hr h => ?_)
  · obtain ⟨_, rfl, _⟩ := h
    rfl
  · skip
    obtain ⟨i, rfl, k⟩ := h
    refine ⟨_, (pss_one (ps_ret (pe_and (pe_callB (kIsi (K := K)) (by rfl) T.n_isinstance EB.bt_isinstance (pa_cons (pv 0) (pa_cons (pe_bltn (v := .ty "int") (by rfl) T.n_int EB.bt_int rfl) pa_nil))) (pe_one (pe_not (pe_callB (kIsi (K := K)) (by rfl) T.n_isinstance EB.bt_isinstance (pa_cons (pv 0) (pa_cons (pe_bltn (v := .ty "bool") (by rfl) T.n_bool EB.bt_bool rfl) pa_nil)))))))), ?_⟩
    repeat walk_at "s"
    exact k
def sp_is_house (_ : Txt K mg) : Sp := fun vs H Q _ => ∃ i : Int, vs = [.int i] ∧ -1000000 ≤ i ∧ i ≤ 1000000 ∧ Q (.bl true) H
theorem ok_is_house (T : Txt K mg) : FnOk P w K mg base CX0 2 T.f_is_house T.fd_is_house ["thing"] (sp_is_house T) := by
  refine T.F_is_house.ok sc_is_house (fun vs H Q E h => ?_) (fun cdv A outer s H vs Q E hr h => ?_)
  · obtain ⟨_, rfl, _⟩ := h
    rfl
  · skip
    obtain ⟨i, rfl, h1, h2, k⟩ := h
    refine ⟨_, (pss_one (ps_ret (pe_and (pe_call (ok_is_whole T) (hr.mono (by decide)) (by rfl) T.g_is_whole T.F_is_whole.kp (b_is_whole T) .nil pass0 (pa_cons (pv 0) pa_nil)) (pe_one (pe_chain op_le op_le (pe_un un_neg (pe_glob (v := .int 1000000) (by rfl) T.k_GREATEST_rings.2 ⟨_, rfl⟩)) (pv 0) (pe_glob (v := .int 1000000) (by rfl) T.k_GREATEST_rings.2 ⟨_, rfl⟩)))))), ?_⟩
    repeat walk_at "s"
    refine ⟨i, rfl, ?_⟩
    repeat walk_at "s"
    rw [decide_eq_true h2]
    exact k
def sp_Ring_init (T : Txt K mg) : Sp := fun vs H Q _ => ∃ (p dx a : Addr) (hs : List Int), vs = [.ref p, .ref a] ∧ H p = some (.ins T.c_Ring dx []) ∧ SqL K H a (hs.map V.int) ∧ 2 ≤ hs.length ∧ hs.length ≤ 1000 ∧ (∀ x ∈ hs, -1000000 ≤ x ∧ x ≤ 1000000) ∧
  ∀ l H', H l = none → (∀ b o, H b = some o → b ≠ p → H' b = some o) → H' p = some (.ins T.c_Ring dx [("over", .ref l)]) → H' l = some (.lst (hs.map V.int)) → Q .non H'
theorem ok_Ring_init (T : Txt K mg) : FnOk P w K mg base CX0 3 T.f_Ring_init T.fd_Ring_init ["self", "houses"] (sp_Ring_init T) := by
  refine T.F_Ring_init.ok sc_Ring_init (fun vs H Q E h => ?_) (fun cdv A outer s H vs Q E hr h => ?_)
  · obtain ⟨_, _, _, _, rfl, _⟩ := h
    rfl
  · skip
    obtain ⟨p, dx, a, hs, rfl, hp, ha, h2, hl, hb, k⟩ := h
    have A := At.nil H
    refine ⟨_, (pss_cons (ps_if (PW.pt (pw_or (pt_not (pt_val (pe_callB (kIsi (K := K)) (by rfl) T.n_isinstance EB.bt_isinstance (pa_cons (pv 1) (pa_cons (pe_bltn (v := .ty "list") (by rfl) T.n_list EB.bt_list rfl) pa_nil))))) (pw_or (pt_cmpR op_lt (pe_callB (kLen (K := K)) (by rfl) T.n_len PySem.boot_len (pa_cons (pv 1) pa_nil)) pe_int (nomark _)) (pw_or1 (pt_not (pt_val (pe_callB (kAll (K := K)) (by rfl) T.n_all EB.bt_all (pa_cons (pe_lc (own := [("one", 2)]) (g := gName 2) rfl sc_Ring_init.nd (kPiL (K := K) (pv 1)) (blkOk_by (own := [("one", 2)]) (N := ["self", "houses", "one"]) (sc := defScope s_Ring_init) (by decide +kernel)) (fun _ _ _ _ _ => (pg_name (i := 2) sc_Ring_init.nd rfl (by first | exact Or.inl rfl | exact Or.inr rfl))) (fun _ _ _ _ _ => pts_nil) (fun _ _ _ _ _ => (pe_call (ok_is_house T) (hr.mono (by decide)) (by rfl) T.g_is_house T.F_is_house.kp (b_is_house T) .nil pass0 (pa_cons (pv 2) pa_nil)))) pa_nil)))))))) (pss_one ps_never) pss_nil)
      (pss_one (ps_fld (pv 0) (pe_callTy (kList (K := K)) (by rfl) T.n_list EB.bt_list (pa_cons (pv 1) pa_nil)) rfl))), ?_⟩
    repeat walk_at "s"
    refine r_lcLB (fun _ => true) A (.inl ha) (by omega) (fun _ => rfl) (fun i x D H' Q' hx A' q => ?_) (fun D H' A' => ?_)
    · repeat walk_at "s"
      refine ⟨x, rfl, (hb x (List.mem_of_getElem? hx)).1, (hb x (List.mem_of_getElem? hx)).2, ?_⟩
      exact q.t0 rfl A'
    · repeat walk_at "s"
      rw [show ((hs.map fun _ => true).all id) = true by simp]
      repeat walk_at "s"
      refine r_list A' (by walk_at "sq") (fun l H2 A2 => ?_)
      repeat walk_at "s"
      refine r_sfK (A2.ex _ _ hp) T.cl_Ring T.no_Ring_over (by decide) ?_
      have npl : l ≠ p := fun e => by
        have z := A2.new _ List.mem_cons_self
        rw [e] at z
        rw [z] at hp
        cases hp
      refine k l _ (A2.new _ List.mem_cons_self) (fun b o e hb => ?_) upd_same ?_
      · rw [upd_ne hb]
        exact A2.ex _ _ e
      · rw [upd_ne npl]
        exact A2.get List.mem_cons_self
/-- a ring made -/
theorem use_Ring {T : Txt K mg} {H : Hp} {Q : VK} {E : XK} {a : Addr} {hs : List Int} (ha : SqL K H a (hs.map V.int)) (h2 : 2 ≤ hs.length) (hl : hs.length ≤ 1000) (hb : ∀ x ∈ hs, -1000000 ≤ x ∧ x ≤ 1000000)
    (k : ∀ p H', Same H H' → H p = none → RingAt T H' p hs → Q (.ref p) H') : mkC T.c_Ring (sp_Ring_init T) [.ref a] H Q E := fun x dx nx nd ne =>
  ⟨x, dx, a, hs, rfl, upd_same, (same_mk nx nd).seq ha, h2, hl, hb, fun l H' _ keep hp hl' => ⟨rfl, k x H' (fun b o e => keep b o (same_mk nx nd b o e) (ne_of_none e nx)) nx ⟨dx, l, hp, hl'⟩⟩⟩
def sp_Ring_houses (T : Txt K mg) : Sp := fun vs H Q _ => ∃ (p : Addr) (hs : List Int), vs = [.ref p] ∧ RingAt T H p hs ∧ ∀ q H', Same H H' → H q = none → H' q = some (.lst (hs.map V.int)) → Q (.ref q) H'
theorem ok_Ring_houses (T : Txt K mg) : FnOk P w K mg base CX0 1 T.f_Ring_houses T.fd_Ring_houses ["self"] (sp_Ring_houses T) := by
  refine T.F_Ring_houses.ok sc_Ring_houses (fun vs H Q E h => ?_) (fun cdv A outer s H vs Q E hr h => ?_)
  · obtain ⟨_, _, rfl, _⟩ := h
    rfl
  · skip
    obtain ⟨p, hs, rfl, ⟨dx, l, hp, hl⟩, k⟩ := h
    have A := At.nil H
    refine ⟨_, (pss_one (ps_ret (pe_callTy (kList (K := K)) (by rfl) T.n_list EB.bt_list (pa_cons (kFld (K := K) (pv 0)) pa_nil)))), ?_⟩
    repeat walk_at "s"
    refine r_list A (SqL.of hl) (fun q H2 A2 => ?_)
    exact k q H2 A2.ex (A2.new _ List.mem_cons_self) (A2.get List.mem_cons_self)
def sp_Ring_whole (T : Txt K mg) : Sp := fun vs H Q _ => ∃ (p : Addr) (hs : List Int), vs = [.ref p] ∧ RingAt T H p hs ∧ Q (.int hs.sum) H
theorem ok_Ring_whole (T : Txt K mg) : FnOk P w K mg base CX0 1 T.f_Ring_whole T.fd_Ring_whole ["self"] (sp_Ring_whole T) := by
  refine T.F_Ring_whole.ok sc_Ring_whole (fun vs H Q E h => ?_) (fun cdv A outer s H vs Q E hr h => ?_)
  · obtain ⟨_, _, rfl, _⟩ := h
    rfl
  · skip
    obtain ⟨p, hs, rfl, ⟨dx, l, hp, hl⟩, k⟩ := h
    have hs' : SqL K H l (hs.map V.int) := SqL.of hl
    refine ⟨_, (pss_one (ps_ret (pe_callB (kSum (K := K)) (by rfl) T.n_sum EB.bt_sum (pa_cons (kFld (K := K) (pv 0)) pa_nil)))), ?_⟩
    repeat walk_at "s"
    exact k
/-- o.houses(), o.whole() of a ring -/
theorem use_houses {T : Txt K mg} {H : Hp} {Q : VK} {E : XK} {p : Addr} {hs : List Int} {σ : L2.St} (R : RingAt T H p hs) (k : ∀ q H', Same H H' → H q = none → H' q = some (.lst (hs.map V.int)) → Q (.ref q) H') : mthK T.c_Ring "houses" (sp_Ring_houses T) tNil σ (.ref p) H Q E := by
  obtain ⟨dx, l, hp, hl⟩ := id R
  exact r_mthK hp (look1 (by decide +kernel)) ⟨p, hs, rfl, R, k⟩
theorem use_whole {T : Txt K mg} {H : Hp} {Q : VK} {E : XK} {p : Addr} {hs : List Int} {σ : L2.St} (R : RingAt T H p hs) (k : Q (.int hs.sum) H) : mthK T.c_Ring "whole" (sp_Ring_whole T) tNil σ (.ref p) H Q E := by
  obtain ⟨dx, l, hp, hl⟩ := id R
  exact r_mthK hp (look1 (by decide +kernel)) ⟨p, hs, rfl, R, k⟩
/-- a ring made, its list known -/
theorem use_RingL {T : Txt K mg} {H : Hp} {Q : VK} {E : XK} {a : Addr} {hs : List Int} (ha : SqL K H a (hs.map V.int)) (h2 : 2 ≤ hs.length) (hl : hs.length ≤ 1000) (hb : ∀ x ∈ hs, -1000000 ≤ x ∧ x ≤ 1000000)
    (k : ∀ p l dx H', Same H H' → H p = none → H l = none → H' p = some (.ins T.c_Ring dx [("over", .ref l)]) → H' l = some (.lst (hs.map V.int)) → Q (.ref p) H') : mkC T.c_Ring (sp_Ring_init T) [.ref a] H Q E := fun x dx nx nd _ =>
  ⟨x, dx, a, hs, rfl, upd_same, (same_mk nx nd).seq ha, h2, hl, hb, fun l H' h0 keep hp hl' => ⟨rfl, k x l dx H' (fun b o e => keep b o (same_mk nx nd b o e) (ne_of_none e nx)) nx ((same_mk nx nd).free h0) hp hl'⟩⟩

def sp_law_cell_at (_ : Txt K mg) : Sp := fun vs H Q _ => ∃ (a : Addr) (ns : List Int) (k : Int), vs = [.ref a, .int k] ∧ SqL K H a (ns.map V.int) ∧ 0 ≤ k ∧ ∀ c : Int, Q (.int c) H
theorem ok_law_cell_at (T : Txt K mg) : FnOk P w K mg base CX0 1 T.f_law_cell_at T.fd_law_cell_at ["_law_script", "_law_k"] (sp_law_cell_at T) := by
  refine T.F_law_cell_at.ok sc_law_cell_at (fun vs H Q E h => ?_) (fun cdv A outer s H vs Q E hr h => ?_)
  · obtain ⟨_, _, _, rfl, _⟩ := h
    rfl
  · skip
    obtain ⟨a, ns, i, rfl, ha, hi, k⟩ := h
    refine ⟨_, (pss_cons (ps_if (pt_cmpR op_lt (pv 1) (pe_callB (kLen (K := K)) (by rfl) T.n_len PySem.boot_len (pa_cons (pv 0) pa_nil)) (nomark _)) (pss_one (ps_ret (pe_ix (kIxL (K := K)) (pv 0) (pv 1) (fun _ _ => rfl)))) pss_nil)
      (pss_one (ps_ret pe_int))), ?_⟩
    repeat walk_at "s"
    refine r_ifD (fun hlt => ?_) (fun _ => ?_)
    · repeat walk_at "s"
      exact k _
    · repeat walk_at "s"
      exact k _
theorem use_cell {T : Txt K mg} {H : Hp} {Q : VK} {E : XK} {a : Addr} {ns : List Int} {i : Int} (ha : SqL K H a (ns.map V.int)) (hi : 0 ≤ i) (k : ∀ c : Int, Q (.int c) H) : sp_law_cell_at T [.ref a, .int i] H Q E := ⟨a, ns, i, rfl, ha, hi, k⟩
def sp_law_draw (_ : Txt K mg) : Sp := fun vs H Q _ => ∃ c i m : Int, vs = [.int c, .int i, .int m] ∧ 0 < m ∧ ∀ d H', Same H H' → 0 ≤ d → d < m → Q (.int d) H'
def primes : List Int := [1000003, 1000033, 1000037, 1000039, 1000081, 1000099, 1000117, 1000121, 1000133, 1000151, 1000159, 1000171, 1000183, 1000187, 1000193, 1000199]
theorem primes_pos : ∀ x ∈ primes, 0 < x := by decide
theorem ok_law_draw (T : Txt K mg) : FnOk P w K mg base CX0 1 T.f_law_draw T.fd_law_draw ["_law_cell", "_law_k", "_law_many"] (sp_law_draw T) := by
  refine T.F_law_draw.ok sc_law_draw (fun vs H Q E h => ?_) (fun cdv A outer s H vs Q E hr h => ?_)
  · obtain ⟨_, _, _, rfl, _⟩ := h
    rfl
  · skip
    obtain ⟨c, i, m, rfl, hm, k⟩ := h
    have A := At.nil H
    refine ⟨_, (pss_cons (ps_set (i := 3) sc_law_draw.nd rfl (by first | exact Or.inl rfl | exact Or.inr rfl) (pe_tup (pa_cons pe_int (pa_cons pe_int (pa_cons pe_int (pa_cons pe_int (pa_cons pe_int (pa_cons pe_int (pa_cons pe_int (pa_cons pe_int (pa_cons pe_int (pa_cons pe_int (pa_cons pe_int (pa_cons pe_int (pa_cons pe_int (pa_cons pe_int (pa_cons pe_int (pa_cons pe_int pa_nil))))))))))))))))))
      (pss_one (ps_ret (pe_op op_mod (pe_op op_mod (pe_op op_add (pe_op op_mul (pv 0) pe_int) (pe_op op_mul (pv 1) pe_int)) (pe_ix (kIxT (K := K)) (pv 3) (pe_op op_mod (pv 1) pe_int) (fun _ _ => rfl))) (pv 2))))), ?_⟩
    repeat walk_at "s"
    refine r_mkT A (by decide) (fun t H' A' => ?_)
    repeat walk_at "s"
    have h1 : 0 ≤ i % 16 := Int.emod_nonneg _ (by decide)
    have h2 : i % 16 < 16 := Int.emod_lt_of_pos _ (by decide)
    refine r_ixT (xs := primes.map V.int) (v := .int (gz primes (i % 16))) (A'.sto (by walk_at "mem")) (atI_gz (by show -(16 : Int) ≤ _; omega) h2) ?_
    have h3 : 0 < gz primes (i % 16) := primes_pos _ (EM.gz_mem (by show -(16 : Int) ≤ _; omega) h2)
    repeat walk_at "s"
    exact k _ H' A'.ex (Int.emod_nonneg _ (by omega)) (Int.emod_lt_of_pos _ hm)
theorem use_draw {T : Txt K mg} {H0 H : Hp} {L : List (Addr × HO)} {Q : VK} {E : XK} {c i m : Int} (A : At H0 L H) (hm : 0 < m) (k : ∀ d H', At H0 L H' → 0 ≤ d → d < m → Q (.int d) H') : sp_law_draw T [.int c, .int i, .int m] H Q E :=
  ⟨c, i, m, rfl, hm, fun d H' s h0 h1 => k d H' (A.same s) h0 h1⟩
local macro_rules | `(tactic| walk_at "s") => `(tactic| ((with_reducible show sp_law_draw _ [_, _, _] _ _ _); refine use_draw (by assumption) (by omega) ?_; intro d H' A' h0 h1))
local macro_rules | `(tactic| walk_at "s") => `(tactic| ((with_reducible show sp_law_cell_at _ [_, _] _ _ _); refine use_cell (by walk_at "sq") (by omega) ?_; intro c))
def sp_law_houses (_ : Txt K mg) : Sp := fun vs H Q _ => ∃ (a : Addr) (ns : List Int) (f : Int), vs = [.ref a, .int f] ∧ SqL K H a (ns.map V.int) ∧ ns.length ≤ 63 ∧ -6 ≤ f ∧ f ≤ 6 ∧
  ∀ hs q H', EM.Houses ns.length hs → Same H H' → H q = none → H' q = some (.lst (hs.map V.int)) → Q (.ref q) H'
theorem ok_law_houses (T : Txt K mg) : FnOk P w K mg base CX0 2 T.f_law_houses T.fd_law_houses ["_law_script", "_law_first"] (sp_law_houses T) := by
  refine T.F_law_houses.ok sc_law_houses (fun vs H Q E h => ?_) (fun cdv A outer s H vs Q E hr h => ?_)
  · obtain ⟨_, _, _, rfl, _⟩ := h
    rfl
  · skip
    obtain ⟨a, ns, f, rfl, ha, hn, hf1, hf2, k⟩ := h
    have A := At.nil H
    refine ⟨_, (pss_cons (ps_set (i := 2) sc_law_houses.nd rfl (by first | exact Or.inl rfl | exact Or.inr rfl) (pe_ix (kIxT (K := K)) (pe_tup (pa_cons pe_int (pa_cons pe_int (pa_cons pe_int (pa_cons pe_int pa_nil))))) (pe_call (ok_law_draw T) (hr.mono (by decide)) (by rfl) T.g_law_draw T.F_law_draw.kp (b_law_draw T) .nil pass0 (pa_cons (pe_call (ok_law_cell_at T) (hr.mono (by decide)) (by rfl) T.g_law_cell_at T.F_law_cell_at.kp (b_law_cell_at T) .nil pass0 (pa_cons (pv 0) (pa_cons pe_int pa_nil))) (pa_cons pe_int (pa_cons pe_int pa_nil)))) (fun _ _ => rfl)))
      (pss_cons (ps_set (i := 3) sc_law_houses.nd rfl (by first | exact Or.inl rfl | exact Or.inr rfl) (pe_lst (pa_cons (pe_op op_sub (pe_call (ok_law_draw T) (hr.mono (by decide)) (by rfl) T.g_law_draw T.F_law_draw.kp (b_law_draw T) .nil pass0 (pa_cons (pe_call (ok_law_cell_at T) (hr.mono (by decide)) (by rfl) T.g_law_cell_at T.F_law_cell_at.kp (b_law_cell_at T) .nil pass0 (pa_cons (pv 0) (pa_cons pe_int pa_nil))) (pa_cons pe_int (pa_cons pe_int pa_nil)))) pe_int) (pa_cons (pv 1) pa_nil))))
      (pss_cons (ps_for PassesOwn.never rfl (pi_range1 (by rfl) T.n_range (pa_cons (pe_callB (kLen (K := K)) (by rfl) T.n_len PySem.boot_len (pa_cons (pv 0) pa_nil)) pa_nil)) (pg_name (i := 4) sc_law_houses.nd rfl (by first | exact Or.inl rfl | exact Or.inr rfl)) (pss_one (ps_expr (pe_bm PySem.F.plainAttrs_list PySem.F.slot_list_append PySem.F.type_list_append mt_append (pv 3) (pa_cons (pe_op op_sub (pe_call (ok_law_draw T) (hr.mono (by decide)) (by rfl) T.g_law_draw T.F_law_draw.kp (b_law_draw T) .nil pass0 (pa_cons (pe_ix (kIxL (K := K)) (pv 0) (pv 4) (fun _ _ => rfl)) (pa_cons (pe_op op_add (pe_op op_mod (pv 4) pe_int) pe_int) (pa_cons (pe_op op_add (pe_op op_mul pe_int (pv 2)) pe_int) pa_nil)))) (pv 2)) pa_nil)))))
      (pss_one (ps_ret (pe_lc (own := [("_law_k", 4)]) (g := gName 4) rfl sc_law_houses.nd (pi_range1 (by rfl) T.n_range (pa_cons (pe_callB (kLen (K := K)) (by rfl) T.n_len PySem.boot_len (pa_cons (pv 3) pa_nil)) pa_nil)) (blkOk_by (own := [("_law_k", 4)]) (N := ["_law_script", "_law_first", "_law_most", "_law_carried", "_law_k"]) (sc := defScope s_law_houses) (by decide +kernel)) (fun _ _ _ _ _ => (pg_name (i := 4) sc_law_houses.nd rfl (by first | exact Or.inl rfl | exact Or.inr rfl))) (fun _ _ _ _ _ => pts_nil) (fun _ _ _ _ _ => (pe_op op_sub (pe_ix (kIxL (K := K)) (pv 3) (pv 4) (fun _ _ => rfl)) (pe_ix (kIxL (K := K)) (pv 3) (pe_op op_sub (pv 4) pe_int) (fun _ _ => rfl)))))))))), ?_⟩
    repeat walk_at "s"
    refine r_mkT A (by decide) (fun t H1 A1 => ?_)
    repeat walk_at "s"
    rename_i d Hd Ad hd0 hd3
    refine r_ixTI (ns := [2, 9, 400, 499999]) (Ad.sto (by walk_at "mem")) (by show -(4 : Int) ≤ _; omega) (by show _ < (4 : Int); omega) ?_
    have hm : 2 ≤ gz [2, 9, 400, 499999] d ∧ gz [2, 9, 400, 499999] d ≤ 499999 := (by decide : ∀ x ∈ ([2, 9, 400, 499999] : List Int), 2 ≤ x ∧ x ≤ 499999) _ (EM.gz_mem (by show -(4 : Int) ≤ _; omega) (by show _ < (4 : Int); omega))
    generalize gz [2, 9, 400, 499999] d = m at hm ⊢
    repeat walk_at "s"
    rename_i c0 d0 H0 A0 h00 h03
    refine r_mkL A0 (by show 2 ≤ 10000000; decide) (fun l H2 A2 => ?_)
    repeat walk_at "s"
    refine r_rng1 rfl (by omega) ?_
    have A3 : At H [(l, .lst (([d0 - 1, f] : List Int).map V.int))] H2 := A2.sub (by simp)
    refine r_forItr (fun i σ H' => ∃ (cs : List Int) (v : Option V), σ = [some (.ref a), some (.int f), some (.int m), some (.ref l), v] ∧ At H [(l, .lst (cs.map V.int))] H' ∧ cs.length = i + 2 ∧ (∀ c ∈ cs, -499999 ≤ c ∧ c ≤ 499999) ∧ -1 ≤ EM.fz cs 0 ∧ EM.fz cs 0 ≤ 1)
      ⟨[d0 - 1, f], none, rfl, A3, rfl, ?_, ?_, ?_⟩ ?_ ?_
    · intro c hc
      simp at hc
      rcases hc with rfl | rfl <;> omega
    · show -1 ≤ d0 - 1; omega
    · show d0 - 1 ≤ 1; omega
    · rintro i σ H3 N hi ⟨cs, v, rfl, A4, hl, hb, hz1, hz2⟩ hN
      repeat walk_at "s"
      rename_i c d H4 A5 hd0 hd1
      refine r_append A5 (by rw [List.length_map]; omega) (fun H5 A6 => ?_)
      refine hN _ _ ⟨cs ++ [d - m], some (.int i), rfl, by rw [← EM.map_app]; exact A6, by rw [List.length_append, hl]; rfl, ?_, ?_⟩
      · intro c hc
        rcases List.mem_append.mp hc with hc | hc
        · exact hb c hc
        · rw [List.mem_singleton] at hc
          omega
      · rw [EM.fz_app (fun e => by rw [e] at hl; simp at hl)]
        exact ⟨hz1, hz2⟩
    · rintro σ H3 ⟨cs, v, rfl, A4, hl, hb, hz1, hz2⟩
      repeat walk_at "s"
      refine r_rng1 (n := cs.length) rfl (by omega) ?_
      refine r_lcRI (fun k => gz cs (k : Int) - gz cs ((k : Int) - 1)) A4 (by omega) (fun _ => rfl) (fun i D H' Q' hi A' q => ?_) (fun D H' A' => ?_)
      · repeat walk_at "s"
        exact q.t0 rfl A'
      · exact k (EM.cyc cs) D H' (EM.houses_of hl hb ⟨hz1, hz2⟩) A'.ex (A'.new _ List.mem_cons_self) (A'.get List.mem_cons_self)

def sp_running (_ : Txt K mg) : Sp := fun vs H Q _ => ∃ (a : Addr) (hs : List Int), vs = [.ref a] ∧ SqL K H a (hs.map V.int) ∧ hs.length ≤ 1000 ∧ ∀ q H', Same H H' → H q = none → H' q = some (.lst ((EM.runs hs).map V.int)) → Q (.ref q) H'
theorem ok_running (T : Txt K mg) : FnOk P w K mg base CX0 1 T.f_running T.fd_running ["houses"] (sp_running T) := by
  refine T.F_running.ok sc_running (fun vs H Q E h => ?_) (fun cdv A outer s H vs Q E hr h => ?_)
  · obtain ⟨_, _, rfl, _⟩ := h
    rfl
  · skip
    obtain ⟨a, hs, rfl, ha, hl, k⟩ := h
    have A := At.nil H
    refine ⟨_, (pss_cons (ps_set (i := 1) sc_running.nd rfl (by first | exact Or.inl rfl | exact Or.inr rfl) (pe_lst pa_nil))
      (pss_cons (ps_set (i := 2) sc_running.nd rfl (by first | exact Or.inl rfl | exact Or.inr rfl) pe_int)
      (pss_cons (ps_for PassesOwn.never rfl (kPiL (K := K) (pv 0)) (pg_name (i := 3) sc_running.nd rfl (by first | exact Or.inl rfl | exact Or.inr rfl)) (pss_cons (ps_aug (i := 2) sc_running.nd rfl (by first | exact Or.inl rfl | exact Or.inr rfl) (pv 3) ip_add)
      (pss_one (ps_expr (pe_bm PySem.F.plainAttrs_list PySem.F.slot_list_append PySem.F.type_list_append mt_append (pv 1) (pa_cons (pv 2) pa_nil))))))
      (pss_one (ps_ret (pv 1)))))), ?_⟩
    repeat walk_at "s"
    refine r_mkL A (by decide) (fun l H1 A1 => ?_)
    repeat walk_at "s"
    refine r_forItlI hs (fun i σ H' => ∃ (v : Option V), σ = [some (.ref a), some (.ref l), some (.int (hs.take i).sum), v] ∧ At H [(l, .lst (((EM.runs hs).take i).map V.int))] H') ⟨none, rfl, A1⟩ (fun i σ H' _ ⟨v, _, A'⟩ => A'.sq ha) ?_ ?_
    · rintro i x σ H2 N hx ⟨v, rfl, A2⟩ hN
      repeat walk_at "s"
      have hrl := EM.runs_len hs
      refine r_append A2 (by rw [List.length_map, List.length_take]; omega) (fun H3 A3 => ?_)
      have e : (hs.take i).sum + x = (hs.take (i + 1)).sum := (sum_take hx).symm
      rw [e] at A3 ⊢
      refine hN _ _ ⟨_, rfl, ?_⟩
      rw [EM.runs_take hx, ← EM.map_app]
      exact A3
    · rintro σ H2 ⟨v, rfl, A2⟩
      repeat walk_at "s"
      have e : (EM.runs hs).take hs.length = EM.runs hs := List.take_of_length_le (by rw [EM.runs_len]; omega)
      rw [e] at A2
      exact k l H2 A2.ex (A2.new _ List.mem_cons_self) (A2.get List.mem_cons_self)
theorem use_running {T : Txt K mg} {H0 H : Hp} {L : List (Addr × HO)} {Q : VK} {E : XK} {a : Addr} {hs : List Int} (A : At H0 L H) (ha : SqL K H a (hs.map V.int)) (hl : hs.length ≤ 1000) (k : ∀ q H', At H0 ((q, .lst ((EM.runs hs).map V.int)) :: L) H' → Q (.ref q) H') : sp_running T [.ref a] H Q E :=
  ⟨a, hs, rfl, ha, hl, fun q H' s h0 h1 => k q H' (A.made s h0 h1)⟩

/-- what drawn tolls are -/
def Tolls (n : Int) (ts : List Int) : Prop := (ts.length : Int) = n ∧ ∀ t ∈ ts, 0 ≤ t ∧ t ≤ 1000
def sp_law_tolls (_ : Txt K mg) : Sp := fun vs H Q _ => ∃ (a : Addr) (ns : List Int) (n : Nat), vs = [.ref a, .int (n : Int)] ∧ SqL K H a (ns.map V.int) ∧ ns.length ≤ 63 ∧ n ≤ 1000 ∧ ∀ ts q H', Tolls n ts → Same H H' → H q = none → H' q = some (.lst (ts.map V.int)) → Q (.ref q) H'
theorem ok_law_tolls (T : Txt K mg) : FnOk P w K mg base CX0 2 T.f_law_tolls T.fd_law_tolls ["_law_script", "_law_many"] (sp_law_tolls T) := by
  refine T.F_law_tolls.ok sc_law_tolls (fun vs H Q E h => ?_) (fun cdv A outer s H vs Q E hr h => ?_)
  · obtain ⟨_, _, _, rfl, _⟩ := h
    rfl
  · skip
    obtain ⟨a, ns, n, rfl, ha, hns, hn, k⟩ := h
    have A := At.nil H
    refine ⟨_, (pss_cons (ps_set (i := 2) sc_law_tolls.nd rfl (by first | exact Or.inl rfl | exact Or.inr rfl) (pe_call (ok_law_draw T) (hr.mono (by decide)) (by rfl) T.g_law_draw T.F_law_draw.kp (b_law_draw T) .nil pass0 (pa_cons (pe_call (ok_law_cell_at T) (hr.mono (by decide)) (by rfl) T.g_law_cell_at T.F_law_cell_at.kp (b_law_cell_at T) .nil pass0 (pa_cons (pv 0) (pa_cons pe_int pa_nil))) (pa_cons pe_int (pa_cons pe_int pa_nil)))))
      (pss_cons (ps_set (i := 3) sc_law_tolls.nd rfl (by first | exact Or.inl rfl | exact Or.inr rfl) (pe_lst pa_nil))
      (pss_cons (ps_for PassesOwn.never rfl (pi_range1 (by rfl) T.n_range (pa_cons (pv 1) pa_nil)) (pg_name (i := 4) sc_law_tolls.nd rfl (by first | exact Or.inl rfl | exact Or.inr rfl)) (pss_cons (ps_set (i := 5) sc_law_tolls.nd rfl (by first | exact Or.inl rfl | exact Or.inr rfl) (pe_call (ok_law_cell_at T) (hr.mono (by decide)) (by rfl) T.g_law_cell_at T.F_law_cell_at.kp (b_law_cell_at T) .nil pass0 (pa_cons (pv 0) (pa_cons (pe_op op_mod (pe_op op_add (pv 4) pe_int) (pe_op op_add (pe_callB (kLen (K := K)) (by rfl) T.n_len PySem.boot_len (pa_cons (pv 0) pa_nil)) pe_int)) pa_nil))))
      (pss_one (ps_expr (pe_bm PySem.F.plainAttrs_list PySem.F.slot_list_append PySem.F.type_list_append mt_append (pv 3) (pa_cons (pe_ix (kIxT (K := K)) (pe_tup (pa_cons pe_int (pa_cons (pe_call (ok_law_draw T) (hr.mono (by decide)) (by rfl) T.g_law_draw T.F_law_draw.kp (b_law_draw T) .nil pass0 (pa_cons (pv 5) (pa_cons pe_int (pa_cons pe_int pa_nil)))) (pa_cons (pe_op op_fdiv (pe_call (ok_law_draw T) (hr.mono (by decide)) (by rfl) T.g_law_draw T.F_law_draw.kp (b_law_draw T) .nil pass0 (pa_cons (pv 5) (pa_cons pe_int (pa_cons pe_int pa_nil)))) pe_int) (pa_cons (pe_call (ok_law_draw T) (hr.mono (by decide)) (by rfl) T.g_law_draw T.F_law_draw.kp (b_law_draw T) .nil pass0 (pa_cons (pv 5) (pa_cons pe_int (pa_cons pe_int pa_nil)))) (pa_cons pe_int pa_nil)))))) (pv 2) (fun _ _ => rfl)) pa_nil))))))
      (pss_one (ps_ret (pv 3)))))), ?_⟩
    repeat walk_at "s"
    rename_i c kd Hk Ak hk0 hk1
    refine r_mkL Ak (by decide) (fun l H1 A1 => ?_)
    repeat walk_at "s"
    refine r_rng1 (n := n) rfl (by omega) ?_
    refine r_forItr (fun i σ H' => ∃ (ts : List Int) (v1 v2 : Option V), σ = [some (.ref a), some (.int (n : Int)), some (.int kd), some (.ref l), v1, v2] ∧ At H [(l, .lst (ts.map V.int))] H' ∧ Tolls i ts) ⟨[], none, none, rfl, A1, rfl, fun _ h => nomatch h⟩ ?_ ?_
    · rintro i σ H2 N hi ⟨ts, v1, v2, rfl, A2, htl, hts⟩ hN
      have hm : 0 ≤ ((i : Int) + 1) % ((ns.length : Int) + 1) := Int.emod_nonneg _ (by omega)
      repeat walk_at "s"
      rename_i c1 d1 H3 A3 h10 h11 d2 H4 A4 h20 h21 d3 H5 A5 h30 h31
      refine r_mkT A5 (by show 5 ≤ 10000000; decide) (fun t H6 A6 => ?_)
      repeat walk_at "s"
      refine r_ixTI (ns := [1, d1, d2 / 3, d3, 0]) (A6.sto (by walk_at "mem")) (by show -(5 : Int) ≤ _; omega) (by show _ < (5 : Int); omega) ?_
      have hb : 0 ≤ gz [1, d1, d2 / 3, d3, 0] kd ∧ gz [1, d1, d2 / 3, d3, 0] kd ≤ 1000 := by
        have hm := EM.gz_mem (ns := [1, d1, d2 / 3, d3, 0]) (i := kd) (by show -(5 : Int) ≤ _; omega) (by show _ < (5 : Int); omega)
        generalize gz [1, d1, d2 / 3, d3, 0] kd = z at hm
        simp only [List.mem_cons, List.not_mem_nil, or_false] at hm
        rcases hm with rfl | rfl | rfl | rfl | rfl <;> omega
      generalize gz [1, d1, d2 / 3, d3, 0] kd = z at hb ⊢
      have A7 : At H [(l, .lst (ts.map V.int))] H6 := A6.sub (by simp)
      repeat walk_at "s"
      refine r_append A7 (by rw [List.length_map]; omega) (fun H7 A8 => ?_)
      refine hN _ _ ⟨ts ++ [z], _, _, rfl, by rw [← EM.map_app]; exact A8, by rw [List.length_append]; simp; omega, fun t ht => ?_⟩
      rcases List.mem_append.mp ht with ht | ht
      · exact hts t ht
      · rw [List.mem_singleton] at ht
        rw [ht]
        exact hb
    · rintro σ H2 ⟨ts, v1, v2, rfl, A2, hT⟩
      repeat walk_at "s"
      exact k ts l H2 hT A2.ex (A2.new _ List.mem_cons_self) (A2.get List.mem_cons_self)

def sp_law_evened (_ : Txt K mg) : Sp := fun vs H Q _ => ∃ (a b : Addr) (hs cs : List Int), vs = [.ref a, .ref b] ∧ SqL K H a (hs.map V.int) ∧ SqL K H b (cs.map V.int) ∧ cs.length ≤ 1000 ∧ ∀ H', Same H H' → Q (.bl (decide (EM.cyc cs = hs))) H'
theorem ok_law_evened (T : Txt K mg) : FnOk P w K mg base CX0 1 T.f_law_evened T.fd_law_evened ["_law_houses_here", "_law_carried"] (sp_law_evened T) := by
  refine T.F_law_evened.ok sc_law_evened (fun vs H Q E h => ?_) (fun cdv A outer s H vs Q E hr h => ?_)
  · obtain ⟨_, _, _, _, rfl, _⟩ := h
    rfl
  · skip
    obtain ⟨a, b, hs, cs, rfl, ha, hb, hl, k⟩ := h
    have A := At.nil H
    refine ⟨_, (pss_one (ps_ret (pe_cmpR (kEqD (K := K) hr.units) (pe_lc (own := [("_law_k", 2)]) (g := gName 2) rfl sc_law_evened.nd (pi_range1 (by rfl) T.n_range (pa_cons (pe_callB (kLen (K := K)) (by rfl) T.n_len PySem.boot_len (pa_cons (pv 1) pa_nil)) pa_nil)) (blkOk_by (own := [("_law_k", 2)]) (N := ["_law_houses_here", "_law_carried", "_law_k"]) (sc := defScope s_law_evened) (by decide +kernel)) (fun _ _ _ _ _ => (pg_name (i := 2) sc_law_evened.nd rfl (by first | exact Or.inl rfl | exact Or.inr rfl))) (fun _ _ _ _ _ => pts_nil) (fun _ _ _ _ _ => (pe_op op_sub (pe_ix (kIxL (K := K)) (pv 1) (pv 2) (fun _ _ => rfl)) (pe_ix (kIxL (K := K)) (pv 1) (pe_op op_sub (pv 2) pe_int) (fun _ _ => rfl))))) (pv 0) (nomark _)))), ?_⟩
    repeat walk_at "s"
    refine r_rng1 (n := cs.length) rfl (by omega) ?_
    refine r_lcRI (fun k => gz cs (k : Int) - gz cs ((k : Int) - 1)) A (by omega) (fun _ => rfl) (fun i D H' Q' hi A' q => ?_) (fun D H' A' => ?_)
    · repeat walk_at "s"
      exact q.t0 rfl A'
    · repeat walk_at "s"
      exact k H' A'.ex
theorem use_evened {T : Txt K mg} {H0 H : Hp} {L : List (Addr × HO)} {Q : VK} {E : XK} {a b : Addr} {hs cs : List Int} (A : At H0 L H) (ha : SqL K H a (hs.map V.int)) (hb : SqL K H b (cs.map V.int)) (hl : cs.length ≤ 1000) (k : ∀ H', At H0 L H' → Q (.bl (decide (EM.cyc cs = hs))) H') : sp_law_evened T [.ref a, .ref b] H Q E :=
  ⟨a, b, hs, cs, rfl, ha, hb, hl, fun H' s => k H' (A.same s)⟩
local macro_rules | `(tactic| walk_at "s") => `(tactic| ((with_reducible show sp_law_evened _ [_, _] _ _ _); refine use_evened (by assumption) (by walk_at "sq") (by walk_at "sq") (by omega) ?_; intro H' A'))

def sp_is_evening (_ : Txt K mg) : Sp := fun vs H Q _ => ∃ (a b : Addr) (hs cs : List Int), vs = [.ref a, .ref b] ∧ SqL K H a (hs.map V.int) ∧ SqL K H b (cs.map V.int) ∧ hs.length ≤ 1000 ∧ ∀ H', Same H H' → Q (.bl (decide (EM.cyc cs = hs))) H'
theorem ok_is_evening (T : Txt K mg) : FnOk P w K mg base CX0 1 T.f_is_evening T.fd_is_evening ["houses", "carried"] (sp_is_evening T) := by
  refine T.F_is_evening.ok sc_is_evening (fun vs H Q E h => ?_) (fun cdv A outer s H vs Q E hr h => ?_)
  · obtain ⟨_, _, _, _, rfl, _⟩ := h
    rfl
  · skip
    obtain ⟨a, b, hs, cs, rfl, ha, hb, hl, k⟩ := h
    have A := At.nil H
    refine ⟨_, (pss_cons (ps_if (pt_cmpR op_ne (pe_callB (kLen (K := K)) (by rfl) T.n_len PySem.boot_len (pa_cons (pv 1) pa_nil)) (pe_callB (kLen (K := K)) (by rfl) T.n_len PySem.boot_len (pa_cons (pv 0) pa_nil)) (nomark _)) (pss_one (ps_ret pe_bl)) pss_nil)
      (pss_one (ps_ret (pe_callB (kAll (K := K)) (by rfl) T.n_all EB.bt_all (pa_cons (pe_lc (own := [("k", 2)]) (g := gName 2) rfl sc_is_evening.nd (pi_range1 (by rfl) T.n_range (pa_cons (pe_callB (kLen (K := K)) (by rfl) T.n_len PySem.boot_len (pa_cons (pv 0) pa_nil)) pa_nil)) (blkOk_by (own := [("k", 2)]) (N := ["houses", "carried", "k"]) (sc := defScope s_is_evening) (by decide +kernel)) (fun _ _ _ _ _ => (pg_name (i := 2) sc_is_evening.nd rfl (by first | exact Or.inl rfl | exact Or.inr rfl))) (fun _ _ _ _ _ => pts_nil) (fun _ _ _ _ _ => (pe_cmpR op_eq (pe_op op_sub (pe_ix (kIxL (K := K)) (pv 1) (pv 2) (fun _ _ => rfl)) (pe_ix (kIxL (K := K)) (pv 1) (pe_op op_sub (pv 2) pe_int) (fun _ _ => rfl))) (pe_ix (kIxL (K := K)) (pv 0) (pv 2) (fun _ _ => rfl)) (nomark _)))) pa_nil))))), ?_⟩
    repeat walk_at "s"
    refine r_ifND (fun h => ?_) (fun h => ?_)
    · repeat walk_at "s"
      have z := k H A.ex
      rw [decide_eq_false (fun e => h (by rw [← e, EM.cyc_len]))] at z
      exact z
    repeat walk_at "s"
    refine r_rng1 (n := hs.length) rfl (by omega) ?_
    refine r_lcRB (fun k => decide (gz cs (k : Int) - gz cs ((k : Int) - 1) = gz hs (k : Int))) A (by omega) (fun _ => rfl) (fun i D H' Q' hi A' q => ?_) (fun D H' A' => ?_)
    · repeat walk_at "s"
      exact q.t0 rfl A'
    · repeat walk_at "s"
      rw [EM.all_cyc (by omega)]
      exact k H' A'.ex
theorem use_is_evening {T : Txt K mg} {H0 H : Hp} {L : List (Addr × HO)} {Q : VK} {E : XK} {a b : Addr} {hs cs : List Int} (A : At H0 L H) (ha : SqL K H a (hs.map V.int)) (hb : SqL K H b (cs.map V.int)) (hl : hs.length ≤ 1000) (k : ∀ H', At H0 L H' → Q (.bl (decide (EM.cyc cs = hs))) H') : sp_is_evening T [.ref a, .ref b] H Q E :=
  ⟨a, b, hs, cs, rfl, ha, hb, hl, fun H' s => k H' (A.same s)⟩
local macro_rules | `(tactic| walk_at "s") => `(tactic| ((with_reducible show sp_is_evening _ [_, _] _ _ _); refine use_is_evening (by assumption) (by walk_at "sq") (by walk_at "sq") (by omega) ?_; intro H' A'))

/-! tolls, the middle, steps, prices, Even, Uneven, least -/
def sp_check_tolls (T : Txt K mg) : Sp := fun vs H Q _ => ∃ (p b : Addr) (hs ts : List Int), vs = [.ref p, .ref b] ∧ RingAt T H p hs ∧ SqL K H b (ts.map V.int) ∧ ts.length = hs.length ∧ hs.length ≤ 1000 ∧ (∀ t ∈ ts, 0 ≤ t ∧ t ≤ 1000) ∧ ∀ H', Same H H' → Q .non H'
theorem ok_check_tolls (T : Txt K mg) : FnOk P w K mg base CX0 2 T.f_check_tolls T.fd_check_tolls ["ring", "tolls"] (sp_check_tolls T) := by
  refine T.F_check_tolls.ok sc_check_tolls (fun vs H Q E h => ?_) (fun cdv A outer s H vs Q E hr h => ?_)
  · obtain ⟨_, _, _, _, rfl, _⟩ := h
    rfl
  · skip
    obtain ⟨p, b, hs, ts, rfl, ⟨dx, l, hp, hl⟩, hb, hlen, hn, ht, k⟩ := h
    have A := At.nil H
    have h1 : SqL K H l (hs.map V.int) := SqL.of hl
    refine ⟨_, (pss_cons (ps_if (PW.pt (pw_or (pt_not (pt_val (pe_callB (kIsi (K := K)) (by rfl) T.n_isinstance EB.bt_isinstance (pa_cons (pv 1) (pa_cons (pe_bltn (v := .ty "list") (by rfl) T.n_list EB.bt_list rfl) pa_nil))))) (pw_or1 (pt_cmpR op_ne (pe_callB (kLen (K := K)) (by rfl) T.n_len PySem.boot_len (pa_cons (pv 1) pa_nil)) (pe_callB (kLen (K := K)) (by rfl) T.n_len PySem.boot_len (pa_cons (kFld (K := K) (pv 0)) pa_nil)) (nomark _))))) (pss_one ps_never) pss_nil)
      (pss_one (ps_if (pt_not (pt_val (pe_callB (kAll (K := K)) (by rfl) T.n_all EB.bt_all (pa_cons (pe_lc (own := [("toll", 2)]) (g := gName 2) rfl sc_check_tolls.nd (kPiL (K := K) (pv 1)) (blkOk_by (own := [("toll", 2)]) (N := ["ring", "tolls", "toll"]) (sc := defScope s_check_tolls) (by decide +kernel)) (fun _ _ _ _ _ => (pg_name (i := 2) sc_check_tolls.nd rfl (by first | exact Or.inl rfl | exact Or.inr rfl))) (fun _ _ _ _ _ => pts_nil) (fun _ _ _ _ _ => (pe_and (pe_call (ok_is_whole T) (hr.mono (by decide)) (by rfl) T.g_is_whole T.F_is_whole.kp (b_is_whole T) .nil pass0 (pa_cons (pv 2) pa_nil)) (pe_one (pe_chain op_le op_le pe_int (pv 2) (pe_glob (v := .int 1000) (by rfl) T.k_GREATEST_carrying.2 ⟨_, rfl⟩)))))) pa_nil)))) (pss_one ps_never) pss_nil))), ?_⟩
    repeat walk_at "s"
    refine r_lcLB (fun _ => true) A (.inl hb) (by omega) (fun _ => rfl) (fun i x D H' Q' hx A' q => ?_) (fun D H' A' => ?_)
    · have hx' := ht x (List.mem_of_getElem? hx)
      repeat walk_at "s"
      refine ⟨x, rfl, ?_⟩
      repeat walk_at "s"
      rw [decide_eq_true hx'.2]
      exact q.t0 rfl A'
    · repeat walk_at "s"
      rw [show ((ts.map fun _ => true).all id) = true by simp]
      repeat walk_at "s"
      exact k H' A'.ex
theorem use_check_tolls {T : Txt K mg} {H0 H : Hp} {L : List (Addr × HO)} {Q : VK} {E : XK} {p b : Addr} {hs ts : List Int} (A : At H0 L H) (R : RingAt T H p hs) (hb : SqL K H b (ts.map V.int)) (hlen : ts.length = hs.length) (hn : hs.length ≤ 1000) (ht : ∀ t ∈ ts, 0 ≤ t ∧ t ≤ 1000)
    (k : ∀ H', At H0 L H' → Q .non H') : sp_check_tolls T [.ref p, .ref b] H Q E := ⟨p, b, hs, ts, rfl, R, hb, hlen, hn, ht, fun H' s => k H' (A.same s)⟩
def sp_middles (_ : Txt K mg) : Sp := fun vs H Q _ => ∃ (a b : Addr) (S ts : List Int), vs = [.ref a, .ref b] ∧ SqL K H a (S.map V.int) ∧ SqL K H b (ts.map V.int) ∧ ts.length = S.length ∧ S.length ≤ 1000 ∧ (∀ t ∈ ts, 0 ≤ t ∧ t ≤ 1000) ∧ 0 < ts.sum ∧
  ∀ lo hi p H', EM.Mid (EM.prs S ts) lo → EM.MidH (EM.prs S ts) hi → Same H H' → H p = none → H' p = some (.tup [.int lo, .int hi]) → Q (.ref p) H'
theorem ok_middles (T : Txt K mg) : FnOk P w K mg base CX0 1 T.f_middles T.fd_middles ["sums", "tolls"] (sp_middles T) := by
  refine T.F_middles.ok sc_middles (fun vs H Q E h => ?_) (fun cdv A outer s H vs Q E hr h => ?_)
  · obtain ⟨_, _, _, _, rfl, _⟩ := h
    rfl
  · skip
    obtain ⟨a, b, S, ts, rfl, ha, hb, hlen, hn, ht, hW, k⟩ := h
    have A := At.nil H
    have ht0 : ∀ t ∈ ts, 0 ≤ t := fun t h => (ht t h).1
    refine ⟨_, (pss_cons (ps_set (i := 2) sc_middles.nd rfl (by first | exact Or.inl rfl | exact Or.inr rfl) (pe_callB (kSorted (K := K)) (by rfl) T.n_sorted EB.bt_sorted (pa_cons (pe_lc (own := [("k", 3)]) (g := gName 3) rfl sc_middles.nd (pi_range1 (by rfl) T.n_range (pa_cons (pe_callB (kLen (K := K)) (by rfl) T.n_len PySem.boot_len (pa_cons (pv 0) pa_nil)) pa_nil)) (blkOk_by (own := [("k", 3)]) (N := ["sums", "tolls", "order", "k", "whole", "low", "high", "below", "number", "toll"]) (sc := defScope s_middles) (by decide +kernel)) (fun _ _ _ _ _ => (pg_name (i := 3) sc_middles.nd rfl (by first | exact Or.inl rfl | exact Or.inr rfl))) (fun _ _ _ _ _ => (pts_one (pt_cmpR op_gt (pe_ix (kIxL (K := K)) (pv 1) (pv 3) (fun _ _ => rfl)) pe_int (nomark _)))) (fun _ _ _ _ _ => (pe_tup (pa_cons (pe_ix (kIxL (K := K)) (pv 0) (pv 3) (fun _ _ => rfl)) (pa_cons (pe_ix (kIxL (K := K)) (pv 1) (pv 3) (fun _ _ => rfl)) pa_nil))))) pa_nil)))
      (pss_cons (ps_set (i := 4) sc_middles.nd rfl (by first | exact Or.inl rfl | exact Or.inr rfl) (pe_callB (kSum (K := K)) (by rfl) T.n_sum EB.bt_sum (pa_cons (pv 1) pa_nil)))
      (pss_cons (ps_set (i := 5) sc_middles.nd rfl (by first | exact Or.inl rfl | exact Or.inr rfl) (pe_ix (kIxT (K := K)) (pe_ix (kIxL (K := K)) (pv 2) pe_int (fun _ _ => rfl)) pe_int (fun _ _ => rfl)))
      (pss_cons (ps_set (i := 6) sc_middles.nd rfl (by first | exact Or.inl rfl | exact Or.inr rfl) (pe_ix (kIxT (K := K)) (pe_ix (kIxL (K := K)) (pv 2) pe_int (fun _ _ => rfl)) pe_int (fun _ _ => rfl)))
      (pss_cons (ps_set (i := 7) sc_middles.nd rfl (by first | exact Or.inl rfl | exact Or.inr rfl) pe_int)
      (pss_cons (ps_for PassesOwn.never rfl (kPiL (K := K) (pv 2)) (kPgT (K := K) (n := 2) rfl (pgs_cons (pg_name (i := 8) sc_middles.nd rfl (by first | exact Or.inl rfl | exact Or.inr rfl)) (pgs_cons (pg_name (i := 9) sc_middles.nd rfl (by first | exact Or.inl rfl | exact Or.inr rfl)) pgs_nil))) (pss_cons (ps_if (pt_cmpR op_lt (pe_op op_mul pe_int (pv 7)) (pv 4) (nomark _)) (pss_one (ps_set (i := 5) sc_middles.nd rfl (by first | exact Or.inl rfl | exact Or.inr rfl) (pv 8))) pss_nil)
      (pss_cons (ps_if (pt_cmpR op_le (pe_op op_mul pe_int (pv 7)) (pv 4) (nomark _)) (pss_one (ps_set (i := 6) sc_middles.nd rfl (by first | exact Or.inl rfl | exact Or.inr rfl) (pv 8))) pss_nil)
      (pss_one (ps_aug (i := 7) sc_middles.nd rfl (by first | exact Or.inl rfl | exact Or.inr rfl) (pv 9) ip_add)))))
      (pss_one (ps_ret (pe_tup (pa_cons (pv 5) (pa_cons (pv 6) pa_nil))))))))))), ?_⟩
    repeat walk_at "s"
    refine r_rng1 (n := S.length) rfl (by omega) ?_
    refine r_lcPairs (fun k => decide (0 < EM.fz ts k)) (fun k => EM.fz S k) (fun k => EM.fz ts k) A (by omega) (fun _ => rfl) ?_ ?_ ?_
    · intro i H' L' QT hi A' q
      repeat walk_at "s"
      rw [gz_nat, gz_nat]
      exact q
    · intro D H1 xs A1 P
      repeat walk_at "s"
      refine r_sorted A1 P (fun ys qs q H2 A2 hperm hsort P2 => ?_)
      have eW : EM.snd qs = ts.sum := by
        rw [← EM.ws_all, EM.ws_perm _ hperm, EM.ws_all]
        exact EM.snd_prsF hlen ht0
      have hpos : ∀ p ∈ qs, 0 ≤ p.2 := fun p hp => EM.prsF_pos (S := S) (ts := ts) p (hperm.mem_iff.mp hp)
      have hql : 0 < qs.length := by
        cases qs with
        | nil => rw [← eW] at hW; simp [EM.snd] at hW
        | cons a r => simp
      have hyl := P2.1
      obtain ⟨t0, hy0, ht0'⟩ := P2.2 0 (qs[0]'hql) (List.getElem?_eq_getElem hql)
      repeat walk_at "s"
      refine r_ixL (A2.sqo (by walk_at "mem")) (atI_nat (j := 0) hy0) ?_
      repeat walk_at "s"
      refine r_ixT (SqT.of ht0') (atI_nat (j := 0) rfl) ?_
      repeat walk_at "s"
      refine r_ixL (A2.sqo (by walk_at "mem")) (atI_nat (j := 0) hy0) ?_
      repeat walk_at "s"
      refine r_ixT (SqT.of ht0') (atI_nat (j := 0) rfl) ?_
      repeat walk_at "s"
      have hq : SqL K H2 q ys := A2.sqo (by walk_at "mem")
      refine r_forItl (K := K) ys (fun i σ H' => ∃ (lo hi : Int) (v1 v2 : Option V), σ = [some (.ref a), some (.ref b), some (.ref q), none, some (.int ts.sum), some (.int lo), some (.int hi), some (.int (EM.snd (qs.take i))), v1, v2] ∧ EM.LowAt qs i lo ∧ EM.HighAt qs i hi ∧ H' = H2)
        ⟨_, _, none, none, rfl, ⟨.inl rfl⟩, ⟨.inl rfl⟩, rfl⟩ (fun i σ H' _ ⟨_, _, _, _, _, _, _, e⟩ => by rw [e]; exact hq) ?_ ?_
      · rintro i x σ H3 N hx ⟨lo, hi, v1, v2, rfl, hlo, hhi, rfl⟩ hN
        have hi' : i < qs.length := by have := (List.getElem?_eq_some_iff.mp hx).1; omega
        obtain ⟨t, hy, ht'⟩ := P2.2 i (qs[i]'hi') (List.getElem?_eq_getElem hi')
        rw [hx] at hy
        have ex : x = V.ref t := Option.some.inj hy
        subst ex
        have hqi := List.getElem?_eq_getElem hi'
        refine r_gTup2 (SqT.of ht') ?_
        repeat walk_at "s"
        by_cases c1 : 2 * EM.snd (qs.take i) < ts.sum
        · refine r_ifd_T c1 ?_
          repeat walk_at "s"
          rw [← EM.snd_take_succ hqi]
          exact hN _ _ ⟨_, _, _, _, rfl, EM.LowAt.yes hqi (by omega), EM.HighAt.yes hqi (by omega), rfl⟩
        · refine r_ifd_F c1 ?_
          repeat walk_at "s"
          by_cases c2 : 2 * EM.snd (qs.take i) ≤ ts.sum
          · refine r_ifd_T c2 ?_
            repeat walk_at "s"
            rw [← EM.snd_take_succ hqi]
            exact hN _ _ ⟨_, _, _, _, rfl, hlo.no (by omega) (by omega), EM.HighAt.yes hqi (by omega), rfl⟩
          · refine r_ifd_F c2 ?_
            repeat walk_at "s"
            rw [← EM.snd_take_succ hqi]
            exact hN _ _ ⟨_, _, _, _, rfl, hlo.no (by omega) (by omega), hhi.no (by omega) (by omega), rfl⟩
      · rintro σ H3 ⟨lo, hi, v1, v2, rfl, hlo, hhi, rfl⟩
        rw [hyl] at hlo hhi
        repeat walk_at "s"
        refine r_mkT A2 (by show 2 ≤ 10000000; decide) (fun t H4 A4 => ?_)
        exact k lo hi t H4 (EM.mid_prs hlen ht0 (EM.Mid.perm hperm (hlo.mid hsort hpos hql (by omega)))) (EM.midH_prs hlen ht0 (EM.MidH.perm hperm (hhi.mid hsort hpos hql (by omega)))) A4.ex (A4.new _ List.mem_cons_self) (A4.get List.mem_cons_self)
    · intro i H' L' QB hi A' q
      repeat walk_at "s"
      rw [gz_nat]
      exact q
def sp_steps_of (_ : Txt K mg) : Sp := fun vs H Q _ => ∃ (a b : Addr) (cs ts : List Int), vs = [.ref a, .ref b] ∧ SqL K H a (cs.map V.int) ∧ SqL K H b (ts.map V.int) ∧ ts.length = cs.length ∧ cs.length ≤ 1000 ∧ (∀ t ∈ ts, 0 ≤ t ∧ t ≤ 1000) ∧ EM.Bal cs ts ∧
  ∀ ss q H', EM.StepsOk cs ts ss → Same H H' → H q = none → H' q = some (.lst (ss.map V.int)) → Q (.ref q) H'
theorem ok_steps_of (T : Txt K mg) : FnOk P w K mg base CX0 1 T.f_steps_of T.fd_steps_of ["carried", "tolls"] (sp_steps_of T) := by
  refine T.F_steps_of.ok sc_steps_of (fun vs H Q E h => ?_) (fun cdv A outer s H vs Q E hr h => ?_)
  · obtain ⟨_, _, _, _, rfl, _⟩ := h
    rfl
  · skip
    obtain ⟨a, b, cs, ts, rfl, ha, hb, hlen, hn, ht, hbal, k⟩ := h
    have A := At.nil H
    have ht0 : ∀ t ∈ ts, 0 ≤ t := fun t h => (ht t h).1
    have htk : ∀ k, k < cs.length → 0 ≤ EM.fz ts k := fun k hk => ht0 _ (EM.fz_mem (by omega))
    refine ⟨_, (pss_cons (ps_set (i := 2) sc_steps_of.nd rfl (by first | exact Or.inl rfl | exact Or.inr rfl) (pe_lst pa_nil))
      (pss_cons (ps_for PassesOwn.never rfl (pi_range1 (by rfl) T.n_range (pa_cons (pe_callB (kLen (K := K)) (by rfl) T.n_len PySem.boot_len (pa_cons (pv 0) pa_nil)) pa_nil)) (pg_name (i := 3) sc_steps_of.nd rfl (by first | exact Or.inl rfl | exact Or.inr rfl)) (pss_cons (ps_set (i := 4) sc_steps_of.nd rfl (by first | exact Or.inl rfl | exact Or.inr rfl) pe_int)
      (pss_cons (ps_if (pt_cmpR op_gt (pe_ix (kIxL (K := K)) (pv 0) (pv 3) (fun _ _ => rfl)) pe_int (nomark _)) (pss_one (ps_set (i := 4) sc_steps_of.nd rfl (by first | exact Or.inl rfl | exact Or.inr rfl) (pe_ix (kIxL (K := K)) (pv 1) (pv 3) (fun _ _ => rfl)))) (pss_one (ps_if (pt_cmpR op_lt (pe_ix (kIxL (K := K)) (pv 0) (pv 3) (fun _ _ => rfl)) pe_int (nomark _)) (pss_one (ps_set (i := 4) sc_steps_of.nd rfl (by first | exact Or.inl rfl | exact Or.inr rfl) (pe_un un_neg (pe_ix (kIxL (K := K)) (pv 1) (pv 3) (fun _ _ => rfl))))) pss_nil)))
      (pss_one (ps_expr (pe_bm PySem.F.plainAttrs_list PySem.F.slot_list_append PySem.F.type_list_append mt_append (pv 2) (pa_cons (pv 4) pa_nil)))))))
      (pss_cons (ps_set (i := 5) sc_steps_of.nd rfl (by first | exact Or.inl rfl | exact Or.inr rfl) (pe_un un_neg (pe_callB (kSum (K := K)) (by rfl) T.n_sum EB.bt_sum (pa_cons (pv 2) pa_nil))))
      (pss_cons (ps_for PassesOwn.never rfl (pi_range1 (by rfl) T.n_range (pa_cons (pe_callB (kLen (K := K)) (by rfl) T.n_len PySem.boot_len (pa_cons (pv 0) pa_nil)) pa_nil)) (pg_name (i := 3) sc_steps_of.nd rfl (by first | exact Or.inl rfl | exact Or.inr rfl)) (pss_one (ps_if (pt_cmpR op_eq (pe_ix (kIxL (K := K)) (pv 0) (pv 3) (fun _ _ => rfl)) pe_int (nomark _)) (pss_cons (ps_asg (pe_callB (EB.cr_max2 rfl) (by rfl) T.n_max EB.bt_max (pa_cons (pe_un un_neg (pe_ix (kIxL (K := K)) (pv 1) (pv 3) (fun _ _ => rfl))) (pa_cons (pe_callB (EB.cr_min2 rfl) (by rfl) T.n_min EB.bt_min (pa_cons (pe_ix (kIxL (K := K)) (pv 1) (pv 3) (fun _ _ => rfl)) (pa_cons (pv 5) pa_nil))) pa_nil))) (pg_sub (pv 2) (pv 3) set_list))
      (pss_one (ps_aug (i := 5) sc_steps_of.nd rfl (by first | exact Or.inl rfl | exact Or.inr rfl) (pe_ix (kIxL (K := K)) (pv 2) (pv 3) (fun _ _ => rfl)) ip_sub))) pss_nil)))
      (pss_one (ps_ret (pv 2))))))), ?_⟩
    repeat walk_at "s"
    refine r_mkL A (by decide) (fun l H1 A1 => ?_)
    repeat walk_at "s"
    refine r_rng1 (n := cs.length) rfl (by omega) ?_
    have hsl := EM.steps0_len cs ts
    refine r_forItr (fun i σ H' => ∃ (v1 v2 : Option V), σ = [some (.ref a), some (.ref b), some (.ref l), v1, v2, none] ∧ At H [(l, .lst (((EM.steps0 cs ts).take i).map V.int))] H') ⟨none, none, rfl, A1⟩ ?_ ?_
    · rintro i σ H2 N hi ⟨v1, v2, rfl, A2⟩ hN
      have hend : ∀ (z : Int), z = EM.stp (EM.fz cs i) (EM.fz ts i) → ∀ H3, At H [(l, .lst (((EM.steps0 cs ts).take i).map V.int ++ [V.int z]))] H3 → N [some (.ref a), some (.ref b), some (.ref l), some (.int (i : Int)), some (.int z)  , none] H3 := fun z hz H3 A3 => by
        refine hN _ _ ⟨_, _, rfl, ?_⟩
        rw [List.take_add_one, EM.fz_get (by omega), EM.fz_steps0 hi, ← hz, List.map_append]
        exact A3
      have hlt : (((EM.steps0 cs ts).take i).map V.int).length < 10000000 := by rw [List.length_map, List.length_take]; omega
      repeat walk_at "s"
      rw [gz_nat]
      change ifB (decide (0 < EM.fz cs i)) _ _
      refine r_ifD (fun c1 => ?_) (fun c1 => ?_)
      · repeat walk_at "s"
        rw [gz_nat]
        exact r_append A2 hlt (fun H3 A3 => hend _ (by unfold EM.stp; rw [if_pos c1]; rfl) H3 A3)
      · repeat walk_at "s"
        rw [gz_nat]
        change ifB (decide (EM.fz cs i < 0)) _ _
        refine r_ifD (fun c2 => ?_) (fun c2 => ?_)
        · repeat walk_at "s"
          rw [gz_nat]
          exact r_append A2 hlt (fun H3 A3 => hend _ (by unfold EM.stp; rw [if_neg c1, if_pos c2]; rfl) H3 A3)
        · repeat walk_at "s"
          exact r_append A2 hlt (fun H3 A3 => hend _ (by unfold EM.stp; rw [if_neg c1, if_neg c2]) H3 A3)
    · rintro σ H2 ⟨v1, v2, rfl, A2⟩
      rw [List.take_of_length_le (by omega)] at A2
      repeat walk_at "s"
      refine r_rng1 (n := cs.length) rfl (by omega) ?_
      refine r_forItr (fun i σ H' => ∃ (ss : List Int) (v1 v2 : Option V), σ = [some (.ref a), some (.ref b), some (.ref l), v1, v2, some (.int (-ss.sum))] ∧ At H [(l, .lst (ss.map V.int))] H' ∧ EM.Fill cs ts i ss) ⟨_, v1, v2, rfl, A2, hbal.start hlen ht0⟩ ?_ ?_
      · rintro i σ H3 N hi ⟨ss, v1, v2, rfl, A3, F⟩ hN
        have hssl := F.len
        repeat walk_at "s"
        rw [gz_nat]
        change ifB (decide (EM.fz cs i = 0)) _ _
        refine r_ifD (fun c1 => ?_) (fun c1 => ?_)
        · repeat walk_at "s"
          rw [gz_nat]
          change rSetL _ _ (V.int (max (-EM.fz ts i) (min (EM.fz ts i) (-ss.sum)))) _ _
          refine r_setLI A3 (by omega) (by omega) (fun H4 A4 => ?_)
          rw [Int.toNat_natCast] at A4
          have F' := F.fill hi c1 htk
          have hs : (ss.set i (max (-EM.fz ts i) (min (EM.fz ts i) (-ss.sum)))).sum = ss.sum - EM.fz ss i + max (-EM.fz ts i) (min (EM.fz ts i) (-ss.sum)) := sum_set (EM.fz_get (by omega))
          have h0 := F.nil i (Nat.le_refl i) hi c1
          have hzz : gz (ss.set i (max (-EM.fz ts i) (min (EM.fz ts i) (-ss.sum)))) (i : Int) = max (-EM.fz ts i) (min (EM.fz ts i) (-ss.sum)) := by
            rw [gz_nat]
            exact (EM.fz_set (by omega) (by omega)).trans (if_pos rfl)
          have hl4 : (ss.set i (max (-EM.fz ts i) (min (EM.fz ts i) (-ss.sum)))).length = cs.length := by rw [List.length_set, hssl]
          generalize ss.set i (max (-EM.fz ts i) (min (EM.fz ts i) (-ss.sum))) = s2 at *
          repeat walk_at "s"
          rw [hzz]
          rw [show -ss.sum - max (-EM.fz ts i) (min (EM.fz ts i) (-ss.sum)) = -s2.sum by omega]
          exact hN _ _ ⟨s2, _, _, rfl, A4, F'⟩
        · repeat walk_at "s"
          exact hN _ _ ⟨ss, _, _, rfl, A3, F.skip c1⟩
      · rintro σ H3 ⟨ss, v1, v2, rfl, A3, F⟩
        repeat walk_at "s"
        exact k ss l H3 F.done A3.ex (A3.new _ List.mem_cons_self) (A3.get List.mem_cons_self)
theorem use_steps_of {T : Txt K mg} {H0 H : Hp} {L : List (Addr × HO)} {Q : VK} {E : XK} {a b : Addr} {cs ts : List Int} (A : At H0 L H) (ha : SqL K H a (cs.map V.int)) (hb : SqL K H b (ts.map V.int)) (hlen : ts.length = cs.length) (hn : cs.length ≤ 1000) (ht : ∀ t ∈ ts, 0 ≤ t ∧ t ≤ 1000) (hbal : EM.Bal cs ts)
    (k : ∀ ss q H', EM.StepsOk cs ts ss → At H0 ((q, .lst (ss.map V.int)) :: L) H' → Q (.ref q) H') : sp_steps_of T [.ref a, .ref b] H Q E := ⟨a, b, cs, ts, rfl, ha, hb, hlen, hn, ht, hbal, fun ss q H' h s h0 h1 => k ss q H' h (A.made s h0 h1)⟩
def sp_prices_of (_ : Txt K mg) : Sp := fun vs H Q _ => ∃ (a b : Addr) (cs ts : List Int), vs = [.ref a, .ref b] ∧ SqL K H a (cs.map V.int) ∧ SqL K H b (ts.map V.int) ∧ ts.length = cs.length ∧ 1 ≤ cs.length ∧ cs.length ≤ 1000 ∧ (∀ t ∈ ts, 0 ≤ t ∧ t ≤ 1000) ∧ EM.Bal cs ts ∧
  ∀ ss q H', EM.StepsOk cs ts ss → Same H H' → H q = none → H' q = some (.lst ((EM.pricesOf ss).map V.int)) → Q (.ref q) H'
theorem ok_prices_of (T : Txt K mg) : FnOk P w K mg base CX0 2 T.f_prices_of T.fd_prices_of ["carried", "tolls"] (sp_prices_of T) := by
  refine T.F_prices_of.ok sc_prices_of (fun vs H Q E h => ?_) (fun cdv A outer s H vs Q E hr h => ?_)
  · obtain ⟨_, _, _, _, rfl, _⟩ := h
    rfl
  · skip
    obtain ⟨a, b, cs, ts, rfl, ha, hb, hlen, h1n, hn, ht, hbal, k⟩ := h
    have A := At.nil H
    refine ⟨_, (pss_cons (ps_set (i := 2) sc_prices_of.nd rfl (by first | exact Or.inl rfl | exact Or.inr rfl) (pe_lst (pa_cons pe_int pa_nil)))
      (pss_cons (ps_for PassesOwn.never rfl (kPiL (K := K) (pe_slice (kSlL (K := K)) (pe_call (ok_steps_of T) (hr.mono (by decide)) (by rfl) T.g_steps_of T.F_steps_of.kp (b_steps_of T) .nil pass0 (pa_cons (pv 0) (pa_cons (pv 1) pa_nil))) po_none (po_some (pe_un un_neg pe_int)))) (pg_name (i := 3) sc_prices_of.nd rfl (by first | exact Or.inl rfl | exact Or.inr rfl)) (pss_one (ps_expr (pe_bm PySem.F.plainAttrs_list PySem.F.slot_list_append PySem.F.type_list_append mt_append (pv 2) (pa_cons (pe_op op_sub (pe_ix (kIxL (K := K)) (pv 2) (pe_un un_neg pe_int) (fun _ _ => rfl)) (pv 3)) pa_nil)))))
      (pss_one (ps_ret (pv 2))))), ?_⟩
    repeat walk_at "s"
    refine r_mkL A (by show 1 ≤ 10000000; decide) (fun l H1 A1 => ?_)
    repeat walk_at "s"
    refine use_steps_of A1 (A1.sq ha) (A1.sq hb) hlen hn ht hbal (fun ss q H2 hss A2 => ?_)
    have hssl := hss.len
    have hpl := EM.pricesOf_len ss
    repeat walk_at "s"
    refine r_slL A2 (A2.sqo (by walk_at "mem")) (fun l3 H3 A3 => ?_)
    rw [EM.cut_last] at A3
    repeat walk_at "s"
    have e0 : HO.lst [V.int 0] = HO.lst (((EM.pricesOf ss).take 1).map V.int) := by
      rw [EM.pricesOf_take_succ (k := 0) (by omega)]
      rfl
    rw [e0] at A3
    have A4 : At H [(l, .lst (((EM.pricesOf ss).take 1).map V.int)), (l3, .lst ((ss.take (ss.length - 1)).map V.int))] H3 := (A3.sub (L' := [(l3, .lst ((ss.take (ss.length - 1)).map V.int)), (l, .lst (((EM.pricesOf ss).take 1).map V.int))]) (by simp)).swap
    refine r_forItlI (ss.take (ss.length - 1)) (fun i σ H' => ∃ (v : Option V), σ = [some (.ref a), some (.ref b), some (.ref l), v] ∧ At H [(l, .lst (((EM.pricesOf ss).take (i + 1)).map V.int)), (l3, .lst ((ss.take (ss.length - 1)).map V.int))] H') ⟨none, rfl, A4⟩ (fun i σ H' _ ⟨v, _, A'⟩ => A'.sqo (by walk_at "mem")) ?_ ?_
    · rintro i x σ H4 N hx ⟨v, rfl, A5⟩ hN
      have hi : i < ss.length - 1 := by
        have := (List.getElem?_eq_some_iff.mp hx).1
        rw [List.length_take] at this
        omega
      have htl : ((EM.pricesOf ss).take (i + 1)).length = i + 1 := by rw [List.length_take]; omega
      repeat walk_at "s"
      have e1 : gz ((EM.pricesOf ss).take (i + 1)) (-1) = -(ss.take i).sum := by
        rw [EM.gz_last (by omega), htl]
        refine EM.fz_of ?_
        rw [List.getElem?_take, if_pos (by omega), EM.fz_get (by omega), Nat.add_sub_cancel, EM.fz_prices (by omega)]
      have e2 : x = EM.fz ss i := by
        rw [List.getElem?_take, if_pos (by omega)] at hx
        exact (EM.fz_of hx).symm
      refine r_append A5 (by rw [List.length_map]; omega) (fun H5 A6 => ?_)
      refine hN _ _ ⟨_, rfl, ?_⟩
      rw [EM.pricesOf_take_succ (by omega), ← EM.map_app, EM.sum_take_succ (by omega)]
      rw [e1, e2, show -(ss.take i).sum - EM.fz ss i = -((ss.take i).sum + EM.fz ss i) by omega] at A6
      exact A6
    · rintro σ H4 ⟨v, rfl, A5⟩
      rw [List.take_of_length_le (by rw [List.length_take]; omega)] at A5
      repeat walk_at "s"
      exact k ss l H4 hss A5.ex (A5.new _ List.mem_cons_self) (A5.get List.mem_cons_self)
theorem cp_ne : ¬ (("carried" : Str) = "prices") := by decide +kernel
def efl (l1 l2 : Addr) : List (Str × V) := [("carried", .ref l1), ("prices", .ref l2)]
theorem efl_put (l1 l2 : Addr) : putF "prices" (.ref l2) (putF "carried" (.ref l1) []) = efl l1 l2 := by
  show (if ("carried" : Str) = "prices" then [(("carried" : Str), V.ref l2)] else (("carried" : Str), V.ref l1) :: putF "prices" (V.ref l2) []) = _
  rw [if_neg cp_ne]
  rfl
theorem efl_carried (l1 l2 : Addr) : (efl l1 l2).lookup ("carried" : Str) = some (V.ref l1) := by simp [efl, List.lookup]
theorem efl_prices (l1 l2 : Addr) : (efl l1 l2).lookup ("prices" : Str) = some (V.ref l2) := by
  have : (("prices" : Str) == "carried") = false := by decide +kernel
  simp [efl, List.lookup, this]
theorem efl_no (l1 l2 : Addr) {g : Str} (h1 : (g == "carried") = false) (h2 : (g == "prices") = false) : (efl l1 l2).lookup g = none := by simp [efl, List.lookup, h1, h2]
def EvenAt (T : Txt K mg) (H : Hp) (p l1 l2 : Addr) (cs ps : List Int) : Prop := ∃ dx, H p = some (.ins T.c_Even dx (efl l1 l2)) ∧ H l1 = some (.lst (cs.map V.int)) ∧ H l2 = some (.lst (ps.map V.int))
theorem EvenAt.mono {T : Txt K mg} {H H' : Hp} {p l1 l2 : Addr} {cs ps : List Int} (R : EvenAt T H p l1 l2 cs ps) (s : Same H H') : EvenAt T H' p l1 l2 cs ps := by
  obtain ⟨dx, h1, h2, h3⟩ := R
  exact ⟨dx, s _ _ h1, s _ _ h2, s _ _ h3⟩
theorem r_carriedE {T : Txt K mg} {H : Hp} {Q : VK} {p dx l1 l2 : Addr} (h : H p = some (.ins T.c_Even dx (efl l1 l2))) (k : Q (.ref l1) H) : fldK K "carried" (.ref p) H Q := r_fldK h T.cl_Even T.no_Even_carried (efl_carried l1 l2) k
theorem r_pricesE {T : Txt K mg} {H : Hp} {Q : VK} {p dx l1 l2 : Addr} (h : H p = some (.ins T.c_Even dx (efl l1 l2))) (k : Q (.ref l2) H) : fldK K "prices" (.ref p) H Q := r_fldK h T.cl_Even T.no_Even_prices (efl_prices l1 l2) k
local macro_rules | `(tactic| walk_at "s") => `(tactic| ((with_reducible show fldK _ _ (V.ref _) _ _); first | refine r_carriedE (by walk_at "hp") ?_ | refine r_pricesE (by walk_at "hp") ?_))
def sp_Even_init (T : Txt K mg) : Sp := fun vs H Q _ => ∃ (p dx a b : Addr) (cs ps : List Int), vs = [.ref p, .ref a, .ref b] ∧ H p = some (.ins T.c_Even dx []) ∧ SqL K H a (cs.map V.int) ∧ SqL K H b (ps.map V.int) ∧
  ∀ l1 l2 H', H l1 = none → H l2 = none → l1 ≠ l2 → (∀ b o, H b = some o → b ≠ p → H' b = some o) → H' p = some (.ins T.c_Even dx (efl l1 l2)) → H' l1 = some (.lst (cs.map V.int)) → H' l2 = some (.lst (ps.map V.int)) → Q .non H'
theorem ok_Even_init (T : Txt K mg) : FnOk P w K mg base CX0 1 T.f_Even_init T.fd_Even_init ["self", "carried", "prices"] (sp_Even_init T) := by
  refine T.F_Even_init.ok sc_Even_init (fun vs H Q E h => ?_) (fun cdv A outer s H vs Q E hr h => ?_)
  · obtain ⟨_, _, _, _, _, _, rfl, _⟩ := h
    rfl
  · skip
    obtain ⟨p, dx, a, b, cs, ps, rfl, hp, ha, hb, k⟩ := h
    have A := At.nil H
    refine ⟨_, (pss_cons (ps_fld (pv 0) (pe_callTy (kList (K := K)) (by rfl) T.n_list EB.bt_list (pa_cons (pv 1) pa_nil)) rfl)
      (pss_one (ps_fld (pv 0) (pe_callTy (kList (K := K)) (by rfl) T.n_list EB.bt_list (pa_cons (pv 2) pa_nil)) rfl))), ?_⟩
    repeat walk_at "s"
    refine r_list A ha (fun l1 H2 A2 => ?_)
    repeat walk_at "s"
    have hne : ∀ l, H l = none → l ≠ p := fun l z e => by rw [e, hp] at z; cases z
    have n1 : H l1 = none := A2.new _ List.mem_cons_self
    have np1 : p ≠ l1 := fun e => hne l1 n1 e.symm
    have hp2 := A2.ex _ _ hp
    refine r_sfK hp2 T.cl_Even T.no_Even_carried (by decide) ?_
    repeat walk_at "s"
    -- the second list
    have hb2 : SqL K (upd H2 p (.ins T.c_Even dx (putF "carried" (.ref l1) []))) b (ps.map V.int) := by
      rcases A2.sq hb with (h | ⟨o, h⟩) | h
      · exact .inl (.inl (by rw [upd_ne (ne_of h hp2 (by intro z; cases z))]; exact h))
      · exact .inl (.inr ⟨o, by rw [upd_ne (ne_of h hp2 (by intro z; cases z))]; exact h⟩)
      · exact .inr h
    refine r_list (At.nil _) hb2 (fun l2 H3 A3 => ?_)
    repeat walk_at "s"
    have m2 : (upd H2 p (.ins T.c_Even dx (putF "carried" (.ref l1) []))) l2 = none := A3.new _ List.mem_cons_self
    have np2 : l2 ≠ p := fun e => by rw [e, upd_same] at m2; cases m2
    have n2' : H2 l2 = none := by rw [upd_ne np2] at m2; exact m2
    have h12 : l1 ≠ l2 := fun e => by
      have := A2.get (p := l1) List.mem_cons_self
      rw [e, n2'] at this
      cases this
    have hp3 := A3.ex _ _ (upd_same (H := H2) (a := p) (o := .ins T.c_Even dx (putF "carried" (.ref l1) [])))
    refine r_sfK hp3 T.cl_Even T.no_Even_prices (by show 1 < 1000; decide) ?_
    refine k l1 l2 _ n1 (A2.ex.free n2') h12 (fun b o e hbp => ?_) ?_ ?_ ?_
    · rw [upd_ne hbp]
      exact A3.ex _ _ (by rw [upd_ne hbp]; exact A2.ex _ _ e)
    · rw [upd_same, efl_put]
    · rw [upd_ne np1.symm]
      exact A3.ex _ _ (by rw [upd_ne np1.symm]; exact A2.get List.mem_cons_self)
    · rw [upd_ne np2]
      exact A3.get List.mem_cons_self
theorem use_Even {T : Txt K mg} {H : Hp} {Q : VK} {E : XK} {a b : Addr} {cs ps : List Int} (ha : SqL K H a (cs.map V.int)) (hb : SqL K H b (ps.map V.int))
    (k : ∀ p l1 l2 H', Same H H' → H p = none → H l1 = none → H l2 = none → l1 ≠ l2 → EvenAt T H' p l1 l2 cs ps → Q (.ref p) H') : mkC T.c_Even (sp_Even_init T) [.ref a, .ref b] H Q E := fun x dx nx nd _ =>
  ⟨x, dx, a, b, cs, ps, rfl, upd_same, (same_mk nx nd).seq ha, (same_mk nx nd).seq hb, fun l1 l2 H' h1 h2 ne keep hp hl1 hl2 => ⟨rfl, k x l1 l2 H' (fun b o e => keep b o (same_mk nx nd b o e) (ne_of_none e nx)) nx ((same_mk nx nd).free h1) ((same_mk nx nd).free h2) ne ⟨dx, hp, hl1, hl2⟩⟩⟩
def UnevenAt (T : Txt K mg) (H : Hp) (p : Addr) (t : Int) : Prop := ∃ dx, H p = some (.ins T.c_Uneven dx [("total", .int t)])
theorem UnevenAt.mono {T : Txt K mg} {H H' : Hp} {p : Addr} {t : Int} (R : UnevenAt T H p t) (s : Same H H') : UnevenAt T H' p t := by
  obtain ⟨dx, h1⟩ := R
  exact ⟨dx, s _ _ h1⟩
theorem r_totalU {T : Txt K mg} {H : Hp} {Q : VK} {p dx : Addr} {t : Int} (h : H p = some (.ins T.c_Uneven dx [("total", .int t)])) (k : Q (.int t) H) : fldK K "total" (.ref p) H Q := r_fldK h T.cl_Uneven T.no_Uneven_total look1y k
local macro_rules | `(tactic| walk_at "s") => `(tactic| ((with_reducible show fldK _ _ (V.ref _) _ _); refine r_totalU (by walk_at "hp") ?_))
def sp_Uneven_init (T : Txt K mg) : Sp := fun vs H Q _ => ∃ (p dx : Addr) (t : Int), vs = [.ref p, .int t] ∧ H p = some (.ins T.c_Uneven dx []) ∧ ∀ H', (∀ b o, H b = some o → b ≠ p → H' b = some o) → H' p = some (.ins T.c_Uneven dx [("total", .int t)]) → Q .non H'
theorem ok_Uneven_init (T : Txt K mg) : FnOk P w K mg base CX0 1 T.f_Uneven_init T.fd_Uneven_init ["self", "total"] (sp_Uneven_init T) := by
  refine T.F_Uneven_init.ok sc_Uneven_init (fun vs H Q E h => ?_) (fun cdv A outer s H vs Q E hr h => ?_)
  · obtain ⟨_, _, _, rfl, _⟩ := h
    rfl
  · skip
    obtain ⟨p, dx, t, rfl, hp, k⟩ := h
    refine ⟨_, (pss_one (ps_fld (pv 0) (pv 1) rfl)), ?_⟩
    repeat walk_at "s"
    refine r_sfK hp T.cl_Uneven T.no_Uneven_total (by decide) ?_
    exact k _ (fun b o e hb => by rw [upd_ne hb]; exact e) upd_same
theorem use_Uneven {T : Txt K mg} {H : Hp} {Q : VK} {E : XK} {t : Int} (k : ∀ p H', Same H H' → H p = none → UnevenAt T H' p t → Q (.ref p) H') : mkC T.c_Uneven (sp_Uneven_init T) [.int t] H Q E := fun x dx nx nd _ =>
  ⟨x, dx, t, rfl, upd_same, fun H' keep hp => ⟨rfl, k x H' (fun b o e => keep b o (same_mk nx nd b o e) (ne_of_none e nx)) nx ⟨dx, hp⟩⟩⟩
def sp_least (T : Txt K mg) : Sp := fun vs H Q _ => ∃ (p b : Addr) (hs ts : List Int), vs = [.ref p, .ref b] ∧ RingAt T H p hs ∧ SqL K H b (ts.map V.int) ∧ ts.length = hs.length ∧ 2 ≤ hs.length ∧ hs.length ≤ 1000 ∧ (∀ t ∈ ts, 0 ≤ t ∧ t ≤ 1000) ∧
  (hs.sum = 0 → ∀ q l1 l2 cs ps H', EM.LeastOk hs ts cs ps → Same H H' → H q = none → H l1 = none → H l2 = none → l1 ≠ l2 → EvenAt T H' q l1 l2 cs ps → Q (.ref q) H') ∧
  (hs.sum ≠ 0 → ∀ q H', Same H H' → H q = none → UnevenAt T H' q hs.sum → Q (.ref q) H')
theorem ok_least (T : Txt K mg) : FnOk P w K mg base CX0 3 T.f_least T.fd_least ["ring", "tolls"] (sp_least T) := by
  refine T.F_least.ok sc_least (fun vs H Q E h => ?_) (fun cdv A outer s H vs Q E hr h => ?_)
  · obtain ⟨_, _, _, _, rfl, _⟩ := h
    rfl
  · skip
    obtain ⟨p, b, hs, ts, rfl, R, hb, hlen, h2n, hn, ht, k1, k2⟩ := h
    obtain ⟨dx, l, hp, hl⟩ := id R
    have A := At.nil H
    have h1 : SqL K H l (hs.map V.int) := SqL.of hl
    have hrl := EM.runs_len hs
    have ht0 : ∀ t ∈ ts, 0 ≤ t := fun t h => (ht t h).1
    refine ⟨_, (pss_cons (ps_expr (pe_call (ok_check_tolls T) (hr.mono (by decide)) (by rfl) T.g_check_tolls T.F_check_tolls.kp (b_check_tolls T) .nil pass0 (pa_cons (pv 0) (pa_cons (pv 1) pa_nil))))
      (pss_cons (ps_if (pt_cmpR op_ne (pe_meth0 (pv 0) T.cl_Ring T.m_Ring_whole (ok_Ring_whole T) (hr.mono (by decide)) (b_Ring_whole T) .nil pass0) pe_int (nomark _)) (pss_one (ps_ret (pe_make T.mk_Uneven (ok_Uneven_init T) (hr.mono (by decide)) (by rfl) T.g_Uneven (b_Uneven_init T) .nil pass0 (pa_cons (pe_meth0 (pv 0) T.cl_Ring T.m_Ring_whole (ok_Ring_whole T) (hr.mono (by decide)) (b_Ring_whole T) .nil pass0) pa_nil)))) pss_nil)
      (pss_cons (ps_set (i := 2) sc_least.nd rfl (by first | exact Or.inl rfl | exact Or.inr rfl) (pe_call (ok_running T) (hr.mono (by decide)) (by rfl) T.g_running T.F_running.kp (b_running T) .nil pass0 (pa_cons (kFld (K := K) (pv 0)) pa_nil)))
      (pss_cons (ps_set (i := 3) sc_least.nd rfl (by first | exact Or.inl rfl | exact Or.inr rfl) pe_int)
      (pss_cons (ps_if (pt_cmpR op_gt (pe_callB (kMax (K := K)) (by rfl) T.n_max EB.bt_max (pa_cons (pv 1) pa_nil)) pe_int (nomark _)) (pss_one (ps_set (i := 3) sc_least.nd rfl (by first | exact Or.inl rfl | exact Or.inr rfl) (pe_ix (kIxT (K := K)) (pe_call (ok_middles T) (hr.mono (by decide)) (by rfl) T.g_middles T.F_middles.kp (b_middles T) .nil pass0 (pa_cons (pv 2) (pa_cons (pv 1) pa_nil))) pe_int (fun _ _ => rfl)))) pss_nil)
      (pss_cons (ps_setLc (own := [("one", 5)]) (g := gName 5) (i := 4) rfl sc_least.nd rfl rfl (sw_true rfl rfl rfl (by decide +kernel)) (kPiL (K := K) (pv 2)) (blkOk_by (own := [("one", 5)]) (N := ["ring", "tolls", "sums", "middle", "carried", "one"]) (sc := defScope s_least) (by decide +kernel)) (fun _ _ _ _ _ => (pg_name (i := 5) sc_least.nd rfl (by first | exact Or.inl rfl | exact Or.inr rfl))) (fun _ _ _ _ _ => pts_nil) (fun _ _ _ _ _ => (pe_op op_sub (pv 5) (pv 3))))
      (pss_one (ps_ret (pe_make T.mk_Even (ok_Even_init T) (hr.mono (by decide)) (by rfl) T.g_Even (b_Even_init T) .nil pass0 (pa_cons (pv 4) (pa_cons (pe_call (ok_prices_of T) (hr.mono (by decide)) (by rfl) T.g_prices_of T.F_prices_of.kp (b_prices_of T) .nil pass0 (pa_cons (pv 4) (pa_cons (pv 1) pa_nil))) pa_nil))))))))))), ?_⟩
    repeat walk_at "s"
    refine use_check_tolls A R hb hlen hn ht (fun H1 A1 => ?_)
    repeat walk_at "s"
    refine use_whole (R.mono A1.ex) ?_
    repeat walk_at "s"
    refine r_ifND (fun c => ?_) (fun c => ?_)
    · repeat walk_at "s"
      refine use_whole (R.mono A1.ex) ?_
      repeat walk_at "s"
      exact use_Uneven (fun q H2 s2 n2 U => k2 c q H2 (A1.ex.trans s2) (A1.ex.free n2) U)
    repeat walk_at "s"
    refine use_running A1 (A1.sq h1) hn (fun q H2 A2 => ?_)
    repeat walk_at "s"
    refine r_max (A2.sq hb) (by omega) (fun mx m1 m2 => ?_)
    repeat walk_at "s"
    have fin : ∀ (m : Int) (H3 : Hp) (σ : L2.St), At H [(q, .lst ((EM.runs hs).map V.int))] H3 → EM.Bal ((EM.runs hs).map fun r => r - m) ts → (0 < ts.sum → EM.Mid (EM.prs (EM.runs hs) ts) m) → σ = [some (.ref p), some (.ref b), some (.ref q), some (.int m), none, none] →
        (tSeq (tAsg (tLc (iList K (tVar 2)) (gName 5) tYes (tOp (rI0 fun i j => V.int (i - j)) (tVar 5) (tVar 3)) [5]) (gName 4)) (tRet (tMake T.c_Even (sp_Even_init T) [] E0 (tCons (tVar 4) (tCons (tCall (sp_prices_of T) [] E0 (tCons (tVar 4) (tCons (tVar 1) tNil))) tNil)))) { nx := fun _ H' => Q .non H', rt := Q }) σ H3 := by
      intro m H3 σ A3 hbal hmid hσ
      subst hσ
      repeat walk_at "s"
      refine r_lcLI (fun r => r - m) A3 (.inr (by walk_at "mem")) (by omega) (fun _ => rfl) (fun i x D H' Q' hx A' q' => ?_) (fun D H' A' => ?_)
      · repeat walk_at "s"
        exact q'.t0 rfl A'
      have hcl : ((EM.runs hs).map fun r => r - m).length = hs.length := by rw [List.length_map, hrl]
      repeat walk_at "s"
      refine ⟨D, b, _, ts, rfl, A'.sqo (by walk_at "mem"), A'.sq hb, by omega, by omega, by omega, ht, hbal, fun ss w H4 hss s4 n4 hw => ?_⟩
      have A4 := A'.made s4 n4 hw
      repeat walk_at "s"
      refine use_Even (A4.sqo (by walk_at "mem")) (A4.sqo (by walk_at "mem")) (fun e l1 l2 H5 s5 n5 n6 n7 ne EV => ?_)
      exact k1 c e l1 l2 _ _ H5 ⟨EM.cyc_runs m c, hcl, ⟨ss, hss, rfl⟩, fun hpos => ⟨m, hmid hpos, rfl⟩⟩ (A4.ex.trans s5) (A4.ex.free n5) (A4.ex.free n6) (A4.ex.free n7) ne EV
    have hcl0 : ((EM.runs hs).map fun r => r - 0).length = hs.length := by rw [List.length_map, hrl]
    refine r_ifD (fun c2 => ?_) (fun c2 => ?_)
    · have hW : 0 < ts.sum := EM.sum_pos ht0 m1 c2
      repeat walk_at "s"
      refine ⟨q, b, _, ts, rfl, A2.sqo (by walk_at "mem"), A2.sq hb, by omega, by omega, ht, hW, fun lo hi t H3 Ml Mh s3 n3 ht3 => ?_⟩
      have A3 := A2.same s3
      repeat walk_at "s"
      refine r_ixT (SqT.of ht3) (atI_nat (j := 0) rfl) ?_
      exact fin lo H3 _ A3 (EM.bal_mid (by omega) Ml) (fun _ => Ml) rfl
    · have hz : ∀ t ∈ ts, t = 0 := fun t h => by have := ht0 t h; have := m2 t h; omega
      refine r_next ?_
      refine fin 0 H2 _ A2 (EM.bal_zero (by omega) hz) (fun hpos => ?_) rfl
      have e : ts.sum = 0 := EM.sum_zero hz
      omega

/-! Within, Stretch -/
def WithinAt (T : Txt K mg) (H : Hp) (p l : Addr) (cs : List Int) : Prop := ∃ dx, H p = some (.ins T.c_Within dx [("carried", .ref l)]) ∧ H l = some (.lst (cs.map V.int))
theorem WithinAt.mono {T : Txt K mg} {H H' : Hp} {p l : Addr} {cs : List Int} (R : WithinAt T H p l cs) (s : Same H H') : WithinAt T H' p l cs := by
  obtain ⟨dx, h1, h2⟩ := R
  exact ⟨dx, s _ _ h1, s _ _ h2⟩
theorem fm_ne : ¬ (("first" : Str) = "many") := by decide +kernel
def sfl (f m : Int) : List (Str × V) := [("first", .int f), ("many", .int m)]
theorem sfl_put (f m : Int) : putF "many" (.int m) (putF "first" (.int f) []) = sfl f m := by
  show (if ("first" : Str) = "many" then [(("first" : Str), V.int m)] else (("first" : Str), V.int f) :: putF "many" (V.int m) []) = _
  rw [if_neg fm_ne]
  rfl
theorem sfl_first (f m : Int) : (sfl f m).lookup ("first" : Str) = some (V.int f) := by simp [sfl, List.lookup]
theorem sfl_many (f m : Int) : (sfl f m).lookup ("many" : Str) = some (V.int m) := by
  have : (("many" : Str) == "first") = false := by decide +kernel
  simp [sfl, List.lookup, this]
theorem sfl_no (f m : Int) {g : Str} (h1 : (g == "first") = false) (h2 : (g == "many") = false) : (sfl f m).lookup g = none := by simp [sfl, List.lookup, h1, h2]
def StretchAt (T : Txt K mg) (H : Hp) (p : Addr) (f m : Int) : Prop := ∃ dx, H p = some (.ins T.c_Stretch dx (sfl f m))
theorem StretchAt.mono {T : Txt K mg} {H H' : Hp} {p : Addr} {f m : Int} (R : StretchAt T H p f m) (s : Same H H') : StretchAt T H' p f m := by
  obtain ⟨dx, h1⟩ := R
  exact ⟨dx, s _ _ h1⟩
theorem r_carriedW {T : Txt K mg} {H : Hp} {Q : VK} {p dx l : Addr} (h : H p = some (.ins T.c_Within dx [("carried", .ref l)])) (k : Q (.ref l) H) : fldK K "carried" (.ref p) H Q := r_fldK h T.cl_Within T.no_Within_carried rfl k
theorem r_firstS {T : Txt K mg} {H : Hp} {Q : VK} {p dx : Addr} {f m : Int} (h : H p = some (.ins T.c_Stretch dx (sfl f m))) (k : Q (.int f) H) : fldK K "first" (.ref p) H Q := r_fldK h T.cl_Stretch T.no_Stretch_first (sfl_first f m) k
theorem r_manyS {T : Txt K mg} {H : Hp} {Q : VK} {p dx : Addr} {f m : Int} (h : H p = some (.ins T.c_Stretch dx (sfl f m))) (k : Q (.int m) H) : fldK K "many" (.ref p) H Q := r_fldK h T.cl_Stretch T.no_Stretch_many (sfl_many f m) k
local macro_rules | `(tactic| walk_at "s") => `(tactic| ((with_reducible show fldK _ _ (V.ref _) _ _); first | refine r_carriedW (by walk_at "hp") ?_ | refine r_firstS (by walk_at "hp") ?_ | refine r_manyS (by walk_at "hp") ?_))
def sp_Within_init (T : Txt K mg) : Sp := fun vs H Q _ => ∃ (p dx a : Addr) (cs : List Int), vs = [.ref p, .ref a] ∧ H p = some (.ins T.c_Within dx []) ∧ SqL K H a (cs.map V.int) ∧
  ∀ l H', H l = none → (∀ b o, H b = some o → b ≠ p → H' b = some o) → H' p = some (.ins T.c_Within dx [("carried", .ref l)]) → H' l = some (.lst (cs.map V.int)) → Q .non H'
theorem ok_Within_init (T : Txt K mg) : FnOk P w K mg base CX0 1 T.f_Within_init T.fd_Within_init ["self", "carried"] (sp_Within_init T) := by
  refine T.F_Within_init.ok sc_Within_init (fun vs H Q E h => ?_) (fun cdv A outer s H vs Q E hr h => ?_)
  · obtain ⟨_, _, _, _, rfl, _⟩ := h
    rfl
  · skip
    obtain ⟨p, dx, a, cs, rfl, hp, ha, k⟩ := h
    have A := At.nil H
    refine ⟨_, (pss_one (ps_fld (pv 0) (pe_callTy (kList (K := K)) (by rfl) T.n_list EB.bt_list (pa_cons (pv 1) pa_nil)) rfl)), ?_⟩
    repeat walk_at "s"
    refine r_list A ha (fun l H2 A2 => ?_)
    repeat walk_at "s"
    refine r_sfK (A2.ex _ _ hp) T.cl_Within T.no_Within_carried (by decide) ?_
    have npl : l ≠ p := fun e => by
      have z := A2.new _ List.mem_cons_self
      rw [e] at z
      rw [z] at hp
      cases hp
    refine k l _ (A2.new _ List.mem_cons_self) (fun b o e hb => ?_) upd_same ?_
    · rw [upd_ne hb]
      exact A2.ex _ _ e
    · rw [upd_ne npl]
      exact A2.get List.mem_cons_self
theorem use_Within {T : Txt K mg} {H : Hp} {Q : VK} {E : XK} {a : Addr} {cs : List Int} (ha : SqL K H a (cs.map V.int))
    (k : ∀ p l H', Same H H' → H p = none → H l = none → WithinAt T H' p l cs → Q (.ref p) H') : mkC T.c_Within (sp_Within_init T) [.ref a] H Q E := fun x dx nx nd _ =>
  ⟨x, dx, a, cs, rfl, upd_same, (same_mk nx nd).seq ha, fun l H' h0 keep hp hl' => ⟨rfl, k x l H' (fun b o e => keep b o (same_mk nx nd b o e) (ne_of_none e nx)) nx ((same_mk nx nd).free h0) ⟨dx, hp, hl'⟩⟩⟩
def sp_Within_shows (T : Txt K mg) : Sp := fun vs H Q _ => ∃ (p r l : Addr) (hs cs : List Int) (most : Int), vs = [.ref p, .ref r, .int most] ∧ WithinAt T H p l cs ∧ RingAt T H r hs ∧ hs.length ≤ 1000 ∧ cs.length ≤ 1000 ∧
  ∀ H', Same H H' → Q (.bl (decide (EM.cyc cs = hs) && cs.all fun c => decide ((c.natAbs : Int) ≤ most))) H'
theorem ok_Within_shows (T : Txt K mg) : FnOk P w K mg base CX0 2 T.f_Within_shows T.fd_Within_shows ["self", "ring", "most"] (sp_Within_shows T) := by
  refine T.F_Within_shows.ok sc_Within_shows (fun vs H Q E h => ?_) (fun cdv A outer s H vs Q E hr h => ?_)
  · obtain ⟨_, _, _, _, _, _, rfl, _⟩ := h
    rfl
  · skip
    obtain ⟨p, r, l, hs, cs, most, rfl, ⟨dx, hp, hl⟩, ⟨dr, lr, hr1, hr2⟩, hn, hn2, k⟩ := h
    have A := At.nil H
    have h1 : SqL K H l (cs.map V.int) := SqL.of hl
    have h2 : SqL K H lr (hs.map V.int) := SqL.of hr2
    refine ⟨_, (pss_one (ps_ret (pe_and (pe_call (ok_is_evening T) (hr.mono (by decide)) (by rfl) T.g_is_evening T.F_is_evening.kp (b_is_evening T) .nil pass0 (pa_cons (kFld (K := K) (pv 1)) (pa_cons (kFld (K := K) (pv 0)) pa_nil))) (pe_one (pe_callB (kAll (K := K)) (by rfl) T.n_all EB.bt_all (pa_cons (pe_lc (own := [("one", 3)]) (g := gName 3) rfl sc_Within_shows.nd (kPiL (K := K) (kFld (K := K) (pv 0))) (blkOk_by (own := [("one", 3)]) (N := ["self", "ring", "most", "one"]) (sc := defScope s_Within_shows) (by decide +kernel)) (fun _ _ _ _ _ => (pg_name (i := 3) sc_Within_shows.nd rfl (by first | exact Or.inl rfl | exact Or.inr rfl))) (fun _ _ _ _ _ => pts_nil) (fun _ _ _ _ _ => (pe_cmpR op_le (pe_callB cr_abs (by rfl) T.n_abs EB.bt_abs (pa_cons (pv 3) pa_nil)) (pv 2) (nomark _)))) pa_nil)))))), ?_⟩
    repeat walk_at "s"
    rename_i H1 A1
    refine r_if2 (fun e => ?_) (fun e => ?_)
    · repeat walk_at "s"
      refine r_lcLB (fun c => decide ((c.natAbs : Int) ≤ most)) A1 (.inl h1) (by omega) (fun _ => rfl) (fun i x D H' Q' hx A' q => ?_) (fun D H' A' => ?_)
      · repeat walk_at "s"
        exact q.t0 rfl A'
      · repeat walk_at "s"
        rw [EM.all_map_id]
        have z := k H' A'.ex
        rw [e, Bool.true_and] at z
        exact z
    · have z := k H1 A1.ex
      rw [e] at z
      exact z
def sp_Stretch_init (T : Txt K mg) : Sp := fun vs H Q _ => ∃ (p dx : Addr) (f m : Int), vs = [.ref p, .int f, .int m] ∧ H p = some (.ins T.c_Stretch dx []) ∧
  ∀ H', (∀ b o, H b = some o → b ≠ p → H' b = some o) → H' p = some (.ins T.c_Stretch dx (sfl f m)) → Q .non H'
theorem ok_Stretch_init (T : Txt K mg) : FnOk P w K mg base CX0 1 T.f_Stretch_init T.fd_Stretch_init ["self", "first", "many"] (sp_Stretch_init T) := by
  refine T.F_Stretch_init.ok sc_Stretch_init (fun vs H Q E h => ?_) (fun cdv A outer s H vs Q E hr h => ?_)
  · obtain ⟨_, _, _, _, rfl, _⟩ := h
    rfl
  · skip
    obtain ⟨p, dx, f, m, rfl, hp, k⟩ := h
    refine ⟨_, (pss_cons (ps_fld (pv 0) (pv 1) rfl)
      (pss_one (ps_fld (pv 0) (pv 2) rfl))), ?_⟩
    repeat walk_at "s"
    refine r_sfK hp T.cl_Stretch T.no_Stretch_first (by decide) ?_
    repeat walk_at "s"
    refine r_sfK upd_same T.cl_Stretch T.no_Stretch_many (by show 1 < 1000; decide) ?_
    refine k _ (fun b o e hb => ?_) ?_
    · rw [upd_ne hb, upd_ne hb]
      exact e
    · rw [upd_same, sfl_put]
theorem use_Stretch {T : Txt K mg} {H : Hp} {Q : VK} {E : XK} {f m : Int} (k : ∀ p H', Same H H' → H p = none → StretchAt T H' p f m → Q (.ref p) H') : mkC T.c_Stretch (sp_Stretch_init T) [.int f, .int m] H Q E := fun x dx nx nd _ =>
  ⟨x, dx, f, m, rfl, upd_same, fun H' keep hp => ⟨rfl, k x H' (fun b o e => keep b o (same_mk nx nd b o e) (ne_of_none e nx)) nx ⟨dx, hp⟩⟩⟩
def sp_Stretch_shows (T : Txt K mg) : Sp := fun vs H Q _ => ∃ (p r : Addr) (hs : List Int) (f m most : Int), vs = [.ref p, .ref r, .int most] ∧ StretchAt T H p f m ∧ RingAt T H r hs ∧ hs.length ≤ 1000 ∧
  ∀ H', Same H H' → Q (.bl (EM.strB hs f m most)) H'
theorem ok_Stretch_shows (T : Txt K mg) : FnOk P w K mg base CX0 2 T.f_Stretch_shows T.fd_Stretch_shows ["self", "ring", "most"] (sp_Stretch_shows T) := by
  refine T.F_Stretch_shows.ok sc_Stretch_shows (fun vs H Q E h => ?_) (fun cdv A outer s H vs Q E hr h => ?_)
  · obtain ⟨_, _, _, _, _, _, rfl, _⟩ := h
    rfl
  · skip
    obtain ⟨p, r, hs, f, m, most, rfl, ⟨dx, hp⟩, R, hn, k⟩ := h
    obtain ⟨dr, lr, hr1, hr2⟩ := id R
    have A := At.nil H
    have h2 : SqL K H lr (hs.map V.int) := SqL.of hr2
    have kf : EM.strB hs f m most = false → Q (.bl false) H := fun e => by
      have z := k H A.ex
      rw [e] at z
      exact z
    refine ⟨_, (pss_cons (ps_set (i := 3) sc_Stretch_shows.nd rfl (by first | exact Or.inl rfl | exact Or.inr rfl) (kFld (K := K) (pv 1)))
      (pss_cons (ps_if (PW.pt (pw_or (pt_cmpR op_ne (pe_meth0 (pv 1) T.cl_Ring T.m_Ring_whole (ok_Ring_whole T) (hr.mono (by decide)) (b_Ring_whole T) .nil pass0) pe_int (nomark _)) (pw_or (pt_not (pt_chain op_le op_lt pe_int (kFld (K := K) (pv 0)) (pe_callB (kLen (K := K)) (by rfl) T.n_len PySem.boot_len (pa_cons (pv 3) pa_nil)))) (pw_or1 (pt_not (pt_chain op_le op_lt pe_int (kFld (K := K) (pv 0)) (pe_callB (kLen (K := K)) (by rfl) T.n_len PySem.boot_len (pa_cons (pv 3) pa_nil)))))))) (pss_one (ps_ret pe_bl)) pss_nil)
      (pss_one (ps_ret (pe_cmpR op_gt (pe_callB cr_abs (by rfl) T.n_abs EB.bt_abs (pa_cons (pe_callB (kSum (K := K)) (by rfl) T.n_sum EB.bt_sum (pa_cons (pe_slice (kSlL (K := K)) (pe_op op_cat (pv 3) (pv 3)) (po_some (kFld (K := K) (pv 0))) (po_some (pe_op op_add (kFld (K := K) (pv 0)) (kFld (K := K) (pv 0))))) pa_nil)) pa_nil)) (pe_op op_mul pe_int (pv 2)) (nomark _)))))), ?_⟩
    repeat walk_at "s"
    refine use_whole R ?_
    repeat walk_at "s"
    refine r_ifND (fun h0 => ?_) (fun h0 => ?_)
    · repeat walk_at "s"
      exact kf (by unfold EM.strB; rw [decide_eq_false h0]; rfl)
    repeat walk_at "s"
    refine r_ifD (fun h1 => ?_) (fun h1 => ?_)
    · repeat walk_at "s"
      refine r_ifND (fun h3 => ?_) (fun h3 => ?_)
      · repeat walk_at "s"
        exact kf (by unfold EM.strB; rw [decide_eq_false (fun z : 0 ≤ f ∧ f < hs.length => h3 z.2)]; simp)
      repeat walk_at "s"
      refine r_ifD (fun h4 => ?_) (fun h4 => ?_)
      · repeat walk_at "s"
        refine r_ifND (fun h5 => ?_) (fun h5 => ?_)
        · repeat walk_at "s"
          exact kf (by unfold EM.strB; rw [decide_eq_false (fun z : 1 ≤ m ∧ m < hs.length => h5 z.2)]; simp)
        repeat walk_at "s"
        refine r_cat A hr2 hr2 (by rw [List.length_map]; omega) (fun l2 H2 A2 => ?_)
        repeat walk_at "s"
        refine r_slL A2 (A2.sqo (by walk_at "mem")) (fun l3 H3 A3 => ?_)
        have ec : cutV (hs.map V.int ++ hs.map V.int) (some f) (some (f + m)) = (((hs ++ hs).drop f.toNat).take m.toNat).map V.int := EM.cut_str h1 (by omega) (by omega) h5
        rw [ec] at A3
        repeat walk_at "s"
        have z := k H3 A3.ex
        rw [EM.strB_true h0 ⟨h1, h3⟩ ⟨h4, h5⟩] at z
        exact z
      · repeat walk_at "s"
        exact kf (by unfold EM.strB; rw [decide_eq_false (fun z : 1 ≤ m ∧ m < hs.length => h4 z.1)]; simp)
    · repeat walk_at "s"
      exact kf (by unfold EM.strB; rw [decide_eq_false (fun z : 0 ≤ f ∧ f < hs.length => h1 z.1)]; simp)

/-! what Even and Uneven say of themselves; the row's own reckoning -/
def sp_cost_of (_ : Txt K mg) : Sp := fun vs H Q _ => ∃ (a b : Addr) (cs ts : List Int), vs = [.ref a, .ref b] ∧ SqL K H a (cs.map V.int) ∧ SqL K H b (ts.map V.int) ∧ ts.length = cs.length ∧ cs.length ≤ 1000 ∧ (∀ t ∈ ts, 0 ≤ t ∧ t ≤ 1000) ∧ ∀ H', Same H H' → Q (.int (EM.cost ts cs)) H'
theorem ok_cost_of (T : Txt K mg) : FnOk P w K mg base CX0 1 T.f_cost_of T.fd_cost_of ["carried", "tolls"] (sp_cost_of T) := by
  refine T.F_cost_of.ok sc_cost_of (fun vs H Q E h => ?_) (fun cdv A outer s H vs Q E hr h => ?_)
  · obtain ⟨_, _, _, _, rfl, _⟩ := h
    rfl
  · skip
    obtain ⟨a, b, cs, ts, rfl, ha, hb, hlen, hn, ht, k⟩ := h
    have A := At.nil H
    refine ⟨_, (pss_one (ps_ret (pe_callB (kSum (K := K)) (by rfl) T.n_sum EB.bt_sum (pa_cons (pe_lc (own := [("k", 2)]) (g := gName 2) rfl sc_cost_of.nd (pi_range1 (by rfl) T.n_range (pa_cons (pe_callB (kLen (K := K)) (by rfl) T.n_len PySem.boot_len (pa_cons (pv 1) pa_nil)) pa_nil)) (blkOk_by (own := [("k", 2)]) (N := ["carried", "tolls", "k"]) (sc := defScope s_cost_of) (by decide +kernel)) (fun _ _ _ _ _ => (pg_name (i := 2) sc_cost_of.nd rfl (by first | exact Or.inl rfl | exact Or.inr rfl))) (fun _ _ _ _ _ => pts_nil) (fun _ _ _ _ _ => (pe_op op_mul (pe_ix (kIxL (K := K)) (pv 1) (pv 2) (fun _ _ => rfl)) (pe_callB cr_abs (by rfl) T.n_abs EB.bt_abs (pa_cons (pe_ix (kIxL (K := K)) (pv 0) (pv 2) (fun _ _ => rfl)) pa_nil))))) pa_nil)))), ?_⟩
    repeat walk_at "s"
    refine r_rng1 (n := ts.length) rfl (by omega) ?_
    refine r_lcRI (fun k => gz ts (k : Int) * ((gz cs (k : Int)).natAbs : Int)) A (by omega) (fun _ => rfl) (fun i D H' Q' hi A' q => ?_) (fun D H' A' => ?_)
    · have htb := ht _ (EM.gz_mem (ns := ts) (i := (i : Int)) (by omega) (by omega))
      repeat walk_at "s"
      exact q.t0 rfl A'
    · repeat walk_at "s"
      rw [EM.cost_range rfl hlen.symm]
      exact k H' A'.ex
theorem use_cost_of {T : Txt K mg} {H0 H : Hp} {L : List (Addr × HO)} {Q : VK} {E : XK} {a b : Addr} {cs ts : List Int} (A : At H0 L H) (ha : SqL K H a (cs.map V.int)) (hb : SqL K H b (ts.map V.int)) (hlen : ts.length = cs.length) (hn : cs.length ≤ 1000) (ht : ∀ t ∈ ts, 0 ≤ t ∧ t ≤ 1000)
    (k : ∀ H', At H0 L H' → Q (.int (EM.cost ts cs)) H') : sp_cost_of T [.ref a, .ref b] H Q E := ⟨a, b, cs, ts, rfl, ha, hb, hlen, hn, ht, fun H' s => k H' (A.same s)⟩
def sp_Even_evens (T : Txt K mg) : Sp := fun vs H Q _ => ∃ (p r l1 l2 : Addr) (hs cs ps : List Int), vs = [.ref p, .ref r] ∧ EvenAt T H p l1 l2 cs ps ∧ RingAt T H r hs ∧ hs.length ≤ 1000 ∧ ∀ H', Same H H' → Q (.bl (decide (EM.cyc cs = hs))) H'
theorem ok_Even_evens (T : Txt K mg) : FnOk P w K mg base CX0 2 T.f_Even_evens T.fd_Even_evens ["self", "ring"] (sp_Even_evens T) := by
  refine T.F_Even_evens.ok sc_Even_evens (fun vs H Q E h => ?_) (fun cdv A outer s H vs Q E hr h => ?_)
  · obtain ⟨_, _, _, _, _, _, _, rfl, _⟩ := h
    rfl
  · skip
    obtain ⟨p, r, l1, l2, hs, cs, ps, rfl, ⟨dx, hp, hl1, hl2⟩, ⟨dr, lr, hr1, hr2⟩, hn, k⟩ := h
    have A := At.nil H
    have h1 : SqL K H l1 (cs.map V.int) := SqL.of hl1
    have h2 : SqL K H lr (hs.map V.int) := SqL.of hr2
    refine ⟨_, (pss_one (ps_ret (pe_call (ok_is_evening T) (hr.mono (by decide)) (by rfl) T.g_is_evening T.F_is_evening.kp (b_is_evening T) .nil pass0 (pa_cons (kFld (K := K) (pv 1)) (pa_cons (kFld (K := K) (pv 0)) pa_nil))))), ?_⟩
    repeat walk_at "s"
    exact k _ (At.ex (by assumption))
theorem use_evens {T : Txt K mg} {H0 H : Hp} {L : List (Addr × HO)} {Q : VK} {E : XK} {p r l1 l2 : Addr} {hs cs ps : List Int} (A : At H0 L H) (EV : EvenAt T H p l1 l2 cs ps) (R : RingAt T H r hs) (hn : hs.length ≤ 1000)
    (k : ∀ H', At H0 L H' → Q (.bl (decide (EM.cyc cs = hs))) H') : sp_Even_evens T [.ref p, .ref r] H Q E := ⟨p, r, l1, l2, hs, cs, ps, rfl, EV, R, hn, fun H' s => k H' (A.same s)⟩
theorem EvenAt.via {T : Txt K mg} {H H' : Hp} {p l1 l2 : Addr} {cs ps : List Int} (s : Same H H') (R : EvenAt T H p l1 l2 cs ps) : EvenAt T H' p l1 l2 cs ps := R.mono s
theorem UnevenAt.via {T : Txt K mg} {H H' : Hp} {p : Addr} {t : Int} (s : Same H H') (R : UnevenAt T H p t) : UnevenAt T H' p t := R.mono s
local macro_rules | `(tactic| walk_at "ea3") => `(tactic| first | assumption | exact ⟨_, by walk_at "hp", by walk_at "hp", by walk_at "hp"⟩)
local macro_rules | `(tactic| walk_at "ea2") => `(tactic| first | assumption | exact EvenAt.via (by walk_at "stp") (by walk_at "ea3") | exact ⟨_, by walk_at "hp", by walk_at "hp", by walk_at "hp"⟩)
local macro_rules | `(tactic| walk_at "ea1") => `(tactic| first | assumption | exact EvenAt.via (by walk_at "stp") (by walk_at "ea2") | exact ⟨_, by walk_at "hp", by walk_at "hp", by walk_at "hp"⟩)
local macro_rules | `(tactic| walk_at "ea") => `(tactic| first | assumption | exact EvenAt.via (by walk_at "stp") (by walk_at "ea1") | exact ⟨_, by walk_at "hp", by walk_at "hp", by walk_at "hp"⟩)
local macro_rules | `(tactic| walk_at "ua3") => `(tactic| first | assumption | exact ⟨_, by walk_at "hp"⟩)
local macro_rules | `(tactic| walk_at "ua2") => `(tactic| first | assumption | exact UnevenAt.via (by walk_at "stp") (by walk_at "ua3") | exact ⟨_, by walk_at "hp"⟩)
local macro_rules | `(tactic| walk_at "ua1") => `(tactic| first | assumption | exact UnevenAt.via (by walk_at "stp") (by walk_at "ua2") | exact ⟨_, by walk_at "hp"⟩)
local macro_rules | `(tactic| walk_at "ua") => `(tactic| first | assumption | exact UnevenAt.via (by walk_at "stp") (by walk_at "ua1") | exact ⟨_, by walk_at "hp"⟩)
local macro_rules | `(tactic| walk_at "s") => `(tactic| ((with_reducible show mthK _ _ _ _ _ (V.ref _) _ _ _); refine r_mthK (by walk_at "hp") (efl_no _ _ (by decide +kernel) (by decide +kernel)) ?_))
local macro_rules | `(tactic| walk_at "s") => `(tactic| ((with_reducible show sp_Even_evens _ [_, _] _ _ _); refine use_evens (by assumption) (by walk_at "ea") (by walk_at "ra") (by omega) ?_; intro H' A'))
local macro_rules | `(tactic| walk_at "s") => `(tactic| ((with_reducible show sp_cost_of _ [_, _] _ _ _); refine use_cost_of (by assumption) (by walk_at "sq") (by walk_at "sq") (by omega) (by omega) (by assumption) ?_; intro H' A'))
def sp_Even_shows (T : Txt K mg) : Sp := fun vs H Q _ => ∃ (p r b l1 l2 : Addr) (hs ts cs ps : List Int), vs = [.ref p, .ref r, .ref b] ∧ EvenAt T H p l1 l2 cs ps ∧ RingAt T H r hs ∧ SqL K H b (ts.map V.int) ∧ 2 ≤ hs.length ∧ hs.length ≤ 1000 ∧ (∀ x ∈ hs, -1000000 ≤ x ∧ x ≤ 1000000) ∧ (∀ t ∈ ts, 0 ≤ t ∧ t ≤ 1000) ∧
  ∀ H', Same H H' → Q (.bl (EM.showB hs ts cs ps)) H'
theorem ok_Even_shows (T : Txt K mg) : FnOk P w K mg base CX0 3 T.f_Even_shows T.fd_Even_shows ["self", "ring", "tolls"] (sp_Even_shows T) := by
  refine T.F_Even_shows.ok sc_Even_shows (fun vs H Q E h => ?_) (fun cdv A outer s H vs Q E hr h => ?_)
  · obtain ⟨_, _, _, _, _, _, _, _, _, rfl, _⟩ := h
    rfl
  · skip
    obtain ⟨p, r, b, l1, l2, hs, ts, cs, ps, rfl, ⟨dx, hp, hl1, hl2⟩, ⟨dr, lr, hr1, hr2⟩, hb, h2n, hn, hbd, ht, k⟩ := h
    have A := At.nil H
    have h1 : SqL K H l1 (cs.map V.int) := SqL.of hl1
    have h3 : SqL K H l2 (ps.map V.int) := SqL.of hl2
    have h2 : SqL K H lr (hs.map V.int) := SqL.of hr2
    refine ⟨_, (pss_cons (ps_set (i := 3) sc_Even_shows.nd rfl (by first | exact Or.inl rfl | exact Or.inr rfl) (pe_callB (kLen (K := K)) (by rfl) T.n_len PySem.boot_len (pa_cons (kFld (K := K) (pv 1)) pa_nil)))
      (pss_cons (ps_if (PW.pt (pw_or (pt_not (pt_val (pe_meth (pv 0) T.cl_Even T.m_Even_evens (ok_Even_evens T) (hr.mono (by decide)) (b_Even_evens T) .nil pass0 (pa_cons (pv 1) pa_nil)))) (pw_or (pt_cmpR op_ne (pe_callB (kLen (K := K)) (by rfl) T.n_len PySem.boot_len (pa_cons (kFld (K := K) (pv 0)) pa_nil)) (pv 3) (nomark _)) (pw_or1 (pt_cmpR op_ne (pe_callB (kLen (K := K)) (by rfl) T.n_len PySem.boot_len (pa_cons (pv 2) pa_nil)) (pv 3) (nomark _)))))) (pss_one (ps_ret pe_bl)) pss_nil)
      (pss_cons (ps_for PassesOwn.never rfl (pi_range1 (by rfl) T.n_range (pa_cons (pv 3) pa_nil)) (pg_name (i := 4) sc_Even_shows.nd rfl (by first | exact Or.inl rfl | exact Or.inr rfl)) (pss_one (ps_if (pt_cmpR op_gt (pe_callB cr_abs (by rfl) T.n_abs EB.bt_abs (pa_cons (pe_op op_sub (pe_ix (kIxL (K := K)) (kFld (K := K) (pv 0)) (pv 4) (fun _ _ => rfl)) (pe_ix (kIxL (K := K)) (kFld (K := K) (pv 0)) (pe_op op_sub (pe_op op_add (pv 4) pe_int) (pv 3)) (fun _ _ => rfl))) pa_nil)) (pe_ix (kIxL (K := K)) (pv 2) (pv 4) (fun _ _ => rfl)) (nomark _)) (pss_one (ps_ret pe_bl)) pss_nil)))
      (pss_one (ps_ret (pe_cmpR op_eq (pe_callB (kSum (K := K)) (by rfl) T.n_sum EB.bt_sum (pa_cons (pe_lc (own := [("k", 4)]) (g := gName 4) rfl sc_Even_shows.nd (pi_range1 (by rfl) T.n_range (pa_cons (pv 3) pa_nil)) (blkOk_by (own := [("k", 4)]) (N := ["self", "ring", "tolls", "many", "k"]) (sc := defScope s_Even_shows) (by decide +kernel)) (fun _ _ _ _ _ => (pg_name (i := 4) sc_Even_shows.nd rfl (by first | exact Or.inl rfl | exact Or.inr rfl))) (fun _ _ _ _ _ => pts_nil) (fun _ _ _ _ _ => (pe_op op_mul (pe_ix (kIxL (K := K)) (kFld (K := K) (pv 0)) (pv 4) (fun _ _ => rfl)) (pe_ix (kIxL (K := K)) (kFld (K := K) (pv 1)) (pv 4) (fun _ _ => rfl))))) pa_nil)) (pe_call (ok_cost_of T) (hr.mono (by decide)) (by rfl) T.g_cost_of T.F_cost_of.kp (b_cost_of T) .nil pass0 (pa_cons (kFld (K := K) (pv 0)) (pa_cons (pv 2) pa_nil))) (nomark _))))))), ?_⟩
    repeat walk_at "s"
    rename_i H1 A1
    have kf : EM.showB hs ts cs ps = false → ∀ H2, At H [] H2 → Q (.bl false) H2 := fun e H2 A2 => by
      have z := k H2 A2.ex
      rw [e] at z
      exact z
    refine r_ifND (fun c1 => ?_) (fun c1 => ?_)
    · repeat walk_at "s"
      exact kf (by unfold EM.showB; rw [decide_eq_false c1]; rfl) _ A1
    repeat walk_at "s"
    refine r_ifND (fun c2 => ?_) (fun c2 => ?_)
    · repeat walk_at "s"
      exact kf (by unfold EM.showB; rw [decide_eq_false (fun z : ps.length = hs.length => c2 (by omega))]; simp) _ A1
    repeat walk_at "s"
    refine r_ifND (fun c3 => ?_) (fun c3 => ?_)
    · repeat walk_at "s"
      exact kf (by unfold EM.showB; rw [decide_eq_false (fun z : ts.length = hs.length => c3 (by omega))]; simp) _ A1
    have hpl : ps.length = hs.length := by omega
    have htl : ts.length = hs.length := by omega
    have hcl : cs.length = hs.length := by rw [← c1, EM.cyc_len]
    rw [EM.showB_of c1 hpl htl] at k kf
    repeat walk_at "s"
    refine r_rng1 (n := hs.length) rfl (by omega) ?_
    refine r_forItr (fun i σ H' => ∃ (v : Option V), σ = [some (.ref p), some (.ref r), some (.ref b), some (.int (hs.length : Int)), v] ∧ At H [] H' ∧ ∀ k, k < i → ((gz ps (k : Int) - gz ps ((k : Int) + 1 - (hs.length : Int))).natAbs : Int) ≤ gz ts (k : Int)) ⟨none, rfl, A1, fun _ h => absurd h (Nat.not_lt_zero _)⟩ ?_ ?_
    · rintro i σ H2 N hi ⟨v, rfl, A2, hc⟩ hN
      repeat walk_at "s"
      refine r_ifD (fun c4 => ?_) (fun c4 => ?_)
      · repeat walk_at "s"
        refine kf ?_ _ A2
        have : EM.stepB ts ps = false := by
          cases e : EM.stepB ts ps with
          | false => rfl
          | true =>
            have := (EM.stepB_next hpl htl).mp e i hi
            omega
        unfold EM.pricedB
        rw [this]
        rfl
      · repeat walk_at "s"
        refine hN _ _ ⟨_, rfl, A2, fun k hk => ?_⟩
        by_cases e : k = i
        · subst e
          omega
        · exact hc k (by omega)
    · rintro σ H2 ⟨v, rfl, A2, hc⟩
      have hstep : EM.stepB ts ps = true := (EM.stepB_next hpl htl).mpr hc
      repeat walk_at "s"
      refine r_rng1 (n := hs.length) rfl (by omega) ?_
      refine r_lcRI (fun k => gz ps (k : Int) * gz hs (k : Int)) A2 (by omega) (fun _ => rfl) (fun i D H' Q' hi A' q => ?_) (fun D H' A' => ?_)
      · have hbx := hbd _ (EM.gz_mem (ns := hs) (i := (i : Int)) (by omega) (by omega))
        repeat walk_at "s"
        exact q.t0 rfl A'
      · repeat walk_at "s"
        rename_i H3 A3
        rw [EM.dot_range hpl rfl]
        have z := k H3 A3.ex
        unfold EM.pricedB at z
        rw [hstep, Bool.true_and] at z
        exact z
theorem use_Eshows {T : Txt K mg} {H0 H : Hp} {L : List (Addr × HO)} {Q : VK} {E : XK} {p r b l1 l2 : Addr} {hs ts cs ps : List Int} (A : At H0 L H) (EV : EvenAt T H p l1 l2 cs ps) (R : RingAt T H r hs) (hb : SqL K H b (ts.map V.int)) (h2n : 2 ≤ hs.length) (hn : hs.length ≤ 1000) (hbd : ∀ x ∈ hs, -1000000 ≤ x ∧ x ≤ 1000000) (ht : ∀ t ∈ ts, 0 ≤ t ∧ t ≤ 1000)
    (k : ∀ H', At H0 L H' → Q (.bl (EM.showB hs ts cs ps)) H') : sp_Even_shows T [.ref p, .ref r, .ref b] H Q E := ⟨p, r, b, l1, l2, hs, ts, cs, ps, rfl, EV, R, hb, h2n, hn, hbd, ht, fun H' s => k H' (A.same s)⟩
def sp_Uneven_shows (T : Txt K mg) : Sp := fun vs H Q _ => ∃ (p r : Addr) (x : V) (hs : List Int) (t : Int), vs = [.ref p, .ref r, x] ∧ UnevenAt T H p t ∧ RingAt T H r hs ∧ Q (.bl (!decide (t = 0) && decide (t = hs.sum))) H
theorem ok_Uneven_shows (T : Txt K mg) : FnOk P w K mg base CX0 2 T.f_Uneven_shows T.fd_Uneven_shows ["self", "ring", "tolls"] (sp_Uneven_shows T) := by
  refine T.F_Uneven_shows.ok sc_Uneven_shows (fun vs H Q E h => ?_) (fun cdv A outer s H vs Q E hr h => ?_)
  · obtain ⟨_, _, _, _, _, rfl, _⟩ := h
    rfl
  · skip
    obtain ⟨p, r, x, hs, t, rfl, ⟨dx, hp⟩, R, k⟩ := h
    refine ⟨_, (pss_one (ps_ret (pe_and (pe_cmpR op_ne (kFld (K := K) (pv 0)) pe_int (nomark _)) (pe_one (pe_cmpR op_eq (kFld (K := K) (pv 0)) (pe_meth0 (pv 1) T.cl_Ring T.m_Ring_whole (ok_Ring_whole T) (hr.mono (by decide)) (b_Ring_whole T) .nil pass0) (nomark _)))))), ?_⟩
    repeat walk_at "s"
    refine r_if2 (fun c => ?_) (fun c => ?_)
    · repeat walk_at "s"
      refine use_whole R ?_
      repeat walk_at "s"
      rw [c, Bool.true_and] at k
      exact k
    · rw [c] at k
      exact k
def sp_law_cost (_ : Txt K mg) : Sp := fun vs H Q _ => ∃ (a b : Addr) (cs ts : List Int), vs = [.ref a, .ref b] ∧ SqL K H a (cs.map V.int) ∧ SqL K H b (ts.map V.int) ∧ ts.length = cs.length ∧ cs.length ≤ 1000 ∧ (∀ t ∈ ts, 0 ≤ t ∧ t ≤ 1000) ∧ ∀ H', Same H H' → Q (.int (EM.cost ts cs)) H'
theorem ok_law_cost (T : Txt K mg) : FnOk P w K mg base CX0 1 T.f_law_cost T.fd_law_cost ["_law_carried", "_law_tolls_here"] (sp_law_cost T) := by
  refine T.F_law_cost.ok sc_law_cost (fun vs H Q E h => ?_) (fun cdv A outer s H vs Q E hr h => ?_)
  · obtain ⟨_, _, _, _, rfl, _⟩ := h
    rfl
  · skip
    obtain ⟨a, b, cs, ts, rfl, ha, hb, hlen, hn, ht, k⟩ := h
    have A := At.nil H
    refine ⟨_, (pss_one (ps_ret (pe_callB (kSum (K := K)) (by rfl) T.n_sum EB.bt_sum (pa_cons (pe_lc (own := [("_law_toll", 2), ("_law_one", 3)]) rfl sc_law_cost.nd (kZip (K := K) (by rfl) T.n_zip (pa_cons (pv 1) (pa_cons (pv 0) pa_nil))) (blkOk_by (own := [("_law_toll", 2), ("_law_one", 3)]) (N := ["_law_carried", "_law_tolls_here", "_law_toll", "_law_one"]) (sc := defScope s_law_cost) (by decide +kernel)) (fun _ _ _ _ _ => (kPgT (K := K) (n := 2) rfl (pgs_cons (pg_name (i := 2) sc_law_cost.nd rfl (by first | exact Or.inl rfl | exact Or.inr rfl)) (pgs_cons (pg_name (i := 3) sc_law_cost.nd rfl (by first | exact Or.inl rfl | exact Or.inr rfl)) pgs_nil)))) (fun _ _ _ _ _ => pts_nil) (fun _ _ _ _ _ => (pe_op op_mul (pv 2) (pe_callB cr_abs (by rfl) T.n_abs EB.bt_abs (pa_cons (pv 3) pa_nil))))) pa_nil)))), ?_⟩
    repeat walk_at "s"
    refine r_lcZI (fun t c => t * (c.natAbs : Int)) ts cs hlen A (.inl hb) (.inl ha) (by omega) (fun _ _ => rfl) (fun i x y H' L' Q' hx hy A' q => ?_) (fun D H' A' => ?_)
    · have htb := ht x (List.mem_of_getElem? hx)
      repeat walk_at "s"
      exact q _ _ rfl A'
    · repeat walk_at "s"
      exact k H' A'.ex
theorem use_law_cost {T : Txt K mg} {H0 H : Hp} {L : List (Addr × HO)} {Q : VK} {E : XK} {a b : Addr} {cs ts : List Int} (A : At H0 L H) (ha : SqL K H a (cs.map V.int)) (hb : SqL K H b (ts.map V.int)) (hlen : ts.length = cs.length) (hn : cs.length ≤ 1000) (ht : ∀ t ∈ ts, 0 ≤ t ∧ t ≤ 1000)
    (k : ∀ H', At H0 L H' → Q (.int (EM.cost ts cs)) H') : sp_law_cost T [.ref a, .ref b] H Q E := ⟨a, b, cs, ts, rfl, ha, hb, hlen, hn, ht, fun H' s => k H' (A.same s)⟩
local macro_rules | `(tactic| walk_at "s") => `(tactic| ((with_reducible show sp_law_cost _ [_, _] _ _ _); refine use_law_cost (by assumption) (by walk_at "sq") (by walk_at "sq") (by omega) (by omega) (by assumption) ?_; intro H' A'))
def sp_law_priced (_ : Txt K mg) : Sp := fun vs H Q _ => ∃ (a b c d : Addr) (hs ts cs ps : List Int), vs = [.ref a, .ref b, .ref c, .ref d] ∧ SqL K H a (hs.map V.int) ∧ SqL K H b (ts.map V.int) ∧ SqL K H c (cs.map V.int) ∧ SqL K H d (ps.map V.int) ∧ ts.length = hs.length ∧ cs.length = hs.length ∧ ps.length = hs.length ∧ 1 ≤ hs.length ∧ hs.length ≤ 1000 ∧
  (∀ x ∈ hs, -1000000 ≤ x ∧ x ≤ 1000000) ∧ (∀ t ∈ ts, 0 ≤ t ∧ t ≤ 1000) ∧ ∀ H', Same H H' → Q (.bl (EM.pricedB hs ts cs ps)) H'
theorem ok_law_priced (T : Txt K mg) : FnOk P w K mg base CX0 2 T.f_law_priced T.fd_law_priced ["_law_houses_here", "_law_tolls_here", "_law_carried", "_law_prices"] (sp_law_priced T) := by
  refine T.F_law_priced.ok sc_law_priced (fun vs H Q E h => ?_) (fun cdv A outer s H vs Q E hr h => ?_)
  · obtain ⟨_, _, _, _, _, _, _, _, rfl, _⟩ := h
    rfl
  · skip
    obtain ⟨a, b, c, d, hs, ts, cs, ps, rfl, ha, hb, hc, hd, l1, l2, l3, h1n, hn, hbd, ht, k⟩ := h
    have A := At.nil H
    have kf : EM.pricedB hs ts cs ps = false → ∀ H2, At H [] H2 → Q (.bl false) H2 := fun e H2 A2 => by
      have z := k H2 A2.ex
      rw [e] at z
      exact z
    refine ⟨_, (pss_cons (ps_for PassesOwn.never rfl (pi_range1 (by rfl) T.n_range (pa_cons (pe_callB (kLen (K := K)) (by rfl) T.n_len PySem.boot_len (pa_cons (pv 3) pa_nil)) pa_nil)) (pg_name (i := 4) sc_law_priced.nd rfl (by first | exact Or.inl rfl | exact Or.inr rfl)) (pss_one (ps_if (pt_cmpR op_gt (pe_callB cr_abs (by rfl) T.n_abs EB.bt_abs (pa_cons (pe_op op_sub (pe_ix (kIxL (K := K)) (pv 3) (pv 4) (fun _ _ => rfl)) (pe_ix (kIxL (K := K)) (pv 3) (pe_op op_sub (pv 4) pe_int) (fun _ _ => rfl))) pa_nil)) (pe_ix (kIxL (K := K)) (pv 1) (pe_op op_sub (pv 4) pe_int) (fun _ _ => rfl)) (nomark _)) (pss_one (ps_ret pe_bl)) pss_nil)))
      (pss_one (ps_ret (pe_cmpR op_eq (pe_callB (kSum (K := K)) (by rfl) T.n_sum EB.bt_sum (pa_cons (pe_lc (own := [("_law_price", 5), ("_law_house", 6)]) rfl sc_law_priced.nd (kZip (K := K) (by rfl) T.n_zip (pa_cons (pv 3) (pa_cons (pv 0) pa_nil))) (blkOk_by (own := [("_law_price", 5), ("_law_house", 6)]) (N := ["_law_houses_here", "_law_tolls_here", "_law_carried", "_law_prices", "_law_k", "_law_price", "_law_house"]) (sc := defScope s_law_priced) (by decide +kernel)) (fun _ _ _ _ _ => (kPgT (K := K) (n := 2) rfl (pgs_cons (pg_name (i := 5) sc_law_priced.nd rfl (by first | exact Or.inl rfl | exact Or.inr rfl)) (pgs_cons (pg_name (i := 6) sc_law_priced.nd rfl (by first | exact Or.inl rfl | exact Or.inr rfl)) pgs_nil)))) (fun _ _ _ _ _ => pts_nil) (fun _ _ _ _ _ => (pe_op op_mul (pv 5) (pv 6)))) pa_nil)) (pe_call (ok_law_cost T) (hr.mono (by decide)) (by rfl) T.g_law_cost T.F_law_cost.kp (b_law_cost T) .nil pass0 (pa_cons (pv 2) (pa_cons (pv 1) pa_nil))) (nomark _))))), ?_⟩
    repeat walk_at "s"
    refine r_rng1 (n := ps.length) rfl (by omega) ?_
    refine r_forItr (fun i σ H' => ∃ (v : Option V), σ = [some (.ref a), some (.ref b), some (.ref c), some (.ref d), v, none, none] ∧ At H [] H' ∧ ∀ k, k < i → ((gz ps (k : Int) - gz ps ((k : Int) - 1)).natAbs : Int) ≤ gz ts ((k : Int) - 1)) ⟨none, rfl, A, fun _ h => absurd h (Nat.not_lt_zero _)⟩ ?_ ?_
    · rintro i σ H2 N hi ⟨v, rfl, A2, hcc⟩ hN
      repeat walk_at "s"
      refine r_ifD (fun c4 => ?_) (fun c4 => ?_)
      · repeat walk_at "s"
        refine kf ?_ _ A2
        unfold EM.pricedB
        rw [EM.stepB_no hi (by omega)]
        rfl
      · repeat walk_at "s"
        refine hN _ _ ⟨_, rfl, A2, fun k hk => ?_⟩
        by_cases e : k = i
        · subst e
          omega
        · exact hcc k (by omega)
    · rintro σ H2 ⟨v, rfl, A2, hcc⟩
      have hstep : EM.stepB ts ps = true := EM.stepB_iff.mpr hcc
      repeat walk_at "s"
      refine r_lcZI (fun p h => p * h) ps hs (by omega) A2 (.inl hd) (.inl ha) (by omega) (fun _ _ => rfl) (fun i x y H' L' Q' hx hy A' q => ?_) (fun D H' A' => ?_)
      · have hbx := hbd y (List.mem_of_getElem? hy)
        repeat walk_at "s"
        exact q _ _ rfl A'
      · repeat walk_at "s"
        rename_i H3 A3
        have z := k H3 A3.ex
        unfold EM.pricedB at z
        rw [hstep, Bool.true_and] at z
        exact z
theorem use_priced {T : Txt K mg} {H0 H : Hp} {L : List (Addr × HO)} {Q : VK} {E : XK} {a b c d : Addr} {hs ts cs ps : List Int} (A : At H0 L H) (ha : SqL K H a (hs.map V.int)) (hb : SqL K H b (ts.map V.int)) (hc : SqL K H c (cs.map V.int)) (hd : SqL K H d (ps.map V.int)) (l1 : ts.length = hs.length) (l2 : cs.length = hs.length) (l3 : ps.length = hs.length) (h1n : 1 ≤ hs.length) (hn : hs.length ≤ 1000)
    (hbd : ∀ x ∈ hs, -1000000 ≤ x ∧ x ≤ 1000000) (ht : ∀ t ∈ ts, 0 ≤ t ∧ t ≤ 1000) (k : ∀ H', At H0 L H' → Q (.bl (EM.pricedB hs ts cs ps)) H') : sp_law_priced T [.ref a, .ref b, .ref c, .ref d] H Q E := ⟨a, b, c, d, hs, ts, cs, ps, rfl, ha, hb, hc, hd, l1, l2, l3, h1n, hn, hbd, ht, fun H' s => k H' (A.same s)⟩
local macro_rules | `(tactic| walk_at "s") => `(tactic| ((with_reducible show sp_law_priced _ [_, _, _, _] _ _ _); refine use_priced (by assumption) (by walk_at "sq") (by walk_at "sq") (by walk_at "sq") (by walk_at "sq") (by omega) (by omega) (by omega) (by omega) (by omega) (by assumption) (by assumption) ?_; intro H' A'))
local macro_rules | `(tactic| walk_at "s") => `(tactic| ((with_reducible show sp_Even_shows _ [_, _, _] _ _ _); refine use_Eshows (by assumption) (by walk_at "ea") (by walk_at "ra") (by walk_at "sq") (by omega) (by omega) (by assumption) (by assumption) ?_; intro H' A'))

/-! answers by hand: the row's small helpers -/
def cutI (ns : List Int) (lo hi : Option Int) : List Int := (ns.drop (HT.sIx ns.length 0 lo)).take (HT.sIx ns.length ns.length hi - HT.sIx ns.length 0 lo)
theorem cutI_map (ns : List Int) (lo hi : Option Int) : cutV (ns.map V.int) lo hi = (cutI ns lo hi).map V.int := by
  unfold cutV cutI
  rw [List.map_take, List.map_drop, List.length_map]
theorem cutI_le (ns : List Int) (lo hi : Option Int) : (cutI ns lo hi).length ≤ ns.length := by
  unfold cutI
  rw [List.length_take, List.length_drop]
  omega
theorem cutI_mem {ns : List Int} {lo hi : Option Int} {x : Int} (h : x ∈ cutI ns lo hi) : x ∈ ns := List.mem_of_mem_drop (List.mem_of_mem_take h)
theorem cutI_from (ns : List Int) {i : Int} (h : 0 ≤ i) : (cutI ns (some i) none).length = ns.length - i.toNat := by
  obtain ⟨n, rfl⟩ : ∃ n : Nat, i = n := ⟨i.toNat, by omega⟩
  unfold cutI
  rw [HT.sIx_nat, HT.sIx_none, List.length_take, List.length_drop]
  omega
theorem cutI_to (ns : List Int) {i : Int} (h : 0 ≤ i) : (cutI ns none (some i)).length = min i.toNat ns.length := by
  obtain ⟨n, rfl⟩ : ∃ n : Nat, i = n := ⟨i.toNat, by omega⟩
  unfold cutI
  rw [HT.sIx_nat, HT.sIx_none, List.length_take, List.length_drop]
  omega
theorem cutI_last (ns : List Int) (h : 1 ≤ ns.length) : (cutI ns none (some (-1))).length = ns.length - 1 := by
  unfold cutI
  rw [HT.sIx_none, List.length_take, List.length_drop]
  show min ((if (-1 : Int) < 0 then ((-1 : Int) + (ns.length : Int)).toNat else min (-1 : Int).toNat ns.length) - 0) (ns.length - 0) = _
  rw [if_pos (by decide)]
  omega
theorem r_slI {H0 H : Hp} {L : List (Addr × HO)} {Q : VK} {p : Addr} {ns : List Int} {lo hi : Option Int} (A : At H0 L H) (h1 : SqL K H p (ns.map V.int)) (k : ∀ l H', At H0 ((l, .lst ((cutI ns lo hi).map V.int)) :: L) H' → Q (.ref l) H') : rSlL K (.ref p) lo hi H Q :=
  r_slL A h1 fun l H' A' => k l H' (by rw [← cutI_map]; exact A')
theorem r_catI {H0 H : Hp} {L : List (Addr × HO)} {Q : VK} {p q : Addr} {xs ys : List Int} (A : At H0 L H) (h1 : H p = some (.lst (xs.map V.int))) (h2 : H q = some (.lst (ys.map V.int))) (hl : xs.length + ys.length ≤ 10000000) (k : ∀ l H', At H0 ((l, .lst ((xs ++ ys).map V.int)) :: L) H' → Q (.ref l) H') : rCat (.ref p) (.ref q) H Q :=
  r_cat A h1 h2 (by rw [List.length_map, List.length_map]; exact hl) fun l H' A' => k l H' (by rw [List.map_append]; exact A')
theorem r_mkI {H0 H : Hp} {L : List (Addr × HO)} {Q : VK} {z : Int} (A : At H0 L H) (k : ∀ p H', At H0 ((p, .lst (([z] : List Int).map V.int)) :: L) H' → Q (.ref p) H') : mkL [.int z] H Q := r_mkL A (by show 1 ≤ 10000000; decide) k
def sp_law_says (_ : Txt K mg) : Sp := fun vs H Q _ => ∃ x y : Bool, vs = [.bl x, .bl y] ∧ Q (.bl (decide (x = y))) H
theorem ok_law_says (T : Txt K mg) : FnOk P w K mg base CX0 1 T.f_law_says T.fd_law_says ["_law_told", "_law_due"] (sp_law_says T) := by
  refine T.F_law_says.ok sc_law_says (fun vs H Q E h => ?_) (fun cdv A outer s H vs Q E hr h => ?_)
  · obtain ⟨_, _, rfl, _⟩ := h
    rfl
  · skip
    obtain ⟨x, y, rfl, k⟩ := h
    refine ⟨_, (pss_one (ps_ret (pe_and (pe_callB (kIsi (K := K)) (by rfl) T.n_isinstance EB.bt_isinstance (pa_cons (pv 0) (pa_cons (pe_bltn (v := .ty "bool") (by rfl) T.n_bool EB.bt_bool rfl) pa_nil))) (pe_one (pe_cmpR op_eq (pv 0) (pv 1) (nomark _)))))), ?_⟩
    repeat walk_at "s"
    exact k
theorem use_says {T : Txt K mg} {H : Hp} {Q : VK} {E : XK} {x y : Bool} (e : x = y) (k : Q (.bl true) H) : sp_law_says T [.bl x, .bl y] H Q E := ⟨x, y, rfl, by rw [decide_eq_true e]; exact k⟩
def sp_law_bent (_ : Txt K mg) : Sp := fun vs H Q _ => ∃ (a : Addr) (xs : List Int) (c : Int), vs = [.ref a, .int c] ∧ (∃ t, H a = some (.lst t) ∧ t = xs.map V.int) ∧ 2 ≤ xs.length ∧ xs.length ≤ 400 ∧
  ∀ (ys : List Int) b H', 1 ≤ ys.length → ys.length ≤ 2 * xs.length + 1 → Same H H' → H b = none → H' b = some (.lst (ys.map V.int)) → Q (.ref b) H'
theorem ok_law_bent (T : Txt K mg) : FnOk P w K mg base CX0 2 T.f_law_bent T.fd_law_bent ["_law_some", "_law_cell"] (sp_law_bent T) := by
  refine T.F_law_bent.ok sc_law_bent (fun vs H Q E h => ?_) (fun cdv A outer s H vs Q E hr h => ?_)
  · obtain ⟨_, _, _, rfl, _⟩ := h
    rfl
  · skip
    obtain ⟨a, xs, c, rfl, ⟨_, ha0, rfl⟩, h2, hn, k⟩ := h
    have ha : SqL K H a (xs.map V.int) := SqL.of ha0
    have A := At.nil H
    refine ⟨_, (pss_cons (ps_par (i := 2) (j := 3) (by rfl) sc_law_bent.nd rfl rfl (by decide) rfl rfl (pa_cons (pe_call (ok_law_draw T) (hr.mono (by decide)) (by rfl) T.g_law_draw T.F_law_draw.kp (b_law_draw T) .nil pass0 (pa_cons (pv 1) (pa_cons pe_int (pa_cons pe_int pa_nil)))) (pa_cons (pe_call (ok_law_draw T) (hr.mono (by decide)) (by rfl) T.g_law_draw T.F_law_draw.kp (b_law_draw T) .nil pass0 (pa_cons (pv 1) (pa_cons pe_int (pa_cons (pe_callB (kLen (K := K)) (by rfl) T.n_len PySem.boot_len (pa_cons (pv 0) pa_nil)) pa_nil)))) pa_nil)) (by rfl))
      (pss_cons (ps_if (pt_cmpR op_eq (pv 2) pe_int (nomark _)) (pss_one (ps_ret (pe_lc (own := [("_law_one", 4)]) (g := gName 4) rfl sc_law_bent.nd (kPiL (K := K) (pv 0)) (blkOk_by (own := [("_law_one", 4)]) (N := ["_law_some", "_law_cell", "_law_kind", "_law_at", "_law_one"]) (sc := defScope s_law_bent) (by decide +kernel)) (fun _ _ _ _ _ => (pg_name (i := 4) sc_law_bent.nd rfl (by first | exact Or.inl rfl | exact Or.inr rfl))) (fun _ _ _ _ _ => pts_nil) (fun _ _ _ _ _ => (pe_op op_add (pv 4) pe_int))))) pss_nil)
      (pss_cons (ps_if (pt_cmpR op_eq (pv 2) pe_int (nomark _)) (pss_one (ps_ret (pe_op op_cat (pe_op op_cat (pe_slice (kSlL (K := K)) (pv 0) po_none (po_some (pv 3))) (pe_lst (pa_cons (pe_op op_sub (pe_op op_add (pe_ix (kIxL (K := K)) (pv 0) (pv 3) (fun _ _ => rfl)) (pe_call (ok_law_draw T) (hr.mono (by decide)) (by rfl) T.g_law_draw T.F_law_draw.kp (b_law_draw T) .nil pass0 (pa_cons (pv 1) (pa_cons pe_int (pa_cons pe_int pa_nil))))) pe_int) pa_nil))) (pe_slice (kSlL (K := K)) (pv 0) (po_some (pe_op op_add (pv 3) pe_int)) po_none)))) pss_nil)
      (pss_cons (ps_if (pt_cmpR op_eq (pv 2) pe_int (nomark _)) (pss_one (ps_ret (pe_op op_cat (pe_slice (kSlL (K := K)) (pv 0) po_none (po_some (pv 3))) (pe_slice (kSlL (K := K)) (pv 0) (po_some (pe_op op_add (pv 3) pe_int)) po_none)))) pss_nil)
      (pss_cons (ps_if (pt_cmpR op_eq (pv 2) pe_int (nomark _)) (pss_one (ps_ret (pe_op op_cat (pv 0) (pe_slice (kSlL (K := K)) (pv 0) (po_some (pe_un un_neg pe_int)) po_none)))) pss_nil)
      (pss_cons (ps_if (pt_cmpR op_eq (pv 2) pe_int (nomark _)) (pss_one (ps_ret (pe_op op_cat (pe_slice (kSlL (K := K)) (pv 0) (po_some pe_int) po_none) (pe_slice (kSlL (K := K)) (pv 0) po_none (po_some pe_int))))) pss_nil)
      (pss_cons (ps_if (pt_cmpR op_eq (pv 2) pe_int (nomark _)) (pss_one (ps_ret (pe_lc (own := [("_law_one", 4)]) (g := gName 4) rfl sc_law_bent.nd (kPiL (K := K) (pv 0)) (blkOk_by (own := [("_law_one", 4)]) (N := ["_law_some", "_law_cell", "_law_kind", "_law_at", "_law_one"]) (sc := defScope s_law_bent) (by decide +kernel)) (fun _ _ _ _ _ => (pg_name (i := 4) sc_law_bent.nd rfl (by first | exact Or.inl rfl | exact Or.inr rfl))) (fun _ _ _ _ _ => pts_nil) (fun _ _ _ _ _ => (pe_un un_neg (pv 4)))))) pss_nil)
      (pss_one (ps_ret (pe_callTy (kList (K := K)) (by rfl) T.n_list EB.bt_list (pa_cons (pv 0) pa_nil))))))))))), ?_⟩
    repeat walk_at "s"
    rename_i kd H1 A1 hk0 hk1 at_ H2 A2 ha0' ha1'
    have fin : ∀ {L : List (Addr × HO)} {b : Addr} {H' : Hp} (ys : List Int), At H ((b, .lst (ys.map V.int)) :: L) H' → 1 ≤ ys.length → ys.length ≤ 2 * xs.length + 1 → Q (.ref b) H' := fun ys A' h1 h2 => k ys _ _ h1 h2 A'.ex (A'.new _ List.mem_cons_self) (A'.get List.mem_cons_self)
    refine r_ifD (fun _ => ?_) (fun _ => ?_)
    · repeat walk_at "s"
      refine r_lcLI (fun z => z + 1) A2 (.inl ha) (by omega) (fun _ => rfl) (fun i x D H' Q' hx A' q => ?_) (fun D H' A' => ?_)
      · repeat walk_at "s"
        exact q.t0 rfl A'
      · exact fin _ A' (by rw [List.length_map]; omega) (by rw [List.length_map]; omega)
    repeat walk_at "s"
    refine r_ifD (fun _ => ?_) (fun _ => ?_)
    · repeat walk_at "s"
      refine r_slI A2 (A2.sq ha) (fun l3 H3 A3 => ?_)
      repeat walk_at "s"
      rename_i d4 H4 A4 _ _
      refine r_mkI A4 (fun l5 H5 A5 => ?_)
      repeat walk_at "s"
      refine r_catI A5 (A5.get (by walk_at "mem")) (A5.get (by walk_at "mem")) (by have := cutI_le xs none (some at_); show _ + 1 ≤ _; omega) (fun l6 H6 A6 => ?_)
      repeat walk_at "s"
      refine r_slI A6 (A6.sq ha) (fun l7 H7 A7 => ?_)
      have z1 := cutI_le xs none (some at_)
      have z2 := cutI_le xs (some (at_ + 1)) none
      repeat walk_at "s"
      refine r_catI A7 (A7.get (by walk_at "mem")) (A7.get (by walk_at "mem")) (by rw [List.length_append]; show _ + 1 + _ ≤ _; omega) (fun l8 H8 A8 => ?_)
      exact fin _ A8 (by rw [List.length_append, List.length_append]; show 1 ≤ _ + 1 + _; omega) (by rw [List.length_append, List.length_append]; show _ + 1 + _ ≤ _; omega)
    repeat walk_at "s"
    refine r_ifD (fun _ => ?_) (fun _ => ?_)
    · repeat walk_at "s"
      refine r_slI A2 (A2.sq ha) (fun l3 H3 A3 => ?_)
      repeat walk_at "s"
      refine r_slI A3 (A3.sq ha) (fun l4 H4 A4 => ?_)
      have z1 := cutI_to xs (i := at_) ha0'
      have z2 := cutI_from xs (i := at_ + 1) (by omega)
      repeat walk_at "s"
      refine r_catI A4 (A4.get (by walk_at "mem")) (A4.get (by walk_at "mem")) (by omega) (fun l8 H8 A8 => ?_)
      exact fin _ A8 (by rw [List.length_append]; omega) (by rw [List.length_append]; omega)
    repeat walk_at "s"
    refine r_ifD (fun _ => ?_) (fun _ => ?_)
    · repeat walk_at "s"
      refine r_slI A2 (A2.sq ha) (fun l3 H3 A3 => ?_)
      have z1 := cutI_le xs (some (-1)) none
      repeat walk_at "s"
      refine r_catI A3 (A3.ex _ _ ha0) (A3.get (by walk_at "mem")) (by omega) (fun l8 H8 A8 => ?_)
      exact fin _ A8 (by rw [List.length_append]; omega) (by rw [List.length_append]; omega)
    repeat walk_at "s"
    refine r_ifD (fun _ => ?_) (fun _ => ?_)
    · repeat walk_at "s"
      refine r_slI A2 (A2.sq ha) (fun l3 H3 A3 => ?_)
      repeat walk_at "s"
      refine r_slI A3 (A3.sq ha) (fun l4 H4 A4 => ?_)
      have z1 := cutI_to xs (i := 1) (by decide)
      have z2 := cutI_from xs (i := 1) (by decide)
      repeat walk_at "s"
      refine r_catI A4 (A4.get (by walk_at "mem")) (A4.get (by walk_at "mem")) (by omega) (fun l8 H8 A8 => ?_)
      exact fin _ A8 (by rw [List.length_append]; omega) (by rw [List.length_append]; omega)
    repeat walk_at "s"
    refine r_ifD (fun _ => ?_) (fun _ => ?_)
    · repeat walk_at "s"
      refine r_lcLI (fun z => -z) A2 (.inl ha) (by omega) (fun _ => rfl) (fun i x D H' Q' hx A' q => ?_) (fun D H' A' => ?_)
      · repeat walk_at "s"
        exact q.t0 rfl A'
      · exact fin _ A' (by rw [List.length_map]; omega) (by rw [List.length_map]; omega)
    repeat walk_at "s"
    refine r_list A2 (A2.sq ha) (fun l3 H3 A3 => ?_)
    exact fin _ A3 (by omega) (by omega)
theorem use_bent {T : Txt K mg} {H0 H : Hp} {L : List (Addr × HO)} {Q : VK} {E : XK} {a : Addr} {xs : List Int} {c : Int} (A : At H0 L H) (ha : H a = some (.lst (xs.map V.int))) (h2 : 2 ≤ xs.length) (hn : xs.length ≤ 400)
    (k : ∀ (ys : List Int) b H', 1 ≤ ys.length → ys.length ≤ 2 * xs.length + 1 → At H0 ((b, .lst (ys.map V.int)) :: L) H' → Q (.ref b) H') : sp_law_bent T [.ref a, .int c] H Q E :=
  ⟨a, xs, c, rfl, ⟨_, ha, rfl⟩, h2, hn, fun ys b H' h1 h2 s n h => k ys b H' h1 h2 (A.made s n h)⟩

local macro_rules | `(tactic| walk_at "s") => `(tactic| ((with_reducible show sp_law_says _ [_, _] _ _ _); refine use_says (by first | rfl | assumption) ?_))
def sp_law_even_right (T : Txt K mg) : Sp := fun vs H Q _ => ∃ (a b r : Addr) (hs ts : List Int) (c : Int), vs = [.ref a, .ref b, .ref r, .int c] ∧ SqL K H a (hs.map V.int) ∧ (∃ t, H b = some (.lst t) ∧ t = ts.map V.int) ∧ RingAt T H r hs ∧ ts.length = hs.length ∧ 2 ≤ hs.length ∧ hs.length ≤ 100 ∧
  (∀ x ∈ hs, -1000000 ≤ x ∧ x ≤ 1000000) ∧ (∀ t ∈ ts, 0 ≤ t ∧ t ≤ 1000) ∧ ∀ H', Same H H' → Q (.bl true) H'
theorem ok_law_even_right (T : Txt K mg) : FnOk P w K mg base CX0 4 T.f_law_even_right T.fd_law_even_right ["_law_houses_here", "_law_tolls_here", "_law_ring", "_law_cell"] (sp_law_even_right T) := by
  refine T.F_law_even_right.ok sc_law_even_right (fun vs H Q E h => ?_) (fun cdv A outer s H vs Q E hr h => ?_)
  · obtain ⟨_, _, _, _, _, _, rfl, _⟩ := h
    rfl
  · skip
    obtain ⟨a, b, r, hs, ts, c, rfl, ha, ⟨_, hb0, rfl⟩, R, hlen, h2n, hn, hbd, ht, k⟩ := h
    have hb : SqL K H b (ts.map V.int) := SqL.of hb0
    have A := At.nil H
    refine ⟨_, (Evl.pss_cut (ps_set (i := 4) sc_law_even_right.nd rfl (by first | exact Or.inl rfl | exact Or.inr rfl) (pe_call (ok_least T) (hr.mono (by decide)) (by rfl) T.g_least T.F_least.kp (b_least T) .nil pass0 (pa_cons (pv 2) (pa_cons (pv 1) pa_nil))))
      (Evl.pss_cut (ps_if (pt_val (pe_callB (kIsi (K := K)) (by rfl) T.n_isinstance EB.bt_isinstance (pa_cons (pv 4) (pa_cons (pe_glob (v := .ref T.c_Uneven) (by rfl) T.g_Uneven rfl) pa_nil)))) (pss_one (ps_set (i := 4) sc_law_even_right.nd rfl (by first | exact Or.inl rfl | exact Or.inr rfl) (pe_make T.mk_Even (ok_Even_init T) (hr.mono (by decide)) (by rfl) T.g_Even (b_Even_init T) .nil pass0 (pa_cons (pe_op op_rep (pe_lst (pa_cons pe_int pa_nil)) (pe_callB (kLen (K := K)) (by rfl) T.n_len PySem.boot_len (pa_cons (pv 0) pa_nil))) (pa_cons (pe_op op_rep (pe_lst (pa_cons pe_int pa_nil)) (pe_callB (kLen (K := K)) (by rfl) T.n_len PySem.boot_len (pa_cons (pv 0) pa_nil))) pa_nil))))) pss_nil)
      (pss_cons (ps_for PassesOwn.never rfl (pi_range1 (by rfl) T.n_range (pa_cons pe_int pa_nil)) (pg_name (i := 5) sc_law_even_right.nd rfl (by first | exact Or.inl rfl | exact Or.inr rfl)) (Evl.pss_cut (ps_set (i := 6) sc_law_even_right.nd rfl (by first | exact Or.inl rfl | exact Or.inr rfl) (pe_ifExp (pt_cmpR op_ne (pv 5) pe_int (nomark _)) (pe_call (ok_law_bent T) (hr.mono (by decide)) (by rfl) T.g_law_bent T.F_law_bent.kp (b_law_bent T) .nil pass0 (pa_cons (kFld (K := K) (pv 4)) (pa_cons (pe_op op_add (pv 3) (pv 5)) pa_nil))) (pe_callTy (kList (K := K)) (by rfl) T.n_list EB.bt_list (pa_cons (kFld (K := K) (pv 4)) pa_nil))))
      (Evl.pss_cut (ps_set (i := 7) sc_law_even_right.nd rfl (by first | exact Or.inl rfl | exact Or.inr rfl) (pe_ifExp (pt_cmpR op_ne (pv 5) pe_int (nomark _)) (pe_call (ok_law_bent T) (hr.mono (by decide)) (by rfl) T.g_law_bent T.F_law_bent.kp (b_law_bent T) .nil pass0 (pa_cons (kFld (K := K) (pv 4)) (pa_cons (pe_op op_add (pv 3) (pe_op op_mul pe_int (pv 5))) pa_nil))) (pe_callTy (kList (K := K)) (by rfl) T.n_list EB.bt_list (pa_cons (kFld (K := K) (pv 4)) pa_nil))))
      (pss_cons (ps_set (i := 8) sc_law_even_right.nd rfl (by first | exact Or.inl rfl | exact Or.inr rfl) (pe_lst (pa_cons (pe_callTy (kList (K := K)) (by rfl) T.n_list EB.bt_list (pa_cons (pv 6) pa_nil)) (pa_cons (pe_callTy (kList (K := K)) (by rfl) T.n_list EB.bt_list (pa_cons (pv 7) pa_nil)) pa_nil))))
      (pss_cons (ps_set (i := 9) sc_law_even_right.nd rfl (by first | exact Or.inl rfl | exact Or.inr rfl) (pe_make T.mk_Even (ok_Even_init T) (hr.mono (by decide)) (by rfl) T.g_Even (b_Even_init T) .nil pass0 (pa_cons (pe_ix (kIxL (K := K)) (pv 8) pe_int (fun _ _ => rfl)) (pa_cons (pe_ix (kIxL (K := K)) (pv 8) pe_int (fun _ _ => rfl)) pa_nil))))
      (pss_cons (ps_expr (pe_bm PySem.F.plainAttrs_list PySem.F.slot_list_append PySem.F.type_list_append mt_append (pe_ix (kIxL (K := K)) (pv 8) pe_int (fun _ _ => rfl)) (pa_cons pe_int pa_nil)))
      (pss_cons (ps_expr (pe_bm0 PySem.F.plainAttrs_list PySem.F.slot_list_clear PySem.F.type_list_clear mt_clear (pe_ix (kIxL (K := K)) (pv 8) pe_int (fun _ _ => rfl))))
      (pss_cons (ps_if (PW.pt (pw_or (pt_cmpR (kNeD (K := K) hr.units) (kFld (K := K) (pv 9)) (pv 6) (nomark _)) (pw_or1 (pt_cmpR (kNeD (K := K) hr.units) (kFld (K := K) (pv 9)) (pv 7) (nomark _))))) (pss_one (ps_ret pe_bl)) pss_nil)
      (Evl.pss_cut (ps_set (i := 10) sc_law_even_right.nd rfl (by first | exact Or.inl rfl | exact Or.inr rfl) (pe_and (pe_cmpR op_eq (pe_callB (kLen (K := K)) (by rfl) T.n_len PySem.boot_len (pa_cons (pv 6) pa_nil)) (pe_callB (kLen (K := K)) (by rfl) T.n_len PySem.boot_len (pa_cons (pv 0) pa_nil)) (nomark _)) (pe_one (pe_call (ok_law_evened T) (hr.mono (by decide)) (by rfl) T.g_law_evened T.F_law_evened.kp (b_law_evened T) .nil pass0 (pa_cons (pv 0) (pa_cons (pv 6) pa_nil))))))
      (Evl.pss_cut (ps_set (i := 11) sc_law_even_right.nd rfl (by first | exact Or.inl rfl | exact Or.inr rfl) (pe_and (pv 10) (pe_one (pe_cmpR op_eq (pe_callB (kLen (K := K)) (by rfl) T.n_len PySem.boot_len (pa_cons (pv 7) pa_nil)) (pe_callB (kLen (K := K)) (by rfl) T.n_len PySem.boot_len (pa_cons (pv 0) pa_nil)) (nomark _)))))
      (Evl.pss_cut (ps_if (pt_val (pv 11)) (pss_one (ps_set (i := 11) sc_law_even_right.nd rfl (by first | exact Or.inl rfl | exact Or.inr rfl) (pe_call (ok_law_priced T) (hr.mono (by decide)) (by rfl) T.g_law_priced T.F_law_priced.kp (b_law_priced T) .nil pass0 (pa_cons (pv 0) (pa_cons (pv 1) (pa_cons (pv 6) (pa_cons (pv 7) pa_nil))))))) pss_nil)
      (pss_cons (ps_if (PW.pt (pw_or (pt_not (pt_val (pe_call (ok_law_says T) (hr.mono (by decide)) (by rfl) T.g_law_says T.F_law_says.kp (b_law_says T) .nil pass0 (pa_cons (pe_meth (pv 9) T.cl_Even T.m_Even_evens (ok_Even_evens T) (hr.mono (by decide)) (b_Even_evens T) .nil pass0 (pa_cons (pv 2) pa_nil)) (pa_cons (pv 10) pa_nil))))) (pw_or1 (pt_not (pt_val (pe_call (ok_law_says T) (hr.mono (by decide)) (by rfl) T.g_law_says T.F_law_says.kp (b_law_says T) .nil pass0 (pa_cons (pe_meth (pv 9) T.cl_Even T.m_Even_shows (ok_Even_shows T) (hr.mono (by decide)) (b_Even_shows T) .nil pass0 (pa_cons (pv 2) (pa_cons (pv 1) pa_nil))) (pa_cons (pv 11) pa_nil)))))))) (pss_one (ps_ret pe_bl)) pss_nil)
      (pss_one (ps_for PassesOwn.never rfl (kPiT (K := K) (pe_tup (pa_cons (pe_slice (kSlL (K := K)) (pv 1) po_none (po_some (pe_un un_neg pe_int))) (pa_cons (pe_op op_cat (pv 1) (pe_lst (pa_cons pe_int pa_nil))) (pa_cons (pe_lst pa_nil) pa_nil))))) (pg_name (i := 12) sc_law_even_right.nd rfl (by first | exact Or.inl rfl | exact Or.inr rfl)) (pss_one (ps_if (pt_not (pt_val (pe_call (ok_law_says T) (hr.mono (by decide)) (by rfl) T.g_law_says T.F_law_says.kp (b_law_says T) .nil pass0 (pa_cons (pe_meth (pv 9) T.cl_Even T.m_Even_shows (ok_Even_shows T) (hr.mono (by decide)) (b_Even_shows T) .nil pass0 (pa_cons (pv 2) (pa_cons (pv 12) pa_nil))) (pa_cons pe_bl pa_nil))))) (pss_one (ps_ret pe_bl)) pss_nil))))))))))))))))
      (pss_one (ps_ret pe_bl))))), ?_⟩
    refine r_cut (Mid := fun σ' H' => ∃ q, σ' = [some (.ref a), some (.ref b), some (.ref r), some (.int c), some (.ref q), none, none, none, none, none, none, none, none] ∧ Same H H' ∧ ((∃ l1 l2 cs ps, EvenAt T H' q l1 l2 cs ps ∧ cs.length = hs.length ∧ ps.length = hs.length) ∨ UnevenAt T H' q hs.sum)) ?_ ?_
    · repeat walk_at "s"
      refine ⟨r, b, hs, ts, rfl, R, hb, hlen, h2n, by omega, ht, fun _ q l1 l2 cs ps H1 OK s1 _ _ _ _ EV => ?_, fun _ q H1 s1 _ U => ?_⟩
      · repeat walk_at "s"
        exact ⟨q, rfl, s1, .inl ⟨l1, l2, cs, ps, EV, OK.len, OK.plen⟩⟩
      · repeat walk_at "s"
        exact ⟨q, rfl, s1, .inr U⟩
    rintro σ' H1 ⟨q, rfl, s1, D⟩
    have k1 : ∀ H', Same H1 H' → Q (.bl true) H' := fun H' s => k H' (s1.trans s)
    have ha1 := s1.seq ha
    have hb1 := s1.seq hb
    have R1 := R.mono s1
    have hb01 := s1 _ _ hb0
    clear k A ha hb R hb0 s1
    refine r_cut (Mid := fun σ' H' => ∃ q l1 l2 cs ps, σ' = [some (.ref a), some (.ref b), some (.ref r), some (.int c), some (.ref q), none, none, none, none, none, none, none, none] ∧ Same H1 H' ∧ EvenAt T H' q l1 l2 cs ps ∧ cs.length = hs.length ∧ ps.length = hs.length) ?_ ?_
    · have A1 := At.nil H1
      rcases D with ⟨l1, l2, cs, ps, EV, e1, e2⟩ | U
      · obtain ⟨dq, hq, hl1, hl2⟩ := id EV
        repeat walk_at "s"
        exact ⟨q, l1, l2, cs, ps, rfl, Same.refl _, EV, e1, e2⟩
      · obtain ⟨dq, hq⟩ := id U
        repeat walk_at "s"
        refine r_mkI A1 (fun l3 H3 A3 => ?_)
        repeat walk_at "s"
        refine r_rep1 A3 (A3.get (by walk_at "mem")) (n := hs.length) rfl (by omega) (fun l4 H4 A4 => ?_)
        repeat walk_at "s"
        refine r_mkI A4 (fun l5 H5 A5 => ?_)
        repeat walk_at "s"
        refine r_rep1 A5 (A5.get (by walk_at "mem")) (n := hs.length) rfl (by omega) (fun l6 H6 A6 => ?_)
        repeat walk_at "s"
        refine use_Even (A6.sqo (by walk_at "mem")) (A6.sqo (by walk_at "mem")) (fun p l1 l2 H7 s7 _ _ _ _ EV => ?_)
        repeat walk_at "s"
        exact ⟨p, l1, l2, _, _, rfl, A6.ex.trans s7, EV, by rw [List.length_replicate], by rw [List.length_replicate]⟩
    clear D
    rintro σ' H2 ⟨q, l1, l2, cs, ps, rfl, s2, ⟨dq, hq, hl1, hl2⟩, e1, e2⟩
    have k2 : ∀ H', Same H2 H' → Q (.bl true) H' := fun H' s => k1 H' (s2.trans s)
    have ha2 := s2.seq ha1
    have hb2 := s2.seq hb1
    have R2 := R1.mono s2
    have hb02 := s2 _ _ hb01
    have hsl1 : SqL K H2 l1 (cs.map V.int) := SqL.of hl1
    have hsl2 : SqL K H2 l2 (ps.map V.int) := SqL.of hl2
    clear k1 ha1 hb1 R1 hb01 s2
    have A2 := At.nil H2
    repeat walk_at "s"
    refine r_rng1 (n := 4) rfl (by decide) ?_
    refine r_forItr (fun i σ H' => ∃ (v5 v6 v7 v8 v9 v10 v11 v12 : Option V), σ = [some (.ref a), some (.ref b), some (.ref r), some (.int c), some (.ref q), v5, v6, v7, v8, v9, v10, v11, v12] ∧ At H2 [] H') ⟨none, none, none, none, none, none, none, none, rfl, A2⟩ ?_ ?_
    · clear A2
      rintro i σ H3 N hi ⟨v5, v6, v7, v8, v9, v10, v11, v12, rfl, A3⟩ hN
      repeat walk_at "s"
      refine r_cut (Mid := fun σ' H' => ∃ (b1 : Addr) (cs1 : List Int), σ' = [some (.ref a), some (.ref b), some (.ref r), some (.int c), some (.ref q), some (.int (i : Int)), some (.ref b1), v7, v8, v9, v10, v11, v12] ∧ At H2 [(b1, .lst (cs1.map V.int))] H' ∧ 1 ≤ cs1.length ∧ cs1.length ≤ 2 * hs.length + 1) ?_ ?_
      · repeat walk_at "s"
        refine r_ifND (fun _ => ?_) (fun _ => ?_)
        · repeat walk_at "s"
          refine use_bent A3 (by walk_at "hp") (by omega) (by omega) (fun ys b1 H4 y1 y2 A4 => ?_)
          repeat walk_at "s"
          exact ⟨b1, ys, rfl, A4, y1, by omega⟩
        · repeat walk_at "s"
          refine r_list A3 (A3.sq hsl1) (fun b1 H4 A4 => ?_)
          repeat walk_at "s"
          exact ⟨b1, cs, rfl, A4, by omega, by omega⟩
      clear A3
      rintro σ' H3 ⟨b1, cs1, rfl, A3, y1, y2⟩
      repeat walk_at "s"
      refine r_cut (Mid := fun σ' H' => ∃ (b2 : Addr) (ps1 : List Int), σ' = [some (.ref a), some (.ref b), some (.ref r), some (.int c), some (.ref q), some (.int (i : Int)), some (.ref b1), some (.ref b2), v8, v9, v10, v11, v12] ∧ At H2 [(b2, .lst (ps1.map V.int)), (b1, .lst (cs1.map V.int))] H' ∧ 1 ≤ ps1.length ∧ ps1.length ≤ 2 * hs.length + 1) ?_ ?_
      · repeat walk_at "s"
        refine r_ifND (fun _ => ?_) (fun _ => ?_)
        · repeat walk_at "s"
          refine use_bent A3 (by walk_at "hp") (by omega) (by omega) (fun ys b1 H4 y1 y2 A4 => ?_)
          repeat walk_at "s"
          exact ⟨b1, ys, rfl, A4, y1, by omega⟩
        · repeat walk_at "s"
          refine r_list A3 (A3.sq hsl2) (fun b1 H4 A4 => ?_)
          repeat walk_at "s"
          exact ⟨b1, ps, rfl, A4, by omega, by omega⟩
      clear A3
      rintro σ' H3 ⟨b2, ps1, rfl, A3, z1, z2⟩
      repeat walk_at "s"
      refine r_list A3 (A3.sqo (by walk_at "mem")) (fun d1 H4 A4 => ?_)
      repeat walk_at "s"
      refine r_list A4 (A4.sqo (xs := ps1.map V.int) (by walk_at "mem")) (fun d2 H5 A5 => ?_)
      repeat walk_at "s"
      refine r_mkL A5 (by show 2 ≤ 10000000; decide) (fun hd H6 A6 => ?_)
      repeat walk_at "s"
      refine r_ixL (A6.sqo (by walk_at "mem")) (atI_nat (j := 0) rfl) ?_
      repeat walk_at "s"
      refine r_ixL (A6.sqo (by walk_at "mem")) (atI_nat (j := 1) rfl) ?_
      repeat walk_at "s"
      refine use_Even (cs := cs1) (ps := ps1) (A6.sqo (by walk_at "mem")) (A6.sqo (by walk_at "mem")) (fun w c1 c2 H7 s7 n7 n8 n9 ne EV => ?_)
      obtain ⟨dw, hw, hc1, hc2⟩ := id EV
      have A7 : At H2 [(c1, .lst (cs1.map V.int)), (c2, .lst (ps1.map V.int)), (w, .ins T.c_Even dw (efl c1 c2)), (hd, .lst [.ref d1, .ref d2]), (d2, .lst (ps1.map V.int)), (d1, .lst (cs1.map V.int)), (b2, .lst (ps1.map V.int)), (b1, .lst (cs1.map V.int))] H7 := by
        have x1 := A6.made s7 n7 hw
        have x2 := x1.more (A6.ex.free n9) hc2 (fun x hx => by
          rcases List.mem_cons.mp hx with rfl | hx
          · exact ne_of hw hc2 (by intro z; cases z)
          · exact ne_of_none (A6.own x hx) n9)
        exact x2.more (A6.ex.free n8) hc1 (fun x hx => by
          rcases List.mem_cons.mp hx with rfl | hx
          · exact fun z => ne z.symm
          rcases List.mem_cons.mp hx with rfl | hx
          · exact ne_of hw hc1 (by intro z; cases z)
          · exact ne_of_none (A6.own x hx) n8)
      clear A3 A4 A5 A6 s7 n7 n8 n9 ne EV hw hc1 hc2
      repeat walk_at "s"
      refine r_ixL (A7.sqo (xs := [.ref d1, .ref d2]) (by walk_at "mem")) (atI_nat (j := 0) rfl) ?_
      repeat walk_at "s"
      refine r_append (A7.bring (L1 := [_, _, _, _, _]) (L2 := [_, _])) (by rw [List.length_map]; omega) (fun H8 A8 => ?_)
      repeat walk_at "s"
      refine r_ixL (A8.sqo (xs := [.ref d1, .ref d2]) (by walk_at "mem")) (atI_nat (j := 1) rfl) ?_
      repeat walk_at "s"
      refine r_clear (A8.bring (L1 := [_, _, _, _, _]) (L2 := [_, _])) (fun H9 A9 => ?_)
      have A10 := A9.tl.tl
      clear A7 A8 A9
      repeat walk_at "s"
      refine r_cut (Mid := fun σ' H' => ∃ ev : Bool, ev = decide (EM.cyc cs1 = hs) ∧ σ' = [some (.ref a), some (.ref b), some (.ref r), some (.int c), some (.ref q), some (.int (i : Int)), some (.ref b1), some (.ref b2), some (.ref hd), some (.ref w), some (.bl ev), v11, v12] ∧ At H2 [(c1, .lst (cs1.map V.int)), (c2, .lst (ps1.map V.int)), (w, .ins T.c_Even dw (efl c1 c2)), (hd, .lst [.ref d1, .ref d2]), (b2, .lst (ps1.map V.int)), (b1, .lst (cs1.map V.int))] H') ?_ ?_
      · repeat walk_at "s"
        refine r_ifD (fun e => ?_) (fun e => ?_)
        · repeat walk_at "s"
          exact ⟨_, rfl, rfl, by assumption⟩
        · repeat walk_at "s"
          exact ⟨_, (decide_eq_false (fun z => e (by rw [← z, EM.cyc_len]))).symm, rfl, by assumption⟩
      clear A10
      rintro σ' H10 ⟨ev, hev, rfl, A10⟩
      repeat walk_at "s"
      refine r_cut (Mid := fun σ' H' => ∃ du : Bool, du = (ev && decide (ps1.length = hs.length)) ∧ σ' = [some (.ref a), some (.ref b), some (.ref r), some (.int c), some (.ref q), some (.int (i : Int)), some (.ref b1), some (.ref b2), some (.ref hd), some (.ref w), some (.bl ev), some (.bl du), v12] ∧ At H2 [(c1, .lst (cs1.map V.int)), (c2, .lst (ps1.map V.int)), (w, .ins T.c_Even dw (efl c1 c2)), (hd, .lst [.ref d1, .ref d2]), (b2, .lst (ps1.map V.int)), (b1, .lst (cs1.map V.int))] H') ?_ ?_
      · repeat walk_at "s"
        refine r_if2 (fun e => ?_) (fun e => ?_)
        · repeat walk_at "s"
          refine ⟨_, ?_, rfl, by assumption⟩
          rw [e, Bool.true_and]
          first | rfl | (congr 1; exact propext ⟨fun z => by omega, fun z => by omega⟩)
        · repeat walk_at "s"
          exact ⟨_, by rw [e]; rfl, rfl, by assumption⟩
      clear A10
      rintro σ' H10 ⟨du, hdu, rfl, A10⟩
      repeat walk_at "s"
      refine r_cut (Mid := fun σ' H' => ∃ du : Bool, du = EM.showB hs ts cs1 ps1 ∧ σ' = [some (.ref a), some (.ref b), some (.ref r), some (.int c), some (.ref q), some (.int (i : Int)), some (.ref b1), some (.ref b2), some (.ref hd), some (.ref w), some (.bl ev), some (.bl du), v12] ∧ At H2 [(c1, .lst (cs1.map V.int)), (c2, .lst (ps1.map V.int)), (w, .ins T.c_Even dw (efl c1 c2)), (hd, .lst [.ref d1, .ref d2]), (b2, .lst (ps1.map V.int)), (b1, .lst (cs1.map V.int))] H') ?_ ?_
      · repeat walk_at "s"
        refine r_if2 (fun e => ?_) (fun e => ?_)
        · rw [e, hev] at hdu
          have hdu' := hdu.symm
          rw [Bool.and_eq_true] at hdu'
          have f1 : EM.cyc cs1 = hs := of_decide_eq_true hdu'.1
          have f2 : ps1.length = hs.length := of_decide_eq_true hdu'.2
          have f3 : cs1.length = hs.length := by rw [← f1, EM.cyc_len]
          repeat walk_at "s"
          exact ⟨_, (EM.showB_of f1 f2 hlen).symm, rfl, by assumption⟩
        · repeat walk_at "s"
          refine ⟨_, ?_, rfl, by assumption⟩
          rw [hev] at hdu
          unfold EM.showB
          rw [hdu] at e
          rw [← Bool.and_assoc, hdu, e]
          rfl
      clear A10 hdu
      rintro σ' H10 ⟨du, hdu, rfl, A10⟩
      repeat walk_at "s"
      refine use_says hev.symm ?_
      repeat walk_at "s"
      refine use_says hdu.symm ?_
      repeat walk_at "s"
      rename_i H11 A11
      refine r_slI A11 (by walk_at "sq") (fun t1 H12 A12 => ?_)
      repeat walk_at "s"
      refine r_mkI A12 (fun t0 H13 A13 => ?_)
      repeat walk_at "s"
      refine r_catI A13 (A13.ex _ _ hb02) (A13.get (by walk_at "mem")) (by show _ + 1 ≤ _; omega) (fun t2 H14 A14 => ?_)
      repeat walk_at "s"
      refine r_mkL A14 (by show 0 ≤ 10000000; decide) (fun t3 H15 A15 => ?_)
      repeat walk_at "s"
      refine r_mkT A15 (by show 3 ≤ 10000000; decide) (fun tt H16 A16 => ?_)
      have x1 : SqL K H16 t1 ((cutI ts none (some (-1))).map V.int) := A16.sqo (by walk_at "mem")
      have x2 : SqL K H16 t2 ((ts ++ [0]).map V.int) := A16.sqo (by walk_at "mem")
      have x3 : SqL K H16 t3 (([] : List Int).map V.int) := A16.sqo (by walk_at "mem")
      have xt : SqT K H16 tt [.ref t1, .ref t2, .ref t3] := A16.sto (by walk_at "mem")
      have A17 := A16.tl.tl.tl.tl.tl
      have EV : EvenAt T H16 w c1 c2 cs1 ps1 := ⟨dw, A17.get (by walk_at "mem"), A17.get (by walk_at "mem"), A17.get (by walk_at "mem")⟩
      have hw : H16 w = some (.ins T.c_Even dw (efl c1 c2)) := A17.get (by walk_at "mem")
      have R16 := RingAt.via A16.ex R2
      clear A10 A11 A12 A13 A14 A15 A16
      repeat walk_at "s"
      refine r_forItt [.ref t1, .ref t2, .ref t3] (fun _ σ H' => ∃ (v : Option V), σ = [some (.ref a), some (.ref b), some (.ref r), some (.int c), some (.ref q), some (.int (i : Int)), some (.ref b1), some (.ref b2), some (.ref hd), some (.ref w), some (.bl ev), some (.bl du), v] ∧ At H16 [] H') ⟨_, rfl, At.nil H16⟩ (fun _ σ H' _ ⟨_, _, A'⟩ => A'.st xt) ?_ ?_
      · clear A17
        rintro j x σ H17 N2 hx ⟨v, rfl, A18⟩ hN2
        have hz : ∃ (p : Addr) (zs : List Int), x = .ref p ∧ SqL K H16 p (zs.map V.int) ∧ zs.length ≠ hs.length ∧ (∀ t ∈ zs, 0 ≤ t ∧ t ≤ 1000) := by
          match j, hx with
          | 0, h => exact ⟨t1, _, (Option.some.inj h).symm, x1, by rw [cutI_last ts (by omega)]; omega, fun t h => ht t (cutI_mem h)⟩
          | 1, h => exact ⟨t2, _, (Option.some.inj h).symm, x2, by rw [List.length_append, List.length_singleton]; omega, fun t h => by
              rcases List.mem_append.mp h with h | h
              · exact ht t h
              · rw [List.mem_singleton.mp h]; decide⟩
          | 2, h => exact ⟨t3, _, (Option.some.inj h).symm, x3, by show 0 ≠ _; omega, fun t h => nomatch h⟩
          | n + 3, h => exact nomatch h
        obtain ⟨p, zs, rfl, hz, zl, zb⟩ := hz
        have e : EM.showB hs zs cs1 ps1 = false := by unfold EM.showB; rw [decide_eq_false zl]; simp
        clear x1 x2 x3 xt
        repeat walk_at "s"
        exact hN2 _ _ ⟨_, rfl, by assumption⟩
      · rintro σ H17 ⟨v, rfl, A18⟩
        exact hN _ _ ⟨_, _, _, _, _, _, _, _, rfl, (A17.same A18.ex).sub (List.nil_sublist _)⟩
    · rintro σ H3 ⟨v5, v6, v7, v8, v9, v10, v11, v12, rfl, A3⟩
      repeat walk_at "s"
      exact k2 _ A3.ex

local macro_rules | `(tactic| walk_at "s") => `(tactic| ((with_reducible show mth2K _ _ _ _ _ _ _ (V.ref _) _ _ _ _); first | refine r_m2l (by walk_at "hp") (look1 (by decide +kernel)) ?_ | refine r_m2r (by walk_at "hp") (sfl_no _ _ (by decide +kernel) (by decide +kernel)) ?_))
theorem not_str {hs : List Int} {f m b : Int} (h : ¬ (0 ≤ f ∧ f < hs.length ∧ 1 ≤ m ∧ m < hs.length ∧ hs.sum = 0)) : EM.strB hs f m b = false := by
  cases e : EM.strB hs f m b with
  | false => rfl
  | true =>
    unfold EM.strB at e
    rw [Bool.and_eq_true, Bool.and_eq_true, Bool.and_eq_true] at e
    have e1 := of_decide_eq_true e.1.1.1
    have e2 := of_decide_eq_true e.1.1.2
    have e3 := of_decide_eq_true e.1.2
    exact absurd ⟨e2.1, e2.2, e3.1, e3.2, e1⟩ h
theorem all_max {cs : List Int} {m b : Int} (h1 : m ∈ cs.map fun z : Int => (z.natAbs : Int)) (h2 : ∀ y, y ∈ (cs.map fun z : Int => (z.natAbs : Int)) → y ≤ m) : (cs.all fun c => decide ((c.natAbs : Int) ≤ b)) = decide (m ≤ b) := by
  rw [Bool.eq_iff_iff, List.all_eq_true, decide_eq_true_iff]
  constructor
  · intro h
    obtain ⟨z, hz, rfl⟩ := List.mem_map.mp h1
    exact of_decide_eq_true (h z hz)
  · intro h x hx
    have := h2 _ (List.mem_map.mpr ⟨x, hx, rfl⟩)
    exact decide_eq_true (by omega)
def sp_law_bounds_right (T : Txt K mg) : Sp := fun vs H Q _ => ∃ (a r : Addr) (hs : List Int) (c : Int), vs = [.ref a, .ref r, .int c] ∧ SqL K H a (hs.map V.int) ∧ RingAt T H r hs ∧ 2 ≤ hs.length ∧ hs.length ≤ 100 ∧
  (∀ x ∈ hs, -1000000 ≤ x ∧ x ≤ 1000000) ∧ ∀ H', Same H H' → Q (.bl true) H'
theorem ok_law_bounds_right (T : Txt K mg) : FnOk P w K mg base CX0 3 T.f_law_bounds_right T.fd_law_bounds_right ["_law_houses_here", "_law_ring", "_law_cell"] (sp_law_bounds_right T) := by
  refine T.F_law_bounds_right.ok sc_law_bounds_right (fun vs H Q E h => ?_) (fun cdv A outer s H vs Q E hr h => ?_)
  · obtain ⟨_, _, _, _, rfl, _⟩ := h
    rfl
  · skip
    obtain ⟨a, r, hs, c, rfl, ha, R, h2n, hn, hbd, k⟩ := h
    have A := At.nil H
    refine ⟨_, (pss_cons (ps_par (i := 3) (j := 4) (by rfl) sc_law_bounds_right.nd rfl rfl (by decide) rfl rfl (pa_cons (pe_op op_sub (pe_call (ok_law_draw T) (hr.mono (by decide)) (by rfl) T.g_law_draw T.F_law_draw.kp (b_law_draw T) .nil pass0 (pa_cons (pv 2) (pa_cons pe_int (pa_cons pe_int pa_nil)))) pe_int) (pa_cons (pe_lst pa_nil) pa_nil)) (by rfl))
      (pss_cons (ps_for PassesOwn.never rfl (kPiL (K := K) (pv 0)) (pg_name (i := 5) sc_law_bounds_right.nd rfl (by first | exact Or.inl rfl | exact Or.inr rfl)) (pss_cons (ps_set (i := 3) sc_law_bounds_right.nd rfl (by first | exact Or.inl rfl | exact Or.inr rfl) (pe_op op_add (pv 3) (pv 5)))
      (pss_one (ps_expr (pe_bm PySem.F.plainAttrs_list PySem.F.slot_list_append PySem.F.type_list_append mt_append (pv 4) (pa_cons (pv 3) pa_nil))))))
      (pss_cons (ps_set (i := 4) sc_law_bounds_right.nd rfl (by first | exact Or.inl rfl | exact Or.inr rfl) (pe_call (ok_law_bent T) (hr.mono (by decide)) (by rfl) T.g_law_bent T.F_law_bent.kp (b_law_bent T) .nil pass0 (pa_cons (pv 4) (pa_cons (pv 2) pa_nil))))
      (pss_cons (ps_set (i := 6) sc_law_bounds_right.nd rfl (by first | exact Or.inl rfl | exact Or.inr rfl) (pe_callB (EB.cr_max2 rfl) (by rfl) T.n_max EB.bt_max (pa_cons pe_int (pa_cons (pe_op op_sub (pe_op op_add (pe_callB (kMax (K := K)) (by rfl) T.n_max EB.bt_max (pa_cons (pe_lc (own := [("_law_one", 7)]) (g := gName 7) rfl sc_law_bounds_right.nd (kPiL (K := K) (pv 4)) (blkOk_by (own := [("_law_one", 7)]) (N := ["_law_houses_here", "_law_ring", "_law_cell", "_law_over", "_law_carried", "_law_house", "_law_most", "_law_one", "_law_due", "_law_handed", "_law_answer", "_law_many", "_law_first", "_law_count", "_law_inside", "_law_total", "_law_k", "_law_bound"]) (sc := defScope s_law_bounds_right) (by decide +kernel)) (fun _ _ _ _ _ => (pg_name (i := 7) sc_law_bounds_right.nd rfl (by first | exact Or.inl rfl | exact Or.inr rfl))) (fun _ _ _ _ _ => pts_nil) (fun _ _ _ _ _ => (pe_callB cr_abs (by rfl) T.n_abs EB.bt_abs (pa_cons (pv 7) pa_nil)))) pa_nil)) (pe_call (ok_law_draw T) (hr.mono (by decide)) (by rfl) T.g_law_draw T.F_law_draw.kp (b_law_draw T) .nil pass0 (pa_cons (pv 2) (pa_cons pe_int (pa_cons pe_int pa_nil))))) pe_int) pa_nil))))
      (Evl.pss_cut (ps_set (i := 8) sc_law_bounds_right.nd rfl (by first | exact Or.inl rfl | exact Or.inr rfl) (pe_and (pe_cmpR op_eq (pe_callB (kLen (K := K)) (by rfl) T.n_len PySem.boot_len (pa_cons (pv 4) pa_nil)) (pe_callB (kLen (K := K)) (by rfl) T.n_len PySem.boot_len (pa_cons (pv 0) pa_nil)) (nomark _)) (pe_one (pe_call (ok_law_evened T) (hr.mono (by decide)) (by rfl) T.g_law_evened T.F_law_evened.kp (b_law_evened T) .nil pass0 (pa_cons (pv 0) (pa_cons (pv 4) pa_nil))))))
      (Evl.pss_cut (ps_set (i := 8) sc_law_bounds_right.nd rfl (by first | exact Or.inl rfl | exact Or.inr rfl) (pe_and (pv 8) (pe_one (pe_cmpR op_le (pe_callB (kMax (K := K)) (by rfl) T.n_max EB.bt_max (pa_cons (pe_lc (own := [("_law_one", 7)]) (g := gName 7) rfl sc_law_bounds_right.nd (kPiL (K := K) (pv 4)) (blkOk_by (own := [("_law_one", 7)]) (N := ["_law_houses_here", "_law_ring", "_law_cell", "_law_over", "_law_carried", "_law_house", "_law_most", "_law_one", "_law_due", "_law_handed", "_law_answer", "_law_many", "_law_first", "_law_count", "_law_inside", "_law_total", "_law_k", "_law_bound"]) (sc := defScope s_law_bounds_right) (by decide +kernel)) (fun _ _ _ _ _ => (pg_name (i := 7) sc_law_bounds_right.nd rfl (by first | exact Or.inl rfl | exact Or.inr rfl))) (fun _ _ _ _ _ => pts_nil) (fun _ _ _ _ _ => (pe_callB cr_abs (by rfl) T.n_abs EB.bt_abs (pa_cons (pv 7) pa_nil)))) pa_nil)) (pv 6) (nomark _)))))
      (pss_cons (ps_set (i := 9) sc_law_bounds_right.nd rfl (by first | exact Or.inl rfl | exact Or.inr rfl) (pe_callTy (kList (K := K)) (by rfl) T.n_list EB.bt_list (pa_cons (pv 4) pa_nil)))
      (pss_cons (ps_set (i := 10) sc_law_bounds_right.nd rfl (by first | exact Or.inl rfl | exact Or.inr rfl) (pe_make T.mk_Within (ok_Within_init T) (hr.mono (by decide)) (by rfl) T.g_Within (b_Within_init T) .nil pass0 (pa_cons (pv 9) pa_nil)))
      (pss_cons (ps_expr (pe_bm PySem.F.plainAttrs_list PySem.F.slot_list_append PySem.F.type_list_append mt_append (pv 9) (pa_cons pe_int pa_nil)))
      (pss_cons (ps_if (PW.pt (pw_or (pt_cmpR (kNeD (K := K) hr.units) (kFld (K := K) (pv 10)) (pv 4) (nomark _)) (pw_or1 (pt_not (pt_val (pe_call (ok_law_says T) (hr.mono (by decide)) (by rfl) T.g_law_says T.F_law_says.kp (b_law_says T) .nil pass0 (pa_cons (EB.pe_meth2 (pv 10) T.cl_Within T.m_Within_shows (ok_Within_shows T) (hr.mono (by decide)) (b_Within_shows T) T.cl_Stretch T.m_Stretch_shows (ok_Stretch_shows T) (hr.mono (by decide)) (b_Stretch_shows T) pass0 pass0 (pa_cons (pv 1) (pa_cons (pv 6) pa_nil))) (pa_cons (pv 8) pa_nil)))))))) (pss_one (ps_ret pe_bl)) pss_nil)
      (pss_cons (ps_set (i := 11) sc_law_bounds_right.nd rfl (by first | exact Or.inl rfl | exact Or.inr rfl) (pe_callB (kLen (K := K)) (by rfl) T.n_len PySem.boot_len (pa_cons (pv 0) pa_nil)))
      (pss_cons (ps_asg (pe_tup (pa_cons (pe_op op_sub (pe_call (ok_law_draw T) (hr.mono (by decide)) (by rfl) T.g_law_draw T.F_law_draw.kp (b_law_draw T) .nil pass0 (pa_cons (pv 2) (pa_cons pe_int (pa_cons (pe_op op_add (pv 11) pe_int) pa_nil)))) pe_int) (pa_cons (pe_op op_sub (pe_call (ok_law_draw T) (hr.mono (by decide)) (by rfl) T.g_law_draw T.F_law_draw.kp (b_law_draw T) .nil pass0 (pa_cons (pv 2) (pa_cons pe_int (pa_cons (pe_op op_add (pv 11) pe_int) pa_nil)))) pe_int) pa_nil))) (kPgT (K := K) (n := 2) rfl (pgs_cons (pg_name (i := 12) sc_law_bounds_right.nd rfl (by first | exact Or.inl rfl | exact Or.inr rfl)) (pgs_cons (pg_name (i := 13) sc_law_bounds_right.nd rfl (by first | exact Or.inl rfl | exact Or.inr rfl)) pgs_nil))))
      (Evl.pss_cut (ps_set (i := 14) sc_law_bounds_right.nd rfl (by first | exact Or.inl rfl | exact Or.inr rfl) (pe_and (pe_chain op_le op_lt pe_int (pv 12) (pv 11)) (pe_and (pe_chain op_lt op_lt pe_int (pv 13) (pv 11)) (pe_one (pe_cmpR op_eq (pe_callB (kSum (K := K)) (by rfl) T.n_sum EB.bt_sum (pa_cons (pv 0) pa_nil)) pe_int (nomark _))))))
      (pss_cons (ps_set (i := 15) sc_law_bounds_right.nd rfl (by first | exact Or.inl rfl | exact Or.inr rfl) (pe_callB cr_abs (by rfl) T.n_abs EB.bt_abs (pa_cons (pe_callB (kSum (K := K)) (by rfl) T.n_sum EB.bt_sum (pa_cons (pe_lc (own := [("_law_k", 16)]) (g := gName 16) rfl sc_law_bounds_right.nd (pi_range1 (by rfl) T.n_range (pa_cons (pe_callB (EB.cr_max2 rfl) (by rfl) T.n_max EB.bt_max (pa_cons pe_int (pa_cons (pv 13) pa_nil))) pa_nil)) (blkOk_by (own := [("_law_k", 16)]) (N := ["_law_houses_here", "_law_ring", "_law_cell", "_law_over", "_law_carried", "_law_house", "_law_most", "_law_one", "_law_due", "_law_handed", "_law_answer", "_law_many", "_law_first", "_law_count", "_law_inside", "_law_total", "_law_k", "_law_bound"]) (sc := defScope s_law_bounds_right) (by decide +kernel)) (fun _ _ _ _ _ => (pg_name (i := 16) sc_law_bounds_right.nd rfl (by first | exact Or.inl rfl | exact Or.inr rfl))) (fun _ _ _ _ _ => pts_nil) (fun _ _ _ _ _ => (pe_ix (kIxL (K := K)) (pv 0) (pe_op op_mod (pe_op op_add (pv 12) (pv 16)) (pv 11)) (fun _ _ => rfl)))) pa_nil)) pa_nil)))
      (pss_cons (ps_set (i := 10) sc_law_bounds_right.nd rfl (by first | exact Or.inl rfl | exact Or.inr rfl) (pe_make T.mk_Stretch (ok_Stretch_init T) (hr.mono (by decide)) (by rfl) T.g_Stretch (b_Stretch_init T) .nil pass0 (pa_cons (pv 12) (pa_cons (pv 13) pa_nil))))
      (pss_cons (ps_for PassesOwn.never rfl (kPiT (K := K) (pe_tup (pa_cons pe_int (pa_cons (pe_op op_fdiv (pv 15) pe_int) (pa_cons (pe_callB (EB.cr_max2 rfl) (by rfl) T.n_max EB.bt_max (pa_cons pe_int (pa_cons (pe_op op_fdiv (pe_op op_sub (pv 15) pe_int) pe_int) pa_nil))) (pa_cons (pe_call (ok_law_draw T) (hr.mono (by decide)) (by rfl) T.g_law_draw T.F_law_draw.kp (b_law_draw T) .nil pass0 (pa_cons (pv 2) (pa_cons pe_int (pa_cons pe_int pa_nil)))) pa_nil)))))) (pg_name (i := 17) sc_law_bounds_right.nd rfl (by first | exact Or.inl rfl | exact Or.inr rfl)) (pss_one (ps_if (pt_not (pt_val (pe_call (ok_law_says T) (hr.mono (by decide)) (by rfl) T.g_law_says T.F_law_says.kp (b_law_says T) .nil pass0 (pa_cons (EB.pe_meth2 (pv 10) T.cl_Within T.m_Within_shows (ok_Within_shows T) (hr.mono (by decide)) (b_Within_shows T) T.cl_Stretch T.m_Stretch_shows (ok_Stretch_shows T) (hr.mono (by decide)) (b_Stretch_shows T) pass0 pass0 (pa_cons (pv 1) (pa_cons (pv 17) pa_nil))) (pa_cons (pe_and (pv 14) (pe_one (pe_cmpR op_gt (pv 15) (pe_op op_mul pe_int (pv 17)) (nomark _)))) pa_nil))))) (pss_one (ps_ret pe_bl)) pss_nil)))
      (pss_one (ps_ret (pe_and (pe_cmpR op_eq (kFld (K := K) (pv 10)) (pv 12) (nomark _)) (pe_one (pe_cmpR op_eq (kFld (K := K) (pv 10)) (pv 13) (nomark _)))))))))))))))))))))), ?_⟩
    repeat walk_at "s"
    rename_i d0 H1 A1 _ _
    refine r_mkL A1 (by show 0 ≤ 10000000; decide) (fun l H2 A2 => ?_)
    repeat walk_at "s"
    refine r_forItlI hs (fun i σ H' => ∃ (ov : Int) (cs : List Int) (v5 : Option V), σ = [some (.ref a), some (.ref r), some (.int c), some (.int ov), some (.ref l), v5, none, none, none, none, none, none, none, none, none, none, none, none] ∧ At H [(l, .lst (cs.map V.int))] H' ∧ cs.length = i) ⟨_, [], _, rfl, A2, rfl⟩ (fun i σ H' _ ⟨_, _, _, _, A', _⟩ => A'.sq ha) ?_ ?_
    · rintro i x σ H3 N hx ⟨ov, cs, v5, rfl, A3, hl⟩ hN
      have hil : i < hs.length := (List.getElem?_eq_some_iff.mp hx).1
      repeat walk_at "s"
      refine r_append A3 (by rw [List.length_map]; omega) (fun H4 A4 => ?_)
      refine hN _ _ ⟨_, cs ++ [ov + x], _, rfl, by rw [← EM.map_app]; exact A4, by rw [List.length_append, List.length_singleton, hl]⟩
    clear A1 A2
    rintro σ H3 ⟨ov, cs0, v5, rfl, A3, hl⟩
    repeat walk_at "s"
    refine use_bent A3 (A3.get (by walk_at "mem")) (by omega) (by omega) (fun cs b H4 y1 y2 A4 => ?_)
    have A5 := A4.sub (L' := [(b, .lst (cs.map V.int))]) (by simp)
    clear A3 A4
    repeat walk_at "s"
    refine r_lcLI (fun z => (z.natAbs : Int)) A5 (.inr (by walk_at "mem")) (by omega) (fun _ => rfl) (fun i x D H' Q' hx A' q => ?_) (fun D H6 A6 => ?_)
    · repeat walk_at "s"
      exact q.t0 rfl A'
    repeat walk_at "s"
    refine r_max (A6.sqo (by walk_at "mem")) (by rw [List.length_map]; omega) (fun m1 m1a m1b => ?_)
    have A7 := A6.tl
    clear A5 A6
    repeat walk_at "s"
    rename_i d5 H7 A8 d5a d5b
    generalize max 0 (m1 + d5 - 1) = most
    refine r_cut (Mid := fun σ' H' => ∃ du : Bool, du = decide (EM.cyc cs = hs) ∧ σ' = [some (.ref a), some (.ref r), some (.int c), some (.int ov), some (.ref b), v5, some (.int most), none, some (.bl du), none, none, none, none, none, none, none, none, none] ∧ At H [(b, .lst (cs.map V.int))] H') ?_ ?_
    · repeat walk_at "s"
      refine r_ifD (fun e => ?_) (fun e => ?_)
      · repeat walk_at "s"
        exact ⟨_, rfl, rfl, by assumption⟩
      · repeat walk_at "s"
        exact ⟨_, (decide_eq_false (fun z => e (by rw [← z, EM.cyc_len]))).symm, rfl, by assumption⟩
    clear A7 A8
    rintro σ' H8 ⟨du, hdu, rfl, A8⟩
    repeat walk_at "s"
    refine r_cut (Mid := fun σ' H' => ∃ du : Bool, du = (decide (EM.cyc cs = hs) && cs.all fun c => decide ((c.natAbs : Int) ≤ most)) ∧ σ' = [some (.ref a), some (.ref r), some (.int c), some (.int ov), some (.ref b), v5, some (.int most), none, some (.bl du), none, none, none, none, none, none, none, none, none] ∧ At H [(b, .lst (cs.map V.int))] H') ?_ ?_
    · repeat walk_at "s"
      refine r_if2 (fun e => ?_) (fun e => ?_)
      · repeat walk_at "s"
        refine r_lcLI (fun z => (z.natAbs : Int)) A8 (.inr (by walk_at "mem")) (by omega) (fun _ => rfl) (fun i x D H' Q' hx A' q => ?_) (fun D H6 A6 => ?_)
        · repeat walk_at "s"
          exact q.t0 rfl A'
        repeat walk_at "s"
        refine r_max (A6.sqo (by walk_at "mem")) (by rw [List.length_map]; omega) (fun m2 m2a m2b => ?_)
        repeat walk_at "s"
        refine ⟨_, ?_, rfl, A6.tl⟩
        rw [all_max m2a m2b, ← hdu, e, Bool.true_and]
      · repeat walk_at "s"
        exact ⟨_, by rw [← hdu, e]; rfl, rfl, A8⟩
    clear hdu du A8
    rintro σ' H8 ⟨du, hdu, rfl, A8⟩
    repeat walk_at "s"
    refine r_list A8 (A8.sqo (by walk_at "mem")) (fun l9 H9 A9 => ?_)
    repeat walk_at "s"
    refine use_Within (cs := cs) (A9.sqo (by walk_at "mem")) (fun p lw H10 s10 n10 n11 ⟨dw, hw, hlw⟩ => ?_)
    have A10 := (A9.made2 s10 n10 n11 hw hlw (ne_of hw hlw (by intro z; cases z))).bring (L1 := [_, _]) (L2 := [_])
    clear A8 A9 s10
    repeat walk_at "s"
    refine r_append A10 (by rw [List.length_map]; omega) (fun H11 A11 => ?_)
    have W11 : WithinAt T H11 p lw cs := ⟨dw, A11.get (by walk_at "mem"), A11.get (by walk_at "mem")⟩
    have hw11 : H11 p = some (.ins T.c_Within dw [("carried", .ref lw)]) := A11.get (by walk_at "mem")
    clear A10 hw hlw n10 n11
    repeat walk_at "s"
    refine ⟨p, r, lw, hs, cs, most, rfl, W11, RingAt.via A11.ex R, by omega, by omega, fun H12 s12 => ?_⟩
    have A12 : At H [] H12 := (A11.same s12).sub (List.nil_sublist _)
    clear A11 W11 hw11 s12
    repeat walk_at "s"
    refine use_says hdu.symm ?_
    repeat walk_at "s"
    rename_i f H13 A13 f0 f1 m H14 A14 m0 m1'
    generalize f - 1 = f
    have m2 : m - 1 < hs.length + 2 := by omega
    generalize m - 1 = m at m2 ⊢
    refine r_mkT A14 (by show 2 ≤ 10000000; decide) (fun tt H15 A15 => ?_)
    repeat walk_at "s"
    refine r_gTup2 (A15.sto (by walk_at "mem")) ?_
    have A16 := A15.tl
    clear A12 A13 A14 A15
    repeat walk_at "s"
    refine r_cut (Mid := fun σ' H' => ∃ ins : Bool, (ins = true ↔ (0 ≤ f ∧ f < hs.length ∧ 1 ≤ m ∧ m < hs.length ∧ hs.sum = 0)) ∧ σ' = [some (.ref a), some (.ref r), some (.int c), some (.int ov), some (.ref b), v5, some (.int most), none, some (.bl du), some (.ref l9), some (.ref p), some (.int (hs.length : Int)), some (.int f), some (.int m), some (.bl ins), none, none, none] ∧ At H [] H') ?_ ?_
    · repeat walk_at "s"
      refine r_ifD (fun e1 => ?_) (fun e1 => ?_)
      · repeat walk_at "s"
        refine r_ifD (fun e2 => ?_) (fun e2 => ?_)
        · repeat walk_at "s"
          refine r_ifD (fun e3 => ?_) (fun e3 => ?_)
          · repeat walk_at "s"
            refine r_ifD (fun e4 => ?_) (fun e4 => ?_)
            · repeat walk_at "s"
              exact ⟨_, ⟨fun z => ⟨e1, e2, by omega, e4, of_decide_eq_true z⟩, fun z => decide_eq_true z.2.2.2.2⟩, rfl, A16⟩
            · repeat walk_at "s"
              refine ⟨_, ?_, rfl, A16⟩
              exact ⟨(fun z => nomatch z), fun z => absurd z.2.2.2.1 e4⟩
          · repeat walk_at "s"
            refine ⟨_, ?_, rfl, A16⟩
            exact ⟨(fun z => nomatch z), fun z => absurd (by omega) e3⟩
        · repeat walk_at "s"
          refine ⟨_, ?_, rfl, A16⟩
          exact ⟨(fun z => nomatch z), fun z => absurd z.2.1 e2⟩
      · repeat walk_at "s"
        refine ⟨_, ?_, rfl, A16⟩
        exact ⟨(fun z => nomatch z), fun z => absurd z.1 e1⟩
    clear A16
    rintro σ' H17 ⟨ins, hins, rfl, A17⟩
    repeat walk_at "s"
    refine r_rng1 (n := m.toNat) (by omega) (by omega) ?_
    refine r_lcRI (fun k => gz hs ((f + (k : Int)) % (hs.length : Int))) A17 (by omega) (fun _ => rfl) (fun i D H' Q' hi A' q => ?_) (fun D H18 A18 => ?_)
    · have z1 : 0 ≤ (f + (i : Int)) % (hs.length : Int) := Int.emod_nonneg _ (by omega)
      have z2 : (f + (i : Int)) % (hs.length : Int) < hs.length := Int.emod_lt_of_pos _ (by omega)
      repeat walk_at "s"
      exact q.t0 rfl A'
    repeat walk_at "s"
    have htot : ins = true → ∀ bd, EM.strB hs f m bd = decide (2 * bd < (((List.range m.toNat).map fun (k : Nat) => gz hs ((f + (k : Int)) % (hs.length : Int))).sum.natAbs : Int)) := fun e bd => by
      obtain ⟨e1, e2, e3, e4, e5⟩ := hins.mp e
      rw [EM.strB_true e5 ⟨e1, e2⟩ ⟨e3, e4⟩, EM.str_cyc (by omega) (by omega), show ((f.toNat : Nat) : Int) = f by omega]
    have hout : ins = false → ∀ bd, EM.strB hs f m bd = false := fun e bd => not_str fun z => by
      rw [hins.mpr z] at e
      cases e
    generalize (((List.range m.toNat).map fun (k : Nat) => gz hs ((f + (k : Int)) % (hs.length : Int))).sum.natAbs : Int) = tot at htot ⊢
    refine use_Stretch (fun ps H19 s19 n19 ⟨dw, hw⟩ => ?_)
    have A19 : At H [] H19 := (A18.same s19).sub (List.nil_sublist _)
    have R19 := RingAt.via A19.ex R
    have k19 : ∀ H', Same H19 H' → Q (.bl true) H' := fun H' s => k H' (A19.ex.trans s)
    clear A17 A18 A19 s19 n19 k R ha
    have A19 := At.nil H19
    repeat walk_at "s"
    rename_i d8 H20 A20 _ _
    refine r_mkT A20 (by show 4 ≤ 10000000; decide) (fun tt H21 A21 => ?_)
    have hst : StretchAt T H19 ps f m := ⟨dw, hw⟩
    have xt := A21.sto (K := K) (p := tt) (by walk_at "mem")
    have S21 : Same H19 H21 := A21.ex
    have hst1 := hst.mono S21
    have hw1 := S21 _ _ hw
    have R21 := R19.mono S21
    have k21 : ∀ H', Same H21 H' → Q (.bl true) H' := fun H' s => k19 H' (S21.trans s)
    clear A19 A20 A21 R19 k19 hw hst S21
    repeat walk_at "s"
    refine r_forItt _ (fun _ σ H' => ∃ (v : Option V), σ = [some (.ref a), some (.ref r), some (.int c), some (.int ov), some (.ref b), v5, some (.int most), none, some (.bl du), some (.ref l9), some (.ref ps), some (.int (hs.length : Int)), some (.int f), some (.int m), some (.bl ins), some (.int tot), none, v] ∧ At H21 [] H') ⟨_, rfl, At.nil H21⟩ (fun _ σ H' _ ⟨_, _, A'⟩ => A'.st xt) ?_ ?_
    · rintro j x σ H22 N2 hx ⟨v, rfl, A22⟩ hN2
      have hz : ∃ bd : Int, x = .int bd := by
        match j, hx with
        | 0, h => exact ⟨_, (Option.some.inj h).symm⟩
        | 1, h => exact ⟨_, (Option.some.inj h).symm⟩
        | 2, h => exact ⟨_, (Option.some.inj h).symm⟩
        | 3, h => exact ⟨_, (Option.some.inj h).symm⟩
        | n + 4, h => exact nomatch h
      obtain ⟨bd, rfl⟩ := hz
      clear xt hx
      repeat walk_at "s"
      refine ⟨ps, r, hs, f, m, bd, rfl, hst1.mono A22.ex, RingAt.via A22.ex R21, by omega, fun H23 s23 => ?_⟩
      have A23 := A22.same s23
      clear A22 s23
      repeat walk_at "s"
      refine r_if2 (fun e => ?_) (fun e => ?_)
      · repeat walk_at "s"
        refine use_says (htot e bd) ?_
        repeat walk_at "s"
        exact hN2 _ _ ⟨_, rfl, A23⟩
      · repeat walk_at "s"
        refine use_says (hout e bd) ?_
        repeat walk_at "s"
        exact hN2 _ _ ⟨_, rfl, A23⟩
    · rintro σ H22 ⟨v, rfl, A22⟩
      repeat walk_at "s"
      rw [decide_eq_true rfl]
      exact k21 _ A22.ex

local macro_rules | `(tactic| walk_at "s") => `(tactic| ((with_reducible show mth2K _ _ _ _ _ _ _ (V.ref _) _ _ _ _); first | refine r_m2l (by walk_at "hp") (efl_no _ _ (by decide +kernel) (by decide +kernel)) ?_ | refine r_m2r (by walk_at "hp") (look1 (by decide +kernel)) ?_))
def sp_law0 (K : PySem.W.Frag) : Sp := fun vs H Q _ => ∃ (a : Addr) (ns : List Int), vs = [.ref a] ∧ SqL K H a (ns.map V.int) ∧ ns.length ≤ 63 ∧ ∀ H', Q (.bl true) H'
def sp_law (_ : Txt K mg) : Sp := sp_law0 K
theorem r_mk3 {H0 H : Hp} {L : List (Addr × HO)} {Q : VK} (x y z : Int) (A : At H0 L H) (k : ∀ p H', At H0 ((p, .lst (([x, y, z] : List Int).map V.int)) :: L) H' → Q (.ref p) H') : mkL [.int x, .int y, .int z] H Q := r_mkL A (by show 3 ≤ 10000000; decide) k
theorem r_mkP {H0 H : Hp} {L : List (Addr × HO)} {Q : VK} {p : Addr} {b : Bool} (A : At H0 L H) (k : ∀ t H', At H0 ((t, .tup [.ref p, .bl b]) :: L) H' → Q (.ref t) H') : mkT [.ref p, .bl b] H Q := r_mkT A (by show 2 ≤ 10000000; decide) k
theorem ok_law (T : Txt K mg) : FnOk P w K mg base CX0 5 T.f_law T.fd_law ["_law_script"] (sp_law T) := by
  refine T.F_law.ok sc_law (fun vs H Q E h => ?_) (fun cdv A outer s H vs Q E hr h => ?_)
  · obtain ⟨_, _, rfl, _⟩ := h
    rfl
  · skip
    obtain ⟨a, ns, rfl, ha, hn, k⟩ := h
    have A := At.nil H
    refine ⟨_, (pss_cons (ps_set (i := 1) sc_law.nd rfl (by first | exact Or.inl rfl | exact Or.inr rfl) (pe_call (ok_law_houses T) (hr.mono (by decide)) (by rfl) T.g_law_houses T.F_law_houses.kp (b_law_houses T) .nil pass0 (pa_cons (pv 0) (pa_cons pe_int pa_nil))))
      (Evl.pss_cut (ps_if (pt_cmpR op_eq (pe_call (ok_law_draw T) (hr.mono (by decide)) (by rfl) T.g_law_draw T.F_law_draw.kp (b_law_draw T) .nil pass0 (pa_cons (pe_call (ok_law_cell_at T) (hr.mono (by decide)) (by rfl) T.g_law_cell_at T.F_law_cell_at.kp (b_law_cell_at T) .nil pass0 (pa_cons (pv 0) (pa_cons pe_int pa_nil))) (pa_cons pe_int (pa_cons pe_int pa_nil)))) pe_int (nomark _)) (pss_one (ps_asg (pe_op op_add (pe_ix (kIxL (K := K)) (pv 1) pe_int (fun _ _ => rfl)) (pe_ix (kIxT (K := K)) (pe_tup (pa_cons (pe_un un_neg pe_int) (pa_cons pe_int (pa_cons pe_int (pa_cons (pe_un un_neg pe_int) (pa_cons pe_int pa_nil)))))) (pe_call (ok_law_draw T) (hr.mono (by decide)) (by rfl) T.g_law_draw T.F_law_draw.kp (b_law_draw T) .nil pass0 (pa_cons (pe_call (ok_law_cell_at T) (hr.mono (by decide)) (by rfl) T.g_law_cell_at T.F_law_cell_at.kp (b_law_cell_at T) .nil pass0 (pa_cons (pv 0) (pa_cons pe_int pa_nil))) (pa_cons pe_int (pa_cons pe_int pa_nil)))) (fun _ _ => rfl))) (pg_sub (pv 1) pe_int set_list))) pss_nil)
      (pss_cons (ps_set (i := 2) sc_law.nd rfl (by first | exact Or.inl rfl | exact Or.inr rfl) (pe_call (ok_law_tolls T) (hr.mono (by decide)) (by rfl) T.g_law_tolls T.F_law_tolls.kp (b_law_tolls T) .nil pass0 (pa_cons (pv 0) (pa_cons (pe_callB (kLen (K := K)) (by rfl) T.n_len PySem.boot_len (pa_cons (pv 1) pa_nil)) pa_nil))))
      (pss_cons (ps_set (i := 3) sc_law.nd rfl (by first | exact Or.inl rfl | exact Or.inr rfl) (pe_make T.mk_Ring (ok_Ring_init T) (hr.mono (by decide)) (by rfl) T.g_Ring (b_Ring_init T) .nil pass0 (pa_cons (pv 1) pa_nil)))
      (pss_cons (ps_for PassesOwn.never rfl (pi_range1 (by rfl) T.n_range (pa_cons pe_int pa_nil)) (pg_name (i := 4) sc_law.nd rfl (by first | exact Or.inl rfl | exact Or.inr rfl)) (pss_cons (ps_set (i := 5) sc_law.nd rfl (by first | exact Or.inl rfl | exact Or.inr rfl) (pe_op op_add (pe_op op_add (pe_call (ok_law_cell_at T) (hr.mono (by decide)) (by rfl) T.g_law_cell_at T.F_law_cell_at.kp (b_law_cell_at T) .nil pass0 (pa_cons (pv 0) (pa_cons (pv 4) pa_nil))) (pe_op op_mul pe_int (pv 4))) (pe_op op_mul pe_int (pe_call (ok_law_cell_at T) (hr.mono (by decide)) (by rfl) T.g_law_cell_at T.F_law_cell_at.kp (b_law_cell_at T) .nil pass0 (pa_cons (pv 0) (pa_cons (pe_op op_add (pv 4) pe_int) pa_nil))))))
      (pss_one (ps_if (PW.pt (pw_or (pt_not (pt_val (pe_call (ok_law_even_right T) (hr.mono (by decide)) (by rfl) T.g_law_even_right T.F_law_even_right.kp (b_law_even_right T) .nil pass0 (pa_cons (pv 1) (pa_cons (pv 2) (pa_cons (pv 3) (pa_cons (pv 5) pa_nil))))))) (pw_or1 (pt_not (pt_val (pe_call (ok_law_bounds_right T) (hr.mono (by decide)) (by rfl) T.g_law_bounds_right T.F_law_bounds_right.kp (b_law_bounds_right T) .nil pass0 (pa_cons (pv 1) (pa_cons (pv 3) (pa_cons (pv 5) pa_nil))))))))) (pss_one (ps_ret pe_bl)) pss_nil))))
      (pss_cons (ps_par (i := 6) (j := 7) (by rfl) sc_law.nd rfl rfl (by decide) rfl rfl (pa_cons (pe_make T.mk_Ring (ok_Ring_init T) (hr.mono (by decide)) (by rfl) T.g_Ring (b_Ring_init T) .nil pass0 (pa_cons (pe_lst (pa_cons pe_int (pa_cons pe_int (pa_cons pe_int pa_nil)))) pa_nil)) (pa_cons (pe_lst (pa_cons pe_int (pa_cons pe_int (pa_cons pe_int pa_nil)))) pa_nil)) (by rfl))
      (pss_cons (ps_set (i := 8) sc_law.nd rfl (by first | exact Or.inl rfl | exact Or.inr rfl) (pe_lst (pa_cons (pe_tup (pa_cons (pe_lst (pa_cons pe_int (pa_cons pe_int (pa_cons pe_int pa_nil)))) (pa_cons pe_bl pa_nil))) (pa_cons (pe_tup (pa_cons (pe_lst (pa_cons pe_int (pa_cons pe_int (pa_cons pe_int pa_nil)))) (pa_cons pe_bl pa_nil))) (pa_cons (pe_tup (pa_cons (pe_lst (pa_cons pe_int (pa_cons pe_int (pa_cons pe_int pa_nil)))) (pa_cons pe_bl pa_nil))) (pa_cons (pe_tup (pa_cons (pe_lst (pa_cons pe_int (pa_cons pe_int (pa_cons pe_int pa_nil)))) (pa_cons pe_bl pa_nil))) (pa_cons (pe_tup (pa_cons (pe_lst (pa_cons pe_int (pa_cons pe_int (pa_cons pe_int pa_nil)))) (pa_cons pe_bl pa_nil))) pa_nil)))))))
      (pss_cons (ps_for PassesOwn.never rfl (kPiL (K := K) (pv 8)) (kPgT (K := K) (n := 2) rfl (pgs_cons (pg_name (i := 9) sc_law.nd rfl (by first | exact Or.inl rfl | exact Or.inr rfl)) (pgs_cons (pg_name (i := 10) sc_law.nd rfl (by first | exact Or.inl rfl | exact Or.inr rfl)) pgs_nil))) (pss_one (ps_if (pt_not (pt_val (pe_call (ok_law_says T) (hr.mono (by decide)) (by rfl) T.g_law_says T.F_law_says.kp (b_law_says T) .nil pass0 (pa_cons (EB.pe_meth2 (pe_make T.mk_Even (ok_Even_init T) (hr.mono (by decide)) (by rfl) T.g_Even (b_Even_init T) .nil pass0 (pa_cons (pv 7) (pa_cons (pv 9) pa_nil))) T.cl_Even T.m_Even_shows (ok_Even_shows T) (hr.mono (by decide)) (b_Even_shows T) T.cl_Uneven T.m_Uneven_shows (ok_Uneven_shows T) (hr.mono (by decide)) (b_Uneven_shows T) pass0 pass0 (pa_cons (pv 6) (pa_cons (pe_lst (pa_cons pe_int (pa_cons pe_int (pa_cons pe_int pa_nil)))) pa_nil))) (pa_cons (pv 10) pa_nil))))) (pss_one (ps_ret pe_bl)) pss_nil)))
      (pss_cons (ps_for PassesOwn.never rfl (kPiT (K := K) (pe_tup (pa_cons pe_int (pa_cons (pe_callB (kSum (K := K)) (by rfl) T.n_sum EB.bt_sum (pa_cons (pv 1) pa_nil)) (pa_cons pe_int (pa_cons (pe_un un_neg pe_int) (pa_cons (pe_op op_add (pe_callB (kSum (K := K)) (by rfl) T.n_sum EB.bt_sum (pa_cons (pv 1) pa_nil)) pe_int) pa_nil))))))) (pg_name (i := 11) sc_law.nd rfl (by first | exact Or.inl rfl | exact Or.inr rfl)) (pss_one (ps_if (pt_not (pt_val (pe_call (ok_law_says T) (hr.mono (by decide)) (by rfl) T.g_law_says T.F_law_says.kp (b_law_says T) .nil pass0 (pa_cons (EB.pe_meth2 (pe_make T.mk_Uneven (ok_Uneven_init T) (hr.mono (by decide)) (by rfl) T.g_Uneven (b_Uneven_init T) .nil pass0 (pa_cons (pv 11) pa_nil)) T.cl_Even T.m_Even_shows (ok_Even_shows T) (hr.mono (by decide)) (b_Even_shows T) T.cl_Uneven T.m_Uneven_shows (ok_Uneven_shows T) (hr.mono (by decide)) (b_Uneven_shows T) pass0 pass0 (pa_cons (pv 3) (pa_cons (pv 2) pa_nil))) (pa_cons (pe_and (pe_cmpR op_ne (pv 11) pe_int (nomark _)) (pe_one (pe_cmpR op_eq (pv 11) (pe_callB (kSum (K := K)) (by rfl) T.n_sum EB.bt_sum (pa_cons (pv 1) pa_nil)) (nomark _)))) pa_nil))))) (pss_one (ps_ret pe_bl)) pss_nil)))
      (pss_one (ps_ret (pe_cmpR (kEqD (K := K) hr.units) (pe_meth0 (pv 3) T.cl_Ring T.m_Ring_houses (ok_Ring_houses T) (hr.mono (by decide)) (b_Ring_houses T) .nil pass0) (pv 1) (nomark _))))))))))))), ?_⟩
    repeat walk_at "s"
    refine ⟨a, ns, 4, rfl, ha, hn, by decide, by decide, fun hs0 h H1 HH s1 n1 hh => ?_⟩
    have hl0 := HH.len
    have A1 := At.made A s1 n1 hh
    clear A
    repeat walk_at "s"
    refine r_cut (Mid := fun σ' H' => ∃ hs : List Int, σ' = [some (.ref a), some (.ref h), none, none, none, none, none, none, none, none, none, none] ∧ At H [(h, .lst (hs.map V.int))] H' ∧ hs.length = ns.length + 2 ∧ (∀ x ∈ hs, -1000000 ≤ x ∧ x ≤ 1000000)) ?_ ?_
    · repeat walk_at "s"
      rename_i c1 d1 H2 A2 hd0 hd1
      refine r_ifD (fun c => ?_) (fun c => ?_)
      · repeat walk_at "s"
        refine r_mkT A2 (by show 5 ≤ 10000000; decide) (fun t H3 A3 => ?_)
        repeat walk_at "s"
        rename_i c3 d3 H4 A4 hd30 hd31
        refine r_ixTI (ns := [-1, 0, 1, -500, 777]) (A4.sto (by walk_at "mem")) (by show -(5 : Int) ≤ _; omega) (by show _ < (5 : Int); omega) ?_
        have hm : -500 ≤ gz [-1, 0, 1, -500, 777] d3 ∧ gz [-1, 0, 1, -500, 777] d3 ≤ 777 := (by decide : ∀ x ∈ ([-1, 0, 1, -500, 777] : List Int), -500 ≤ x ∧ x ≤ 777) _ (EM.gz_mem (by show -(5 : Int) ≤ _; omega) (by show _ < (5 : Int); omega))
        generalize gz [-1, 0, 1, -500, 777] d3 = z at hm ⊢
        repeat walk_at "s"
        have A5 : At H [(h, .lst (hs0.map V.int))] H4 := A4.sub (by simp)
        refine r_setLI A5 (by decide) (by omega) (fun H6 A6 => ?_)
        refine ⟨_, rfl, A6, by rw [List.length_set]; exact hl0, fun x hx => ?_⟩
        rcases List.mem_or_eq_of_mem_set hx with hx | rfl
        · have := HH.bd x hx
          omega
        · have h1 := HH.hd
          have h2 : gz hs0 0 = hs0.getD 0 0 := gz_nat (k := 0)
          rw [h2]
          omega
      · repeat walk_at "s"
        exact ⟨hs0, rfl, A2, hl0, fun x hx => by have := HH.bd x hx; omega⟩
    clear A1 HH hh hl0
    rintro σ' H2 ⟨hs, rfl, A2, hl, hbd⟩
    have hh2 : SqL K H2 h (hs.map V.int) := A2.sqo (by walk_at "mem")
    have ha2 := A2.sq ha
    clear A2 ha
    have A2 := At.nil H2
    repeat walk_at "s"
    refine ⟨a, ns, hs.length, rfl, ha2, hn, by omega, fun ts b H3 hT s3 n3 hb0 => ?_⟩
    obtain ⟨htl, ht⟩ := hT
    have htl' : ts.length = hs.length := by omega
    have hh3 := s3.seq hh2
    have ha3 := s3.seq ha2
    clear A2 hh2 ha2
    repeat walk_at "s"
    refine use_Ring hh3 (by omega) (by omega) hbd (fun r H4 s4 n4 R4 => ?_)
    have hh4 := s4.seq hh3
    have ha4 := s4.seq ha3
    have hb4 := s4 _ _ hb0
    have hbq4 : SqL K H4 b (ts.map V.int) := SqL.of hb4
    clear hh3 ha3 hb0 s3 s4
    have A4 := At.nil H4
    repeat walk_at "s"
    refine r_rng1 (n := 3) rfl (by decide) ?_
    refine r_forItr (fun i σ H' => ∃ (v4 v5 : Option V), σ = [some (.ref a), some (.ref h), some (.ref b), some (.ref r), v4, v5, none, none, none, none, none, none] ∧ At H4 [] H') ⟨none, none, rfl, A4⟩ ?_ ?_
    · clear A4
      rintro i σ H5 N hi ⟨v4, v5, rfl, A5⟩ hN
      repeat walk_at "s"
      refine ⟨h, b, r, hs, ts, _, rfl, A5.sq hh4, ⟨_, A5.ex _ _ hb4, rfl⟩, R4.mono A5.ex, htl', by omega, by omega, hbd, ht, fun H6 s6 => ?_⟩
      have A6 := A5.same s6
      clear A5 s6
      repeat walk_at "s"
      refine ⟨h, r, hs, _, rfl, A6.sq hh4, R4.mono A6.ex, by omega, by omega, hbd, fun H7 s7 => ?_⟩
      have A7 := A6.same s7
      clear A6 s7
      repeat walk_at "s"
      exact hN _ _ ⟨_, _, rfl, A7⟩
    rintro σ H5 ⟨v4, v5, rfl, A5⟩
    have hh5 := A5.sq hh4
    have hb5 := A5.sq hbq4
    have R5 := R4.mono A5.ex
    clear A5 A4 hh4 ha4 hb4 hbq4 R4
    have A5 := At.nil H5
    repeat walk_at "s"
    refine r_mk3 0 0 0 A5 (fun z1 H6 A6 => ?_)
    repeat walk_at "s"
    refine use_Ring (hs := [0, 0, 0]) (A6.sqo (by walk_at "mem")) (by decide) (by decide) (by decide) (fun st H7 s7 n7 RS => ?_)
    have A7 := A6.same s7
    have hh7 := A7.sq hh5
    have hb7 := A7.sq hb5
    have R7 := R5.mono A7.ex
    clear A5 A6 A7 s7 hh5 hb5 R5
    have A7 := At.nil H7
    repeat walk_at "s"
    refine r_mk3 0 0 0 A7 (fun nt H8 A8 => ?_)
    repeat walk_at "s"
    refine r_mk3 0 1 2 A8 (fun p1 H9 A9 => ?_)
    repeat walk_at "s"
    refine r_mkP A9 (fun t1 H10 A10 => ?_)
    repeat walk_at "s"
    refine r_mk3 2 1 0 A10 (fun p2 H11 A11 => ?_)
    repeat walk_at "s"
    refine r_mkP A11 (fun t2 H12 A12 => ?_)
    repeat walk_at "s"
    refine r_mk3 0 1 1 A12 (fun p3 H13 A13 => ?_)
    repeat walk_at "s"
    refine r_mkP A13 (fun t3 H14 A14 => ?_)
    repeat walk_at "s"
    refine r_mk3 5 5 5 A14 (fun p4 H15 A15 => ?_)
    repeat walk_at "s"
    refine r_mkP A15 (fun t4 H16 A16 => ?_)
    repeat walk_at "s"
    refine r_mk3 0 0 2 A16 (fun p5 H17 A17 => ?_)
    repeat walk_at "s"
    refine r_mkP A17 (fun t5 H18 A18 => ?_)
    repeat walk_at "s"
    refine r_mkL A18 (by show 5 ≤ 10000000; decide) (fun sm H19 A19 => ?_)
    clear A7 A8 A9 A10 A11 A12 A13 A14 A15 A16 A17 A18
    have hz : ∀ (j : Nat) (x : V), ([V.ref t1, V.ref t2, V.ref t3, V.ref t4, V.ref t5] : List V)[j]? = some x → ∃ (t p : Addr) (ps : List Int) (d : Bool), x = .ref t ∧ SqT K H19 t [V.ref p, V.bl d] ∧ SqL K H19 p (ps.map V.int) ∧ EM.showB [0, 0, 0] [1, 1, 1] [0, 0, 0] ps = d := fun j x hx => by
      match j, hx with
      | 0, h => exact ⟨t1, p1, [0, 1, 2], false, (Option.some.inj h).symm, A19.sto (by simp), A19.sqo (by simp), by decide +kernel⟩
      | 1, h => exact ⟨t2, p2, [2, 1, 0], false, (Option.some.inj h).symm, A19.sto (by simp), A19.sqo (by simp), by decide +kernel⟩
      | 2, h => exact ⟨t3, p3, [0, 1, 1], true, (Option.some.inj h).symm, A19.sto (by simp), A19.sqo (by simp), by decide +kernel⟩
      | 3, h => exact ⟨t4, p4, [5, 5, 5], true, (Option.some.inj h).symm, A19.sto (by simp), A19.sqo (by simp), by decide +kernel⟩
      | 4, h => exact ⟨t5, p5, [0, 0, 2], false, (Option.some.inj h).symm, A19.sto (by simp), A19.sqo (by simp), by decide +kernel⟩
      | n + 5, h => exact nomatch h
    have hsm : SqL K H19 sm [.ref t1, .ref t2, .ref t3, .ref t4, .ref t5] := A19.sqo (by walk_at "mem")
    have hnt : SqL K H19 nt (([0, 0, 0] : List Int).map V.int) := A19.sqo (by simp)
    have hh19 := A19.sq hh7
    have hb19 := A19.sq hb7
    have R19 := R7.mono A19.ex
    have RS19 := RS.mono A19.ex
    clear A19 hh7 hb7 R7 RS
    have A19 := At.nil H19
    repeat walk_at "s"
    refine r_forItl [.ref t1, .ref t2, .ref t3, .ref t4, .ref t5] (fun i σ H' => ∃ (v9 v10 : Option V), σ = [some (.ref a), some (.ref h), some (.ref b), some (.ref r), v4, v5, some (.ref st), some (.ref nt), some (.ref sm), v9, v10, none] ∧ At H19 [] H') ⟨none, none, rfl, A19⟩ (fun _ σ H' _ ⟨_, _, _, A'⟩ => A'.sq hsm) ?_ ?_
    · clear A19
      rintro j x σ H20 N2 hx ⟨v9, v10, rfl, A20⟩ hN2
      obtain ⟨t, p, ps, d, rfl, ht', hp, hd⟩ := hz j x hx
      refine r_gTup2 (A20.st ht') ?_
      repeat walk_at "s"
      refine use_Even (A20.sq hnt) (A20.sq hp) (fun w l1 l2 H21 s21 _ _ _ _ EV => ?_)
      obtain ⟨dw, hw, _, _⟩ := id EV
      have A21 := A20.same s21
      clear A20 s21
      repeat walk_at "s"
      refine r_mk3 1 1 1 (At.nil H21) (fun o1 H22 B22 => ?_)
      have A22 := A21.same B22.ex
      clear A21
      repeat walk_at "s"
      refine use_Eshows (hs := [0, 0, 0]) (ts := [1, 1, 1]) A22 (EV.mono B22.ex) (RS19.mono A22.ex) (B22.sqo (by walk_at "mem")) (by decide) (by decide) (by decide) (by decide) (fun H23 A23 => ?_)
      clear A22
      repeat walk_at "s"
      exact hN2 _ _ ⟨_, _, rfl, A23⟩
    rintro σ H20 ⟨v9, v10, rfl, A20⟩
    repeat walk_at "s"
    refine r_mkT A20 (by show 5 ≤ 10000000; decide) (fun tt H21 A21 => ?_)
    have xt := A21.sto (K := K) (p := tt) (by walk_at "mem")
    have hh21 := A21.sq hh19
    have hb21 := A21.sq hb19
    have R21 := R19.mono A21.ex
    clear A19 A20 A21 hh19 hb19 R19
    repeat walk_at "s"
    refine r_forItt _ (fun _ σ H' => ∃ (v : Option V), σ = [some (.ref a), some (.ref h), some (.ref b), some (.ref r), v4, v5, some (.ref st), some (.ref nt), some (.ref sm), v9, v10, v] ∧ At H21 [] H') ⟨none, rfl, At.nil H21⟩ (fun _ σ H' _ ⟨_, _, A'⟩ => A'.st xt) ?_ ?_
    · rintro j x σ H22 N2 hx ⟨v, rfl, A22⟩ hN2
      have hz : ∃ bd : Int, x = .int bd := by
        match j, hx with
        | 0, h => exact ⟨_, (Option.some.inj h).symm⟩
        | 1, h => exact ⟨_, (Option.some.inj h).symm⟩
        | 2, h => exact ⟨_, (Option.some.inj h).symm⟩
        | 3, h => exact ⟨_, (Option.some.inj h).symm⟩
        | 4, h => exact ⟨_, (Option.some.inj h).symm⟩
        | n + 5, h => exact nomatch h
      obtain ⟨bd, rfl⟩ := hz
      clear xt hx
      repeat walk_at "s"
      refine use_Uneven (fun w H23 s23 _ U => ?_)
      obtain ⟨dw, hw⟩ := id U
      have A23 := A22.same s23
      clear A22 s23
      repeat walk_at "s"
      refine ⟨w, r, _, hs, bd, rfl, U, R21.mono A23.ex, ?_⟩
      repeat walk_at "s"
      refine r_ifND (fun e => ?_) (fun e => ?_)
      · repeat walk_at "s"
        refine use_says (by rw [decide_eq_false e]; rfl) ?_
        repeat walk_at "s"
        exact hN2 _ _ ⟨_, rfl, A23⟩
      · repeat walk_at "s"
        refine use_says (by rw [decide_eq_true e]; rfl) ?_
        repeat walk_at "s"
        exact hN2 _ _ ⟨_, rfl, A23⟩
    · rintro σ H22 ⟨v, rfl, A22⟩
      repeat walk_at "s"
      refine use_houses (R21.mono A22.ex) (fun q14 H14 s14 n14 hq14 => ?_)
      have A14 := A22.made s14 n14 hq14
      clear s14
      repeat walk_at "s"
      rw [decide_eq_true rfl]
      exact k _

end
theorem all_mk {l : PySem.W.OpenLaw} {w : World} {K : PySem.W.Frag} {h : Heap} {mg : Str → Option Value} {fa : Addr} (X : K.In h) (G : h.Ns mainGlobals mg) (hfa : mg "law" = some (.ref fa))
    {tk_GREATEST_rings : Tok}
    {tk_GREATEST_carrying : Tok}
    {c_Answer : Addr}
    {c_Even : Addr}
    {c_Uneven : Addr}
    {c_Within : Addr}
    {c_Stretch : Addr}
    {c_RingError : Addr}
    {c_BadRing : Addr}
    {c_BadTolls : Addr}
    {c_Ring : Addr}
    {f_is_evening : Addr} {od_is_evening an_is_evening : Option Addr} {sl_is_evening : Array (Option Value)} {oc_is_evening kV_is_evening dc_is_evening pm_is_evening cd_is_evening ct_is_evening : Value}
    {f_cost_of : Addr} {od_cost_of an_cost_of : Option Addr} {sl_cost_of : Array (Option Value)} {oc_cost_of kV_cost_of dc_cost_of pm_cost_of cd_cost_of ct_cost_of : Value}
    {f_Even_init : Addr} {od_Even_init an_Even_init : Option Addr} {sl_Even_init : Array (Option Value)} {oc_Even_init kV_Even_init dc_Even_init pm_Even_init cd_Even_init ct_Even_init : Value}
    {f_Even_evens : Addr} {od_Even_evens an_Even_evens : Option Addr} {sl_Even_evens : Array (Option Value)} {oc_Even_evens kV_Even_evens dc_Even_evens pm_Even_evens cd_Even_evens ct_Even_evens : Value}
    {f_Even_shows : Addr} {od_Even_shows an_Even_shows : Option Addr} {sl_Even_shows : Array (Option Value)} {oc_Even_shows kV_Even_shows dc_Even_shows pm_Even_shows cd_Even_shows ct_Even_shows : Value}
    {f_Uneven_init : Addr} {od_Uneven_init an_Uneven_init : Option Addr} {sl_Uneven_init : Array (Option Value)} {oc_Uneven_init kV_Uneven_init dc_Uneven_init pm_Uneven_init cd_Uneven_init ct_Uneven_init : Value}
    {f_Uneven_shows : Addr} {od_Uneven_shows an_Uneven_shows : Option Addr} {sl_Uneven_shows : Array (Option Value)} {oc_Uneven_shows kV_Uneven_shows dc_Uneven_shows pm_Uneven_shows cd_Uneven_shows ct_Uneven_shows : Value}
    {f_Within_init : Addr} {od_Within_init an_Within_init : Option Addr} {sl_Within_init : Array (Option Value)} {oc_Within_init kV_Within_init dc_Within_init pm_Within_init cd_Within_init ct_Within_init : Value}
    {f_Within_shows : Addr} {od_Within_shows an_Within_shows : Option Addr} {sl_Within_shows : Array (Option Value)} {oc_Within_shows kV_Within_shows dc_Within_shows pm_Within_shows cd_Within_shows ct_Within_shows : Value}
    {f_Stretch_init : Addr} {od_Stretch_init an_Stretch_init : Option Addr} {sl_Stretch_init : Array (Option Value)} {oc_Stretch_init kV_Stretch_init dc_Stretch_init pm_Stretch_init cd_Stretch_init ct_Stretch_init : Value}
    {f_Stretch_shows : Addr} {od_Stretch_shows an_Stretch_shows : Option Addr} {sl_Stretch_shows : Array (Option Value)} {oc_Stretch_shows kV_Stretch_shows dc_Stretch_shows pm_Stretch_shows cd_Stretch_shows ct_Stretch_shows : Value}
    {f_is_whole : Addr} {od_is_whole an_is_whole : Option Addr} {sl_is_whole : Array (Option Value)} {oc_is_whole kV_is_whole dc_is_whole pm_is_whole cd_is_whole ct_is_whole : Value}
    {f_is_house : Addr} {od_is_house an_is_house : Option Addr} {sl_is_house : Array (Option Value)} {oc_is_house kV_is_house dc_is_house pm_is_house cd_is_house ct_is_house : Value}
    {f_Ring_init : Addr} {od_Ring_init an_Ring_init : Option Addr} {sl_Ring_init : Array (Option Value)} {oc_Ring_init kV_Ring_init dc_Ring_init pm_Ring_init cd_Ring_init ct_Ring_init : Value}
    {f_Ring_houses : Addr} {od_Ring_houses an_Ring_houses : Option Addr} {sl_Ring_houses : Array (Option Value)} {oc_Ring_houses kV_Ring_houses dc_Ring_houses pm_Ring_houses cd_Ring_houses ct_Ring_houses : Value}
    {f_Ring_whole : Addr} {od_Ring_whole an_Ring_whole : Option Addr} {sl_Ring_whole : Array (Option Value)} {oc_Ring_whole kV_Ring_whole dc_Ring_whole pm_Ring_whole cd_Ring_whole ct_Ring_whole : Value}
    {f_check_tolls : Addr} {od_check_tolls an_check_tolls : Option Addr} {sl_check_tolls : Array (Option Value)} {oc_check_tolls kV_check_tolls dc_check_tolls pm_check_tolls cd_check_tolls ct_check_tolls : Value}
    {f_running : Addr} {od_running an_running : Option Addr} {sl_running : Array (Option Value)} {oc_running kV_running dc_running pm_running cd_running ct_running : Value}
    {f_middles : Addr} {od_middles an_middles : Option Addr} {sl_middles : Array (Option Value)} {oc_middles kV_middles dc_middles pm_middles cd_middles ct_middles : Value}
    {f_steps_of : Addr} {od_steps_of an_steps_of : Option Addr} {sl_steps_of : Array (Option Value)} {oc_steps_of kV_steps_of dc_steps_of pm_steps_of cd_steps_of ct_steps_of : Value}
    {f_prices_of : Addr} {od_prices_of an_prices_of : Option Addr} {sl_prices_of : Array (Option Value)} {oc_prices_of kV_prices_of dc_prices_of pm_prices_of cd_prices_of ct_prices_of : Value}
    {f_least : Addr} {od_least an_least : Option Addr} {sl_least : Array (Option Value)} {oc_least kV_least dc_least pm_least cd_least ct_least : Value}
    {f_law_cell_at : Addr} {od_law_cell_at an_law_cell_at : Option Addr} {sl_law_cell_at : Array (Option Value)} {oc_law_cell_at kV_law_cell_at dc_law_cell_at pm_law_cell_at cd_law_cell_at ct_law_cell_at : Value}
    {f_law_draw : Addr} {od_law_draw an_law_draw : Option Addr} {sl_law_draw : Array (Option Value)} {oc_law_draw kV_law_draw dc_law_draw pm_law_draw cd_law_draw ct_law_draw : Value}
    {f_law_houses : Addr} {od_law_houses an_law_houses : Option Addr} {sl_law_houses : Array (Option Value)} {oc_law_houses kV_law_houses dc_law_houses pm_law_houses cd_law_houses ct_law_houses : Value}
    {f_law_tolls : Addr} {od_law_tolls an_law_tolls : Option Addr} {sl_law_tolls : Array (Option Value)} {oc_law_tolls kV_law_tolls dc_law_tolls pm_law_tolls cd_law_tolls ct_law_tolls : Value}
    {f_law_evened : Addr} {od_law_evened an_law_evened : Option Addr} {sl_law_evened : Array (Option Value)} {oc_law_evened kV_law_evened dc_law_evened pm_law_evened cd_law_evened ct_law_evened : Value}
    {f_law_cost : Addr} {od_law_cost an_law_cost : Option Addr} {sl_law_cost : Array (Option Value)} {oc_law_cost kV_law_cost dc_law_cost pm_law_cost cd_law_cost ct_law_cost : Value}
    {f_law_priced : Addr} {od_law_priced an_law_priced : Option Addr} {sl_law_priced : Array (Option Value)} {oc_law_priced kV_law_priced dc_law_priced pm_law_priced cd_law_priced ct_law_priced : Value}
    {f_law_says : Addr} {od_law_says an_law_says : Option Addr} {sl_law_says : Array (Option Value)} {oc_law_says kV_law_says dc_law_says pm_law_says cd_law_says ct_law_says : Value}
    {f_law_bent : Addr} {od_law_bent an_law_bent : Option Addr} {sl_law_bent : Array (Option Value)} {oc_law_bent kV_law_bent dc_law_bent pm_law_bent cd_law_bent ct_law_bent : Value}
    {f_law_even_right : Addr} {od_law_even_right an_law_even_right : Option Addr} {sl_law_even_right : Array (Option Value)} {oc_law_even_right kV_law_even_right dc_law_even_right pm_law_even_right cd_law_even_right ct_law_even_right : Value}
    {f_law_bounds_right : Addr} {od_law_bounds_right an_law_bounds_right : Option Addr} {sl_law_bounds_right : Array (Option Value)} {oc_law_bounds_right kV_law_bounds_right dc_law_bounds_right pm_law_bounds_right cd_law_bounds_right ct_law_bounds_right : Value}
    {f_law : Addr} {od_law an_law : Option Addr} {sl_law : Array (Option Value)} {oc_law kV_law dc_law pm_law cd_law ct_law : Value}
    (z_abs : PySem.W.nsIn K mainGlobals "abs" = some none)
    (z_all : PySem.W.nsIn K mainGlobals "all" = some none)
    (z_any : PySem.W.nsIn K mainGlobals "any" = some none)
    (z_bool : PySem.W.nsIn K mainGlobals "bool" = some none)
    (z_int : PySem.W.nsIn K mainGlobals "int" = some none)
    (z_isinstance : PySem.W.nsIn K mainGlobals "isinstance" = some none)
    (z_len : PySem.W.nsIn K mainGlobals "len" = some none)
    (z_list : PySem.W.nsIn K mainGlobals "list" = some none)
    (z_max : PySem.W.nsIn K mainGlobals "max" = some none)
    (z_min : PySem.W.nsIn K mainGlobals "min" = some none)
    (z_range : PySem.W.nsIn K mainGlobals "range" = some none)
    (z_sorted : PySem.W.nsIn K mainGlobals "sorted" = some none)
    (z_sum : PySem.W.nsIn K mainGlobals "sum" = some none)
    (z_zip : PySem.W.nsIn K mainGlobals "zip" = some none)
    (y_GREATEST_rings : PySem.W.nsIn K mainGlobals "GREATEST_rings" = some (some (.int 1000000 tk_GREATEST_rings)))
    (y_GREATEST_carrying : PySem.W.nsIn K mainGlobals "GREATEST_carrying" = some (some (.int 1000 tk_GREATEST_carrying)))
    (a_Answer : PySem.W.nsIn K mainGlobals "Answer" = some (some (.ref c_Answer)))
    (pg_Answer : PySem.W.plainGet K c_Answer Str.empty = true)
    (hd_Answer : PySem.W.hasDictIn K c_Answer = true)
    (po_Answer : PySem.W.plainOver K c_Answer = true)
    (sa_Answer : PySem.W.findIn K (.ref c_Answer) "__setattr__" = some (some (.builtin "object.__setattr__")))
    (ia_Answer : PySem.W.findIn K (.ref c_Answer) "__class__" = some (some (.builtin "object.__class__")))
    (ib_Answer : PySem.W.specialIn K (.builtin "object.__class__") "__get__" = some (some (.builtin "getset_descriptor.__get__")))
    (ic_Answer : PySem.W.takesIn K (.builtin "object.__class__") = some true)
    (id_Answer : PySem.W.mroIn K c_Answer (.type "object") = some true)
    (a_Even : PySem.W.nsIn K mainGlobals "Even" = some (some (.ref c_Even)))
    (pg_Even : PySem.W.plainGet K c_Even Str.empty = true)
    (hd_Even : PySem.W.hasDictIn K c_Even = true)
    (po_Even : PySem.W.plainOver K c_Even = true)
    (sa_Even : PySem.W.findIn K (.ref c_Even) "__setattr__" = some (some (.builtin "object.__setattr__")))
    (no_Even_carried : PySem.W.findIn K (.ref c_Even) "carried" = some none)
    (no_Even_prices : PySem.W.findIn K (.ref c_Even) "prices" = some none)
    (ia_Even : PySem.W.findIn K (.ref c_Even) "__class__" = some (some (.builtin "object.__class__")))
    (ib_Even : PySem.W.specialIn K (.builtin "object.__class__") "__get__" = some (some (.builtin "getset_descriptor.__get__")))
    (ic_Even : PySem.W.takesIn K (.builtin "object.__class__") = some true)
    (id_Even : PySem.W.mroIn K c_Even (.type "object") = some true)
    (a_Uneven : PySem.W.nsIn K mainGlobals "Uneven" = some (some (.ref c_Uneven)))
    (pg_Uneven : PySem.W.plainGet K c_Uneven Str.empty = true)
    (hd_Uneven : PySem.W.hasDictIn K c_Uneven = true)
    (po_Uneven : PySem.W.plainOver K c_Uneven = true)
    (sa_Uneven : PySem.W.findIn K (.ref c_Uneven) "__setattr__" = some (some (.builtin "object.__setattr__")))
    (no_Uneven_total : PySem.W.findIn K (.ref c_Uneven) "total" = some none)
    (ia_Uneven : PySem.W.findIn K (.ref c_Uneven) "__class__" = some (some (.builtin "object.__class__")))
    (ib_Uneven : PySem.W.specialIn K (.builtin "object.__class__") "__get__" = some (some (.builtin "getset_descriptor.__get__")))
    (ic_Uneven : PySem.W.takesIn K (.builtin "object.__class__") = some true)
    (id_Uneven : PySem.W.mroIn K c_Uneven (.type "object") = some true)
    (a_Within : PySem.W.nsIn K mainGlobals "Within" = some (some (.ref c_Within)))
    (pg_Within : PySem.W.plainGet K c_Within Str.empty = true)
    (hd_Within : PySem.W.hasDictIn K c_Within = true)
    (po_Within : PySem.W.plainOver K c_Within = true)
    (sa_Within : PySem.W.findIn K (.ref c_Within) "__setattr__" = some (some (.builtin "object.__setattr__")))
    (no_Within_carried : PySem.W.findIn K (.ref c_Within) "carried" = some none)
    (ia_Within : PySem.W.findIn K (.ref c_Within) "__class__" = some (some (.builtin "object.__class__")))
    (ib_Within : PySem.W.specialIn K (.builtin "object.__class__") "__get__" = some (some (.builtin "getset_descriptor.__get__")))
    (ic_Within : PySem.W.takesIn K (.builtin "object.__class__") = some true)
    (id_Within : PySem.W.mroIn K c_Within (.type "object") = some true)
    (a_Stretch : PySem.W.nsIn K mainGlobals "Stretch" = some (some (.ref c_Stretch)))
    (pg_Stretch : PySem.W.plainGet K c_Stretch Str.empty = true)
    (hd_Stretch : PySem.W.hasDictIn K c_Stretch = true)
    (po_Stretch : PySem.W.plainOver K c_Stretch = true)
    (sa_Stretch : PySem.W.findIn K (.ref c_Stretch) "__setattr__" = some (some (.builtin "object.__setattr__")))
    (no_Stretch_first : PySem.W.findIn K (.ref c_Stretch) "first" = some none)
    (no_Stretch_many : PySem.W.findIn K (.ref c_Stretch) "many" = some none)
    (ia_Stretch : PySem.W.findIn K (.ref c_Stretch) "__class__" = some (some (.builtin "object.__class__")))
    (ib_Stretch : PySem.W.specialIn K (.builtin "object.__class__") "__get__" = some (some (.builtin "getset_descriptor.__get__")))
    (ic_Stretch : PySem.W.takesIn K (.builtin "object.__class__") = some true)
    (id_Stretch : PySem.W.mroIn K c_Stretch (.type "object") = some true)
    (a_RingError : PySem.W.nsIn K mainGlobals "RingError" = some (some (.ref c_RingError)))
    (a_BadRing : PySem.W.nsIn K mainGlobals "BadRing" = some (some (.ref c_BadRing)))
    (a_BadTolls : PySem.W.nsIn K mainGlobals "BadTolls" = some (some (.ref c_BadTolls)))
    (a_Ring : PySem.W.nsIn K mainGlobals "Ring" = some (some (.ref c_Ring)))
    (pg_Ring : PySem.W.plainGet K c_Ring Str.empty = true)
    (hd_Ring : PySem.W.hasDictIn K c_Ring = true)
    (po_Ring : PySem.W.plainOver K c_Ring = true)
    (sa_Ring : PySem.W.findIn K (.ref c_Ring) "__setattr__" = some (some (.builtin "object.__setattr__")))
    (no_Ring_over : PySem.W.findIn K (.ref c_Ring) "over" = some none)
    (ia_Ring : PySem.W.findIn K (.ref c_Ring) "__class__" = some (some (.builtin "object.__class__")))
    (ib_Ring : PySem.W.specialIn K (.builtin "object.__class__") "__get__" = some (some (.builtin "getset_descriptor.__get__")))
    (ic_Ring : PySem.W.takesIn K (.builtin "object.__class__") = some true)
    (id_Ring : PySem.W.mroIn K c_Ring (.type "object") = some true)
    (kit_Even_Uneven : PySem.W.kitOne K (.ref c_Even) (.ref c_Uneven) = some false)
    (kit_Uneven_Uneven : PySem.W.kitOne K (.ref c_Uneven) (.ref c_Uneven) = some true)
    (a_is_evening : PySem.W.nsIn K mainGlobals "is_evening" = some (some (.ref f_is_evening)))
    (l_is_evening : K.lookup f_is_evening = some ⟨oc_is_evening, od_is_evening, .func (PySem.W.fnOf "is_evening" "is_evening" (defArgs s_is_evening) (defBody s_is_evening) (defScope s_is_evening) .none kV_is_evening dc_is_evening pm_is_evening an_is_evening cd_is_evening ct_is_evening), sl_is_evening⟩)
    (c_is_evening_ : PySem.W.codeIn K cd_is_evening "is_evening" = true)
    (k_is_evening_ : PySem.W.keepIn K (.ref f_is_evening) = true)
    (a_cost_of : PySem.W.nsIn K mainGlobals "cost_of" = some (some (.ref f_cost_of)))
    (l_cost_of : K.lookup f_cost_of = some ⟨oc_cost_of, od_cost_of, .func (PySem.W.fnOf "cost_of" "cost_of" (defArgs s_cost_of) (defBody s_cost_of) (defScope s_cost_of) .none kV_cost_of dc_cost_of pm_cost_of an_cost_of cd_cost_of ct_cost_of), sl_cost_of⟩)
    (c_cost_of_ : PySem.W.codeIn K cd_cost_of "cost_of" = true)
    (k_cost_of_ : PySem.W.keepIn K (.ref f_cost_of) = true)
    (a_Even_init : PySem.W.findIn K (.ref c_Even) "__init__" = some (some (.ref f_Even_init)))
    (i_Even_init : PySem.W.isFn K (.ref f_Even_init) = true)
    (l_Even_init : K.lookup f_Even_init = some ⟨oc_Even_init, od_Even_init, .func (PySem.W.fnOf "__init__" "Even.__init__" (defArgs s_Even_init) (defBody s_Even_init) (defScope s_Even_init) .none kV_Even_init dc_Even_init pm_Even_init an_Even_init cd_Even_init ct_Even_init), sl_Even_init⟩)
    (c_Even_init_ : PySem.W.codeIn K cd_Even_init "Even.__init__" = true)
    (k_Even_init_ : PySem.W.keepIn K (.ref f_Even_init) = true)
    (mk_Even : PySem.W.makesIn K c_Even = true)
    (kp_Even : PySem.W.keepIn K (.ref c_Even) = true)
    (a_Even_evens : PySem.W.findIn K (.ref c_Even) "evens" = some (some (.ref f_Even_evens)))
    (i_Even_evens : PySem.W.isFn K (.ref f_Even_evens) = true)
    (l_Even_evens : K.lookup f_Even_evens = some ⟨oc_Even_evens, od_Even_evens, .func (PySem.W.fnOf "evens" "Even.evens" (defArgs s_Even_evens) (defBody s_Even_evens) (defScope s_Even_evens) .none kV_Even_evens dc_Even_evens pm_Even_evens an_Even_evens cd_Even_evens ct_Even_evens), sl_Even_evens⟩)
    (c_Even_evens_ : PySem.W.codeIn K cd_Even_evens "Even.evens" = true)
    (k_Even_evens_ : PySem.W.keepIn K (.ref f_Even_evens) = true)
    (a_Even_shows : PySem.W.findIn K (.ref c_Even) "shows" = some (some (.ref f_Even_shows)))
    (i_Even_shows : PySem.W.isFn K (.ref f_Even_shows) = true)
    (l_Even_shows : K.lookup f_Even_shows = some ⟨oc_Even_shows, od_Even_shows, .func (PySem.W.fnOf "shows" "Even.shows" (defArgs s_Even_shows) (defBody s_Even_shows) (defScope s_Even_shows) .none kV_Even_shows dc_Even_shows pm_Even_shows an_Even_shows cd_Even_shows ct_Even_shows), sl_Even_shows⟩)
    (c_Even_shows_ : PySem.W.codeIn K cd_Even_shows "Even.shows" = true)
    (k_Even_shows_ : PySem.W.keepIn K (.ref f_Even_shows) = true)
    (a_Uneven_init : PySem.W.findIn K (.ref c_Uneven) "__init__" = some (some (.ref f_Uneven_init)))
    (i_Uneven_init : PySem.W.isFn K (.ref f_Uneven_init) = true)
    (l_Uneven_init : K.lookup f_Uneven_init = some ⟨oc_Uneven_init, od_Uneven_init, .func (PySem.W.fnOf "__init__" "Uneven.__init__" (defArgs s_Uneven_init) (defBody s_Uneven_init) (defScope s_Uneven_init) .none kV_Uneven_init dc_Uneven_init pm_Uneven_init an_Uneven_init cd_Uneven_init ct_Uneven_init), sl_Uneven_init⟩)
    (c_Uneven_init_ : PySem.W.codeIn K cd_Uneven_init "Uneven.__init__" = true)
    (k_Uneven_init_ : PySem.W.keepIn K (.ref f_Uneven_init) = true)
    (mk_Uneven : PySem.W.makesIn K c_Uneven = true)
    (kp_Uneven : PySem.W.keepIn K (.ref c_Uneven) = true)
    (a_Uneven_shows : PySem.W.findIn K (.ref c_Uneven) "shows" = some (some (.ref f_Uneven_shows)))
    (i_Uneven_shows : PySem.W.isFn K (.ref f_Uneven_shows) = true)
    (l_Uneven_shows : K.lookup f_Uneven_shows = some ⟨oc_Uneven_shows, od_Uneven_shows, .func (PySem.W.fnOf "shows" "Uneven.shows" (defArgs s_Uneven_shows) (defBody s_Uneven_shows) (defScope s_Uneven_shows) .none kV_Uneven_shows dc_Uneven_shows pm_Uneven_shows an_Uneven_shows cd_Uneven_shows ct_Uneven_shows), sl_Uneven_shows⟩)
    (c_Uneven_shows_ : PySem.W.codeIn K cd_Uneven_shows "Uneven.shows" = true)
    (k_Uneven_shows_ : PySem.W.keepIn K (.ref f_Uneven_shows) = true)
    (a_Within_init : PySem.W.findIn K (.ref c_Within) "__init__" = some (some (.ref f_Within_init)))
    (i_Within_init : PySem.W.isFn K (.ref f_Within_init) = true)
    (l_Within_init : K.lookup f_Within_init = some ⟨oc_Within_init, od_Within_init, .func (PySem.W.fnOf "__init__" "Within.__init__" (defArgs s_Within_init) (defBody s_Within_init) (defScope s_Within_init) .none kV_Within_init dc_Within_init pm_Within_init an_Within_init cd_Within_init ct_Within_init), sl_Within_init⟩)
    (c_Within_init_ : PySem.W.codeIn K cd_Within_init "Within.__init__" = true)
    (k_Within_init_ : PySem.W.keepIn K (.ref f_Within_init) = true)
    (mk_Within : PySem.W.makesIn K c_Within = true)
    (kp_Within : PySem.W.keepIn K (.ref c_Within) = true)
    (a_Within_shows : PySem.W.findIn K (.ref c_Within) "shows" = some (some (.ref f_Within_shows)))
    (i_Within_shows : PySem.W.isFn K (.ref f_Within_shows) = true)
    (l_Within_shows : K.lookup f_Within_shows = some ⟨oc_Within_shows, od_Within_shows, .func (PySem.W.fnOf "shows" "Within.shows" (defArgs s_Within_shows) (defBody s_Within_shows) (defScope s_Within_shows) .none kV_Within_shows dc_Within_shows pm_Within_shows an_Within_shows cd_Within_shows ct_Within_shows), sl_Within_shows⟩)
    (c_Within_shows_ : PySem.W.codeIn K cd_Within_shows "Within.shows" = true)
    (k_Within_shows_ : PySem.W.keepIn K (.ref f_Within_shows) = true)
    (a_Stretch_init : PySem.W.findIn K (.ref c_Stretch) "__init__" = some (some (.ref f_Stretch_init)))
    (i_Stretch_init : PySem.W.isFn K (.ref f_Stretch_init) = true)
    (l_Stretch_init : K.lookup f_Stretch_init = some ⟨oc_Stretch_init, od_Stretch_init, .func (PySem.W.fnOf "__init__" "Stretch.__init__" (defArgs s_Stretch_init) (defBody s_Stretch_init) (defScope s_Stretch_init) .none kV_Stretch_init dc_Stretch_init pm_Stretch_init an_Stretch_init cd_Stretch_init ct_Stretch_init), sl_Stretch_init⟩)
    (c_Stretch_init_ : PySem.W.codeIn K cd_Stretch_init "Stretch.__init__" = true)
    (k_Stretch_init_ : PySem.W.keepIn K (.ref f_Stretch_init) = true)
    (mk_Stretch : PySem.W.makesIn K c_Stretch = true)
    (kp_Stretch : PySem.W.keepIn K (.ref c_Stretch) = true)
    (a_Stretch_shows : PySem.W.findIn K (.ref c_Stretch) "shows" = some (some (.ref f_Stretch_shows)))
    (i_Stretch_shows : PySem.W.isFn K (.ref f_Stretch_shows) = true)
    (l_Stretch_shows : K.lookup f_Stretch_shows = some ⟨oc_Stretch_shows, od_Stretch_shows, .func (PySem.W.fnOf "shows" "Stretch.shows" (defArgs s_Stretch_shows) (defBody s_Stretch_shows) (defScope s_Stretch_shows) .none kV_Stretch_shows dc_Stretch_shows pm_Stretch_shows an_Stretch_shows cd_Stretch_shows ct_Stretch_shows), sl_Stretch_shows⟩)
    (c_Stretch_shows_ : PySem.W.codeIn K cd_Stretch_shows "Stretch.shows" = true)
    (k_Stretch_shows_ : PySem.W.keepIn K (.ref f_Stretch_shows) = true)
    (a_is_whole : PySem.W.nsIn K mainGlobals "is_whole" = some (some (.ref f_is_whole)))
    (l_is_whole : K.lookup f_is_whole = some ⟨oc_is_whole, od_is_whole, .func (PySem.W.fnOf "is_whole" "is_whole" (defArgs s_is_whole) (defBody s_is_whole) (defScope s_is_whole) .none kV_is_whole dc_is_whole pm_is_whole an_is_whole cd_is_whole ct_is_whole), sl_is_whole⟩)
    (c_is_whole_ : PySem.W.codeIn K cd_is_whole "is_whole" = true)
    (k_is_whole_ : PySem.W.keepIn K (.ref f_is_whole) = true)
    (a_is_house : PySem.W.nsIn K mainGlobals "is_house" = some (some (.ref f_is_house)))
    (l_is_house : K.lookup f_is_house = some ⟨oc_is_house, od_is_house, .func (PySem.W.fnOf "is_house" "is_house" (defArgs s_is_house) (defBody s_is_house) (defScope s_is_house) .none kV_is_house dc_is_house pm_is_house an_is_house cd_is_house ct_is_house), sl_is_house⟩)
    (c_is_house_ : PySem.W.codeIn K cd_is_house "is_house" = true)
    (k_is_house_ : PySem.W.keepIn K (.ref f_is_house) = true)
    (a_Ring_init : PySem.W.findIn K (.ref c_Ring) "__init__" = some (some (.ref f_Ring_init)))
    (i_Ring_init : PySem.W.isFn K (.ref f_Ring_init) = true)
    (l_Ring_init : K.lookup f_Ring_init = some ⟨oc_Ring_init, od_Ring_init, .func (PySem.W.fnOf "__init__" "Ring.__init__" (defArgs s_Ring_init) (defBody s_Ring_init) (defScope s_Ring_init) .none kV_Ring_init dc_Ring_init pm_Ring_init an_Ring_init cd_Ring_init ct_Ring_init), sl_Ring_init⟩)
    (c_Ring_init_ : PySem.W.codeIn K cd_Ring_init "Ring.__init__" = true)
    (k_Ring_init_ : PySem.W.keepIn K (.ref f_Ring_init) = true)
    (mk_Ring : PySem.W.makesIn K c_Ring = true)
    (kp_Ring : PySem.W.keepIn K (.ref c_Ring) = true)
    (a_Ring_houses : PySem.W.findIn K (.ref c_Ring) "houses" = some (some (.ref f_Ring_houses)))
    (i_Ring_houses : PySem.W.isFn K (.ref f_Ring_houses) = true)
    (l_Ring_houses : K.lookup f_Ring_houses = some ⟨oc_Ring_houses, od_Ring_houses, .func (PySem.W.fnOf "houses" "Ring.houses" (defArgs s_Ring_houses) (defBody s_Ring_houses) (defScope s_Ring_houses) .none kV_Ring_houses dc_Ring_houses pm_Ring_houses an_Ring_houses cd_Ring_houses ct_Ring_houses), sl_Ring_houses⟩)
    (c_Ring_houses_ : PySem.W.codeIn K cd_Ring_houses "Ring.houses" = true)
    (k_Ring_houses_ : PySem.W.keepIn K (.ref f_Ring_houses) = true)
    (a_Ring_whole : PySem.W.findIn K (.ref c_Ring) "whole" = some (some (.ref f_Ring_whole)))
    (i_Ring_whole : PySem.W.isFn K (.ref f_Ring_whole) = true)
    (l_Ring_whole : K.lookup f_Ring_whole = some ⟨oc_Ring_whole, od_Ring_whole, .func (PySem.W.fnOf "whole" "Ring.whole" (defArgs s_Ring_whole) (defBody s_Ring_whole) (defScope s_Ring_whole) .none kV_Ring_whole dc_Ring_whole pm_Ring_whole an_Ring_whole cd_Ring_whole ct_Ring_whole), sl_Ring_whole⟩)
    (c_Ring_whole_ : PySem.W.codeIn K cd_Ring_whole "Ring.whole" = true)
    (k_Ring_whole_ : PySem.W.keepIn K (.ref f_Ring_whole) = true)
    (a_check_tolls : PySem.W.nsIn K mainGlobals "check_tolls" = some (some (.ref f_check_tolls)))
    (l_check_tolls : K.lookup f_check_tolls = some ⟨oc_check_tolls, od_check_tolls, .func (PySem.W.fnOf "check_tolls" "check_tolls" (defArgs s_check_tolls) (defBody s_check_tolls) (defScope s_check_tolls) .none kV_check_tolls dc_check_tolls pm_check_tolls an_check_tolls cd_check_tolls ct_check_tolls), sl_check_tolls⟩)
    (c_check_tolls_ : PySem.W.codeIn K cd_check_tolls "check_tolls" = true)
    (k_check_tolls_ : PySem.W.keepIn K (.ref f_check_tolls) = true)
    (a_running : PySem.W.nsIn K mainGlobals "running" = some (some (.ref f_running)))
    (l_running : K.lookup f_running = some ⟨oc_running, od_running, .func (PySem.W.fnOf "running" "running" (defArgs s_running) (defBody s_running) (defScope s_running) .none kV_running dc_running pm_running an_running cd_running ct_running), sl_running⟩)
    (c_running_ : PySem.W.codeIn K cd_running "running" = true)
    (k_running_ : PySem.W.keepIn K (.ref f_running) = true)
    (a_middles : PySem.W.nsIn K mainGlobals "middles" = some (some (.ref f_middles)))
    (l_middles : K.lookup f_middles = some ⟨oc_middles, od_middles, .func (PySem.W.fnOf "middles" "middles" (defArgs s_middles) (defBody s_middles) (defScope s_middles) .none kV_middles dc_middles pm_middles an_middles cd_middles ct_middles), sl_middles⟩)
    (c_middles_ : PySem.W.codeIn K cd_middles "middles" = true)
    (k_middles_ : PySem.W.keepIn K (.ref f_middles) = true)
    (a_steps_of : PySem.W.nsIn K mainGlobals "steps_of" = some (some (.ref f_steps_of)))
    (l_steps_of : K.lookup f_steps_of = some ⟨oc_steps_of, od_steps_of, .func (PySem.W.fnOf "steps_of" "steps_of" (defArgs s_steps_of) (defBody s_steps_of) (defScope s_steps_of) .none kV_steps_of dc_steps_of pm_steps_of an_steps_of cd_steps_of ct_steps_of), sl_steps_of⟩)
    (c_steps_of_ : PySem.W.codeIn K cd_steps_of "steps_of" = true)
    (k_steps_of_ : PySem.W.keepIn K (.ref f_steps_of) = true)
    (a_prices_of : PySem.W.nsIn K mainGlobals "prices_of" = some (some (.ref f_prices_of)))
    (l_prices_of : K.lookup f_prices_of = some ⟨oc_prices_of, od_prices_of, .func (PySem.W.fnOf "prices_of" "prices_of" (defArgs s_prices_of) (defBody s_prices_of) (defScope s_prices_of) .none kV_prices_of dc_prices_of pm_prices_of an_prices_of cd_prices_of ct_prices_of), sl_prices_of⟩)
    (c_prices_of_ : PySem.W.codeIn K cd_prices_of "prices_of" = true)
    (k_prices_of_ : PySem.W.keepIn K (.ref f_prices_of) = true)
    (a_least : PySem.W.nsIn K mainGlobals "least" = some (some (.ref f_least)))
    (l_least : K.lookup f_least = some ⟨oc_least, od_least, .func (PySem.W.fnOf "least" "least" (defArgs s_least) (defBody s_least) (defScope s_least) .none kV_least dc_least pm_least an_least cd_least ct_least), sl_least⟩)
    (c_least_ : PySem.W.codeIn K cd_least "least" = true)
    (k_least_ : PySem.W.keepIn K (.ref f_least) = true)
    (a_law_cell_at : PySem.W.nsIn K mainGlobals "_law_cell_at" = some (some (.ref f_law_cell_at)))
    (l_law_cell_at : K.lookup f_law_cell_at = some ⟨oc_law_cell_at, od_law_cell_at, .func (PySem.W.fnOf "_law_cell_at" "_law_cell_at" (defArgs s_law_cell_at) (defBody s_law_cell_at) (defScope s_law_cell_at) .none kV_law_cell_at dc_law_cell_at pm_law_cell_at an_law_cell_at cd_law_cell_at ct_law_cell_at), sl_law_cell_at⟩)
    (c_law_cell_at_ : PySem.W.codeIn K cd_law_cell_at "_law_cell_at" = true)
    (k_law_cell_at_ : PySem.W.keepIn K (.ref f_law_cell_at) = true)
    (a_law_draw : PySem.W.nsIn K mainGlobals "_law_draw" = some (some (.ref f_law_draw)))
    (l_law_draw : K.lookup f_law_draw = some ⟨oc_law_draw, od_law_draw, .func (PySem.W.fnOf "_law_draw" "_law_draw" (defArgs s_law_draw) (defBody s_law_draw) (defScope s_law_draw) .none kV_law_draw dc_law_draw pm_law_draw an_law_draw cd_law_draw ct_law_draw), sl_law_draw⟩)
    (c_law_draw_ : PySem.W.codeIn K cd_law_draw "_law_draw" = true)
    (k_law_draw_ : PySem.W.keepIn K (.ref f_law_draw) = true)
    (a_law_houses : PySem.W.nsIn K mainGlobals "_law_houses" = some (some (.ref f_law_houses)))
    (l_law_houses : K.lookup f_law_houses = some ⟨oc_law_houses, od_law_houses, .func (PySem.W.fnOf "_law_houses" "_law_houses" (defArgs s_law_houses) (defBody s_law_houses) (defScope s_law_houses) .none kV_law_houses dc_law_houses pm_law_houses an_law_houses cd_law_houses ct_law_houses), sl_law_houses⟩)
    (c_law_houses_ : PySem.W.codeIn K cd_law_houses "_law_houses" = true)
    (k_law_houses_ : PySem.W.keepIn K (.ref f_law_houses) = true)
    (a_law_tolls : PySem.W.nsIn K mainGlobals "_law_tolls" = some (some (.ref f_law_tolls)))
    (l_law_tolls : K.lookup f_law_tolls = some ⟨oc_law_tolls, od_law_tolls, .func (PySem.W.fnOf "_law_tolls" "_law_tolls" (defArgs s_law_tolls) (defBody s_law_tolls) (defScope s_law_tolls) .none kV_law_tolls dc_law_tolls pm_law_tolls an_law_tolls cd_law_tolls ct_law_tolls), sl_law_tolls⟩)
    (c_law_tolls_ : PySem.W.codeIn K cd_law_tolls "_law_tolls" = true)
    (k_law_tolls_ : PySem.W.keepIn K (.ref f_law_tolls) = true)
    (a_law_evened : PySem.W.nsIn K mainGlobals "_law_evened" = some (some (.ref f_law_evened)))
    (l_law_evened : K.lookup f_law_evened = some ⟨oc_law_evened, od_law_evened, .func (PySem.W.fnOf "_law_evened" "_law_evened" (defArgs s_law_evened) (defBody s_law_evened) (defScope s_law_evened) .none kV_law_evened dc_law_evened pm_law_evened an_law_evened cd_law_evened ct_law_evened), sl_law_evened⟩)
    (c_law_evened_ : PySem.W.codeIn K cd_law_evened "_law_evened" = true)
    (k_law_evened_ : PySem.W.keepIn K (.ref f_law_evened) = true)
    (a_law_cost : PySem.W.nsIn K mainGlobals "_law_cost" = some (some (.ref f_law_cost)))
    (l_law_cost : K.lookup f_law_cost = some ⟨oc_law_cost, od_law_cost, .func (PySem.W.fnOf "_law_cost" "_law_cost" (defArgs s_law_cost) (defBody s_law_cost) (defScope s_law_cost) .none kV_law_cost dc_law_cost pm_law_cost an_law_cost cd_law_cost ct_law_cost), sl_law_cost⟩)
    (c_law_cost_ : PySem.W.codeIn K cd_law_cost "_law_cost" = true)
    (k_law_cost_ : PySem.W.keepIn K (.ref f_law_cost) = true)
    (a_law_priced : PySem.W.nsIn K mainGlobals "_law_priced" = some (some (.ref f_law_priced)))
    (l_law_priced : K.lookup f_law_priced = some ⟨oc_law_priced, od_law_priced, .func (PySem.W.fnOf "_law_priced" "_law_priced" (defArgs s_law_priced) (defBody s_law_priced) (defScope s_law_priced) .none kV_law_priced dc_law_priced pm_law_priced an_law_priced cd_law_priced ct_law_priced), sl_law_priced⟩)
    (c_law_priced_ : PySem.W.codeIn K cd_law_priced "_law_priced" = true)
    (k_law_priced_ : PySem.W.keepIn K (.ref f_law_priced) = true)
    (a_law_says : PySem.W.nsIn K mainGlobals "_law_says" = some (some (.ref f_law_says)))
    (l_law_says : K.lookup f_law_says = some ⟨oc_law_says, od_law_says, .func (PySem.W.fnOf "_law_says" "_law_says" (defArgs s_law_says) (defBody s_law_says) (defScope s_law_says) .none kV_law_says dc_law_says pm_law_says an_law_says cd_law_says ct_law_says), sl_law_says⟩)
    (c_law_says_ : PySem.W.codeIn K cd_law_says "_law_says" = true)
    (k_law_says_ : PySem.W.keepIn K (.ref f_law_says) = true)
    (a_law_bent : PySem.W.nsIn K mainGlobals "_law_bent" = some (some (.ref f_law_bent)))
    (l_law_bent : K.lookup f_law_bent = some ⟨oc_law_bent, od_law_bent, .func (PySem.W.fnOf "_law_bent" "_law_bent" (defArgs s_law_bent) (defBody s_law_bent) (defScope s_law_bent) .none kV_law_bent dc_law_bent pm_law_bent an_law_bent cd_law_bent ct_law_bent), sl_law_bent⟩)
    (c_law_bent_ : PySem.W.codeIn K cd_law_bent "_law_bent" = true)
    (k_law_bent_ : PySem.W.keepIn K (.ref f_law_bent) = true)
    (a_law_even_right : PySem.W.nsIn K mainGlobals "_law_even_right" = some (some (.ref f_law_even_right)))
    (l_law_even_right : K.lookup f_law_even_right = some ⟨oc_law_even_right, od_law_even_right, .func (PySem.W.fnOf "_law_even_right" "_law_even_right" (defArgs s_law_even_right) (defBody s_law_even_right) (defScope s_law_even_right) .none kV_law_even_right dc_law_even_right pm_law_even_right an_law_even_right cd_law_even_right ct_law_even_right), sl_law_even_right⟩)
    (c_law_even_right_ : PySem.W.codeIn K cd_law_even_right "_law_even_right" = true)
    (k_law_even_right_ : PySem.W.keepIn K (.ref f_law_even_right) = true)
    (a_law_bounds_right : PySem.W.nsIn K mainGlobals "_law_bounds_right" = some (some (.ref f_law_bounds_right)))
    (l_law_bounds_right : K.lookup f_law_bounds_right = some ⟨oc_law_bounds_right, od_law_bounds_right, .func (PySem.W.fnOf "_law_bounds_right" "_law_bounds_right" (defArgs s_law_bounds_right) (defBody s_law_bounds_right) (defScope s_law_bounds_right) .none kV_law_bounds_right dc_law_bounds_right pm_law_bounds_right an_law_bounds_right cd_law_bounds_right ct_law_bounds_right), sl_law_bounds_right⟩)
    (c_law_bounds_right_ : PySem.W.codeIn K cd_law_bounds_right "_law_bounds_right" = true)
    (k_law_bounds_right_ : PySem.W.keepIn K (.ref f_law_bounds_right) = true)
    (a_law : PySem.W.nsIn K mainGlobals "law" = some (some (.ref f_law)))
    (l_law : K.lookup f_law = some ⟨oc_law, od_law, .func (PySem.W.fnOf "law" "law" (defArgs s_law) (defBody s_law) (defScope s_law) .none kV_law dc_law pm_law an_law cd_law ct_law), sl_law⟩)
    (c_law_ : PySem.W.codeIn K cd_law "law" = true)
    (k_law_ : PySem.W.keepIn K (.ref f_law) = true)
    : ∃ fd : FuncData, (∀ (s : Shared) (v : Value), BindsTo s fd ⟨[v], []⟩ [("_law_script", v)]) ∧ ∀ base : Heap, K.In base → base.Ns mainGlobals mg → FnOk l.prog w K mg base CX0 5 fa fd ["_law_script"] (sp_law0 K) := by
  have e := hfa.symm.trans (PySem.W.mg_of X G a_law)
  cases e
  exact ⟨PySem.W.fnOf "law" "law" (defArgs s_law) (defBody s_law) (defScope s_law) .none kV_law dc_law pm_law an_law cd_law ct_law, fun s v => .of_eq rfl, fun base _ _ => ok_law (K := K) (mg := mg) { n_abs := PySem.W.mg_none_of X G z_abs, n_all := PySem.W.mg_none_of X G z_all, n_any := PySem.W.mg_none_of X G z_any, n_bool := PySem.W.mg_none_of X G z_bool, n_int := PySem.W.mg_none_of X G z_int, n_isinstance := PySem.W.mg_none_of X G z_isinstance, n_len := PySem.W.mg_none_of X G z_len, n_list := PySem.W.mg_none_of X G z_list, n_max := PySem.W.mg_none_of X G z_max, n_min := PySem.W.mg_none_of X G z_min, n_range := PySem.W.mg_none_of X G z_range, n_sorted := PySem.W.mg_none_of X G z_sorted, n_sum := PySem.W.mg_none_of X G z_sum, n_zip := PySem.W.mg_none_of X G z_zip, k_GREATEST_rings := ⟨tk_GREATEST_rings, PySem.W.mg_of X G y_GREATEST_rings⟩, k_GREATEST_carrying := ⟨tk_GREATEST_carrying, PySem.W.mg_of X G y_GREATEST_carrying⟩, c_Answer := c_Answer, g_Answer := PySem.W.mg_of X G a_Answer, cl_Answer := ⟨pg_Answer, hd_Answer, po_Answer, sa_Answer⟩, in_Answer := ⟨ia_Answer, ib_Answer, ic_Answer, id_Answer⟩, c_Even := c_Even, g_Even := PySem.W.mg_of X G a_Even, cl_Even := ⟨pg_Even, hd_Even, po_Even, sa_Even⟩, no_Even_carried := no_Even_carried, no_Even_prices := no_Even_prices, in_Even := ⟨ia_Even, ib_Even, ic_Even, id_Even⟩, c_Uneven := c_Uneven, g_Uneven := PySem.W.mg_of X G a_Uneven, cl_Uneven := ⟨pg_Uneven, hd_Uneven, po_Uneven, sa_Uneven⟩, no_Uneven_total := no_Uneven_total, in_Uneven := ⟨ia_Uneven, ib_Uneven, ic_Uneven, id_Uneven⟩, c_Within := c_Within, g_Within := PySem.W.mg_of X G a_Within, cl_Within := ⟨pg_Within, hd_Within, po_Within, sa_Within⟩, no_Within_carried := no_Within_carried, in_Within := ⟨ia_Within, ib_Within, ic_Within, id_Within⟩, c_Stretch := c_Stretch, g_Stretch := PySem.W.mg_of X G a_Stretch, cl_Stretch := ⟨pg_Stretch, hd_Stretch, po_Stretch, sa_Stretch⟩, no_Stretch_first := no_Stretch_first, no_Stretch_many := no_Stretch_many, in_Stretch := ⟨ia_Stretch, ib_Stretch, ic_Stretch, id_Stretch⟩, c_RingError := c_RingError, g_RingError := PySem.W.mg_of X G a_RingError, c_BadRing := c_BadRing, g_BadRing := PySem.W.mg_of X G a_BadRing, c_BadTolls := c_BadTolls, g_BadTolls := PySem.W.mg_of X G a_BadTolls, c_Ring := c_Ring, g_Ring := PySem.W.mg_of X G a_Ring, cl_Ring := ⟨pg_Ring, hd_Ring, po_Ring, sa_Ring⟩, no_Ring_over := no_Ring_over, in_Ring := ⟨ia_Ring, ib_Ring, ic_Ring, id_Ring⟩, kit_Even_Uneven := kit_Even_Uneven, kit_Uneven_Uneven := kit_Uneven_Uneven, f_is_evening := f_is_evening, fd_is_evening := _, F_is_evening := fun_mk (st := s_is_evening) l_is_evening c_is_evening_ k_is_evening_, g_is_evening := PySem.W.mg_of X G a_is_evening, f_cost_of := f_cost_of, fd_cost_of := _, F_cost_of := fun_mk (st := s_cost_of) l_cost_of c_cost_of_ k_cost_of_, g_cost_of := PySem.W.mg_of X G a_cost_of, f_Even_init := f_Even_init, fd_Even_init := _, F_Even_init := fun_mk (st := s_Even_init) l_Even_init c_Even_init_ k_Even_init_, mk_Even := ⟨mk_Even, a_Even_init, i_Even_init, kp_Even⟩, f_Even_evens := f_Even_evens, fd_Even_evens := _, F_Even_evens := fun_mk (st := s_Even_evens) l_Even_evens c_Even_evens_ k_Even_evens_, m_Even_evens := ⟨a_Even_evens, i_Even_evens, k_Even_evens_⟩, f_Even_shows := f_Even_shows, fd_Even_shows := _, F_Even_shows := fun_mk (st := s_Even_shows) l_Even_shows c_Even_shows_ k_Even_shows_, m_Even_shows := ⟨a_Even_shows, i_Even_shows, k_Even_shows_⟩, f_Uneven_init := f_Uneven_init, fd_Uneven_init := _, F_Uneven_init := fun_mk (st := s_Uneven_init) l_Uneven_init c_Uneven_init_ k_Uneven_init_, mk_Uneven := ⟨mk_Uneven, a_Uneven_init, i_Uneven_init, kp_Uneven⟩, f_Uneven_shows := f_Uneven_shows, fd_Uneven_shows := _, F_Uneven_shows := fun_mk (st := s_Uneven_shows) l_Uneven_shows c_Uneven_shows_ k_Uneven_shows_, m_Uneven_shows := ⟨a_Uneven_shows, i_Uneven_shows, k_Uneven_shows_⟩, f_Within_init := f_Within_init, fd_Within_init := _, F_Within_init := fun_mk (st := s_Within_init) l_Within_init c_Within_init_ k_Within_init_, mk_Within := ⟨mk_Within, a_Within_init, i_Within_init, kp_Within⟩, f_Within_shows := f_Within_shows, fd_Within_shows := _, F_Within_shows := fun_mk (st := s_Within_shows) l_Within_shows c_Within_shows_ k_Within_shows_, m_Within_shows := ⟨a_Within_shows, i_Within_shows, k_Within_shows_⟩, f_Stretch_init := f_Stretch_init, fd_Stretch_init := _, F_Stretch_init := fun_mk (st := s_Stretch_init) l_Stretch_init c_Stretch_init_ k_Stretch_init_, mk_Stretch := ⟨mk_Stretch, a_Stretch_init, i_Stretch_init, kp_Stretch⟩, f_Stretch_shows := f_Stretch_shows, fd_Stretch_shows := _, F_Stretch_shows := fun_mk (st := s_Stretch_shows) l_Stretch_shows c_Stretch_shows_ k_Stretch_shows_, m_Stretch_shows := ⟨a_Stretch_shows, i_Stretch_shows, k_Stretch_shows_⟩, f_is_whole := f_is_whole, fd_is_whole := _, F_is_whole := fun_mk (st := s_is_whole) l_is_whole c_is_whole_ k_is_whole_, g_is_whole := PySem.W.mg_of X G a_is_whole, f_is_house := f_is_house, fd_is_house := _, F_is_house := fun_mk (st := s_is_house) l_is_house c_is_house_ k_is_house_, g_is_house := PySem.W.mg_of X G a_is_house, f_Ring_init := f_Ring_init, fd_Ring_init := _, F_Ring_init := fun_mk (st := s_Ring_init) l_Ring_init c_Ring_init_ k_Ring_init_, mk_Ring := ⟨mk_Ring, a_Ring_init, i_Ring_init, kp_Ring⟩, f_Ring_houses := f_Ring_houses, fd_Ring_houses := _, F_Ring_houses := fun_mk (st := s_Ring_houses) l_Ring_houses c_Ring_houses_ k_Ring_houses_, m_Ring_houses := ⟨a_Ring_houses, i_Ring_houses, k_Ring_houses_⟩, f_Ring_whole := f_Ring_whole, fd_Ring_whole := _, F_Ring_whole := fun_mk (st := s_Ring_whole) l_Ring_whole c_Ring_whole_ k_Ring_whole_, m_Ring_whole := ⟨a_Ring_whole, i_Ring_whole, k_Ring_whole_⟩, f_check_tolls := f_check_tolls, fd_check_tolls := _, F_check_tolls := fun_mk (st := s_check_tolls) l_check_tolls c_check_tolls_ k_check_tolls_, g_check_tolls := PySem.W.mg_of X G a_check_tolls, f_running := f_running, fd_running := _, F_running := fun_mk (st := s_running) l_running c_running_ k_running_, g_running := PySem.W.mg_of X G a_running, f_middles := f_middles, fd_middles := _, F_middles := fun_mk (st := s_middles) l_middles c_middles_ k_middles_, g_middles := PySem.W.mg_of X G a_middles, f_steps_of := f_steps_of, fd_steps_of := _, F_steps_of := fun_mk (st := s_steps_of) l_steps_of c_steps_of_ k_steps_of_, g_steps_of := PySem.W.mg_of X G a_steps_of, f_prices_of := f_prices_of, fd_prices_of := _, F_prices_of := fun_mk (st := s_prices_of) l_prices_of c_prices_of_ k_prices_of_, g_prices_of := PySem.W.mg_of X G a_prices_of, f_least := f_least, fd_least := _, F_least := fun_mk (st := s_least) l_least c_least_ k_least_, g_least := PySem.W.mg_of X G a_least, f_law_cell_at := f_law_cell_at, fd_law_cell_at := _, F_law_cell_at := fun_mk (st := s_law_cell_at) l_law_cell_at c_law_cell_at_ k_law_cell_at_, g_law_cell_at := PySem.W.mg_of X G a_law_cell_at, f_law_draw := f_law_draw, fd_law_draw := _, F_law_draw := fun_mk (st := s_law_draw) l_law_draw c_law_draw_ k_law_draw_, g_law_draw := PySem.W.mg_of X G a_law_draw, f_law_houses := f_law_houses, fd_law_houses := _, F_law_houses := fun_mk (st := s_law_houses) l_law_houses c_law_houses_ k_law_houses_, g_law_houses := PySem.W.mg_of X G a_law_houses, f_law_tolls := f_law_tolls, fd_law_tolls := _, F_law_tolls := fun_mk (st := s_law_tolls) l_law_tolls c_law_tolls_ k_law_tolls_, g_law_tolls := PySem.W.mg_of X G a_law_tolls, f_law_evened := f_law_evened, fd_law_evened := _, F_law_evened := fun_mk (st := s_law_evened) l_law_evened c_law_evened_ k_law_evened_, g_law_evened := PySem.W.mg_of X G a_law_evened, f_law_cost := f_law_cost, fd_law_cost := _, F_law_cost := fun_mk (st := s_law_cost) l_law_cost c_law_cost_ k_law_cost_, g_law_cost := PySem.W.mg_of X G a_law_cost, f_law_priced := f_law_priced, fd_law_priced := _, F_law_priced := fun_mk (st := s_law_priced) l_law_priced c_law_priced_ k_law_priced_, g_law_priced := PySem.W.mg_of X G a_law_priced, f_law_says := f_law_says, fd_law_says := _, F_law_says := fun_mk (st := s_law_says) l_law_says c_law_says_ k_law_says_, g_law_says := PySem.W.mg_of X G a_law_says, f_law_bent := f_law_bent, fd_law_bent := _, F_law_bent := fun_mk (st := s_law_bent) l_law_bent c_law_bent_ k_law_bent_, g_law_bent := PySem.W.mg_of X G a_law_bent, f_law_even_right := f_law_even_right, fd_law_even_right := _, F_law_even_right := fun_mk (st := s_law_even_right) l_law_even_right c_law_even_right_ k_law_even_right_, g_law_even_right := PySem.W.mg_of X G a_law_even_right, f_law_bounds_right := f_law_bounds_right, fd_law_bounds_right := _, F_law_bounds_right := fun_mk (st := s_law_bounds_right) l_law_bounds_right c_law_bounds_right_ k_law_bounds_right_, g_law_bounds_right := PySem.W.mg_of X G a_law_bounds_right, f_law := fa, fd_law := _, F_law := fun_mk (st := s_law) l_law c_law_ k_law_, g_law := PySem.W.mg_of X G a_law }⟩
end K5
open PySem PySem.W PyProof.Rows
set_option maxRecDepth 100000 in
set_option maxHeartbeats 0 in
theorem PySem.Challenge.cw_evenring_k05_answers_by_hand_holds : PySem.Challenge.rw_evenring_k05_answers_by_hand.Holds := by
  w_on; o_law; k_head; (case hw => w_witness2)
  k_fill
  refine L2.walk_of (l := PySem.Challenge.rw_evenring_k05_answers_by_hand) (n := 63) (k := 5) (x := "_law_script") (CX := fun _ => L2.CX0) (sp := fun w => K5.sp_law0 _) rfl (by decide) rfl ⟨rfl, by decide, by decide⟩ (fun w h Y => PySem.W.kIn_of Y) ?F (fun _ _ a ns hl _ hS => ⟨a, ns, rfl, hS, hl, fun _ => rfl⟩) (fun _ _ _ _ _ h => h)
  case F =>
    intro w mg fa h KX G hmg
    refine' K5.all_mk KX G hmg ?z_abs ?z_all ?z_any ?z_bool ?z_int ?z_isinstance ?z_len ?z_list ?z_max ?z_min ?z_range ?z_sorted ?z_sum ?z_zip ?y_GREATEST_rings ?y_GREATEST_carrying ?a_Answer ?pg_Answer ?hd_Answer ?po_Answer ?sa_Answer ?ia_Answer ?ib_Answer ?ic_Answer ?id_Answer ?a_Even ?pg_Even ?hd_Even ?po_Even ?sa_Even ?no_Even_carried ?no_Even_prices ?ia_Even ?ib_Even ?ic_Even ?id_Even ?a_Uneven ?pg_Uneven ?hd_Uneven ?po_Uneven ?sa_Uneven ?no_Uneven_total ?ia_Uneven ?ib_Uneven ?ic_Uneven ?id_Uneven ?a_Within ?pg_Within ?hd_Within ?po_Within ?sa_Within ?no_Within_carried ?ia_Within ?ib_Within ?ic_Within ?id_Within ?a_Stretch ?pg_Stretch ?hd_Stretch ?po_Stretch ?sa_Stretch ?no_Stretch_first ?no_Stretch_many ?ia_Stretch ?ib_Stretch ?ic_Stretch ?id_Stretch ?a_RingError ?a_BadRing ?a_BadTolls ?a_Ring ?pg_Ring ?hd_Ring ?po_Ring ?sa_Ring ?no_Ring_over ?ia_Ring ?ib_Ring ?ic_Ring ?id_Ring ?kit_Even_Uneven ?kit_Uneven_Uneven ?a_is_evening ?l_is_evening ?c_is_evening_ ?k_is_evening_ ?a_cost_of ?l_cost_of ?c_cost_of_ ?k_cost_of_ ?a_Even_init ?i_Even_init ?l_Even_init ?c_Even_init_ ?k_Even_init_ ?mk_Even ?kp_Even ?a_Even_evens ?i_Even_evens ?l_Even_evens ?c_Even_evens_ ?k_Even_evens_ ?a_Even_shows ?i_Even_shows ?l_Even_shows ?c_Even_shows_ ?k_Even_shows_ ?a_Uneven_init ?i_Uneven_init ?l_Uneven_init ?c_Uneven_init_ ?k_Uneven_init_ ?mk_Uneven ?kp_Uneven ?a_Uneven_shows ?i_Uneven_shows ?l_Uneven_shows ?c_Uneven_shows_ ?k_Uneven_shows_ ?a_Within_init ?i_Within_init ?l_Within_init ?c_Within_init_ ?k_Within_init_ ?mk_Within ?kp_Within ?a_Within_shows ?i_Within_shows ?l_Within_shows ?c_Within_shows_ ?k_Within_shows_ ?a_Stretch_init ?i_Stretch_init ?l_Stretch_init ?c_Stretch_init_ ?k_Stretch_init_ ?mk_Stretch ?kp_Stretch ?a_Stretch_shows ?i_Stretch_shows ?l_Stretch_shows ?c_Stretch_shows_ ?k_Stretch_shows_ ?a_is_whole ?l_is_whole ?c_is_whole_ ?k_is_whole_ ?a_is_house ?l_is_house ?c_is_house_ ?k_is_house_ ?a_Ring_init ?i_Ring_init ?l_Ring_init ?c_Ring_init_ ?k_Ring_init_ ?mk_Ring ?kp_Ring ?a_Ring_houses ?i_Ring_houses ?l_Ring_houses ?c_Ring_houses_ ?k_Ring_houses_ ?a_Ring_whole ?i_Ring_whole ?l_Ring_whole ?c_Ring_whole_ ?k_Ring_whole_ ?a_check_tolls ?l_check_tolls ?c_check_tolls_ ?k_check_tolls_ ?a_running ?l_running ?c_running_ ?k_running_ ?a_middles ?l_middles ?c_middles_ ?k_middles_ ?a_steps_of ?l_steps_of ?c_steps_of_ ?k_steps_of_ ?a_prices_of ?l_prices_of ?c_prices_of_ ?k_prices_of_ ?a_least ?l_least ?c_least_ ?k_least_ ?a_law_cell_at ?l_law_cell_at ?c_law_cell_at_ ?k_law_cell_at_ ?a_law_draw ?l_law_draw ?c_law_draw_ ?k_law_draw_ ?a_law_houses ?l_law_houses ?c_law_houses_ ?k_law_houses_ ?a_law_tolls ?l_law_tolls ?c_law_tolls_ ?k_law_tolls_ ?a_law_evened ?l_law_evened ?c_law_evened_ ?k_law_evened_ ?a_law_cost ?l_law_cost ?c_law_cost_ ?k_law_cost_ ?a_law_priced ?l_law_priced ?c_law_priced_ ?k_law_priced_ ?a_law_says ?l_law_says ?c_law_says_ ?k_law_says_ ?a_law_bent ?l_law_bent ?c_law_bent_ ?k_law_bent_ ?a_law_even_right ?l_law_even_right ?c_law_even_right_ ?k_law_even_right_ ?a_law_bounds_right ?l_law_bounds_right ?c_law_bounds_right_ ?k_law_bounds_right_ ?a_law ?l_law ?c_law_ ?k_law_
    (case z_abs => k_is)
    (case z_all => k_is)
    (case z_any => k_is)
    (case z_bool => k_is)
    (case z_int => k_is)
    (case z_isinstance => k_is)
    (case z_len => k_is)
    (case z_list => k_is)
    (case z_max => k_is)
    (case z_min => k_is)
    (case z_range => k_is)
    (case z_sorted => k_is)
    (case z_sum => k_is)
    (case z_zip => k_is)
    (case y_GREATEST_rings => k_is)
    (case y_GREATEST_carrying => k_is)
    (case a_Answer => k_is)
    (case pg_Answer => k_is)
    (case hd_Answer => k_is)
    (case po_Answer => k_is)
    (case sa_Answer => k_is)
    (case ia_Answer => k_is)
    (case ib_Answer => k_is)
    (case ic_Answer => k_is)
    (case id_Answer => k_is)
    (case a_Even => k_is)
    (case pg_Even => k_is)
    (case hd_Even => k_is)
    (case po_Even => k_is)
    (case sa_Even => k_is)
    (case no_Even_carried => k_is)
    (case no_Even_prices => k_is)
    (case ia_Even => k_is)
    (case ib_Even => k_is)
    (case ic_Even => k_is)
    (case id_Even => k_is)
    (case a_Uneven => k_is)
    (case pg_Uneven => k_is)
    (case hd_Uneven => k_is)
    (case po_Uneven => k_is)
    (case sa_Uneven => k_is)
    (case no_Uneven_total => k_is)
    (case ia_Uneven => k_is)
    (case ib_Uneven => k_is)
    (case ic_Uneven => k_is)
    (case id_Uneven => k_is)
    (case a_Within => k_is)
    (case pg_Within => k_is)
    (case hd_Within => k_is)
    (case po_Within => k_is)
    (case sa_Within => k_is)
    (case no_Within_carried => k_is)
    (case ia_Within => k_is)
    (case ib_Within => k_is)
    (case ic_Within => k_is)
    (case id_Within => k_is)
    (case a_Stretch => k_is)
    (case pg_Stretch => k_is)
    (case hd_Stretch => k_is)
    (case po_Stretch => k_is)
    (case sa_Stretch => k_is)
    (case no_Stretch_first => k_is)
    (case no_Stretch_many => k_is)
    (case ia_Stretch => k_is)
    (case ib_Stretch => k_is)
    (case ic_Stretch => k_is)
    (case id_Stretch => k_is)
    (case a_RingError => k_is)
    (case a_BadRing => k_is)
    (case a_BadTolls => k_is)
    (case a_Ring => k_is)
    (case pg_Ring => k_is)
    (case hd_Ring => k_is)
    (case po_Ring => k_is)
    (case sa_Ring => k_is)
    (case no_Ring_over => k_is)
    (case ia_Ring => k_is)
    (case ib_Ring => k_is)
    (case ic_Ring => k_is)
    (case id_Ring => k_is)
    (case kit_Even_Uneven => kit_is)
    (case kit_Uneven_Uneven => kit_is)
    (case a_is_evening => k_is)
    (case l_is_evening => k_is)
    (case c_is_evening_ => k_is)
    (case k_is_evening_ => k_is)
    (case a_cost_of => k_is)
    (case l_cost_of => k_is)
    (case c_cost_of_ => k_is)
    (case k_cost_of_ => k_is)
    (case a_Even_init => k_is)
    (case i_Even_init => k_is)
    (case l_Even_init => k_is)
    (case c_Even_init_ => k_is)
    (case k_Even_init_ => k_is)
    (case mk_Even => k_is)
    (case kp_Even => k_is)
    (case a_Even_evens => k_is)
    (case i_Even_evens => k_is)
    (case l_Even_evens => k_is)
    (case c_Even_evens_ => k_is)
    (case k_Even_evens_ => k_is)
    (case a_Even_shows => k_is)
    (case i_Even_shows => k_is)
    (case l_Even_shows => k_is)
    (case c_Even_shows_ => k_is)
    (case k_Even_shows_ => k_is)
    (case a_Uneven_init => k_is)
    (case i_Uneven_init => k_is)
    (case l_Uneven_init => k_is)
    (case c_Uneven_init_ => k_is)
    (case k_Uneven_init_ => k_is)
    (case mk_Uneven => k_is)
    (case kp_Uneven => k_is)
    (case a_Uneven_shows => k_is)
    (case i_Uneven_shows => k_is)
    (case l_Uneven_shows => k_is)
    (case c_Uneven_shows_ => k_is)
    (case k_Uneven_shows_ => k_is)
    (case a_Within_init => k_is)
    (case i_Within_init => k_is)
    (case l_Within_init => k_is)
    (case c_Within_init_ => k_is)
    (case k_Within_init_ => k_is)
    (case mk_Within => k_is)
    (case kp_Within => k_is)
    (case a_Within_shows => k_is)
    (case i_Within_shows => k_is)
    (case l_Within_shows => k_is)
    (case c_Within_shows_ => k_is)
    (case k_Within_shows_ => k_is)
    (case a_Stretch_init => k_is)
    (case i_Stretch_init => k_is)
    (case l_Stretch_init => k_is)
    (case c_Stretch_init_ => k_is)
    (case k_Stretch_init_ => k_is)
    (case mk_Stretch => k_is)
    (case kp_Stretch => k_is)
    (case a_Stretch_shows => k_is)
    (case i_Stretch_shows => k_is)
    (case l_Stretch_shows => k_is)
    (case c_Stretch_shows_ => k_is)
    (case k_Stretch_shows_ => k_is)
    (case a_is_whole => k_is)
    (case l_is_whole => k_is)
    (case c_is_whole_ => k_is)
    (case k_is_whole_ => k_is)
    (case a_is_house => k_is)
    (case l_is_house => k_is)
    (case c_is_house_ => k_is)
    (case k_is_house_ => k_is)
    (case a_Ring_init => k_is)
    (case i_Ring_init => k_is)
    (case l_Ring_init => k_is)
    (case c_Ring_init_ => k_is)
    (case k_Ring_init_ => k_is)
    (case mk_Ring => k_is)
    (case kp_Ring => k_is)
    (case a_Ring_houses => k_is)
    (case i_Ring_houses => k_is)
    (case l_Ring_houses => k_is)
    (case c_Ring_houses_ => k_is)
    (case k_Ring_houses_ => k_is)
    (case a_Ring_whole => k_is)
    (case i_Ring_whole => k_is)
    (case l_Ring_whole => k_is)
    (case c_Ring_whole_ => k_is)
    (case k_Ring_whole_ => k_is)
    (case a_check_tolls => k_is)
    (case l_check_tolls => k_is)
    (case c_check_tolls_ => k_is)
    (case k_check_tolls_ => k_is)
    (case a_running => k_is)
    (case l_running => k_is)
    (case c_running_ => k_is)
    (case k_running_ => k_is)
    (case a_middles => k_is)
    (case l_middles => k_is)
    (case c_middles_ => k_is)
    (case k_middles_ => k_is)
    (case a_steps_of => k_is)
    (case l_steps_of => k_is)
    (case c_steps_of_ => k_is)
    (case k_steps_of_ => k_is)
    (case a_prices_of => k_is)
    (case l_prices_of => k_is)
    (case c_prices_of_ => k_is)
    (case k_prices_of_ => k_is)
    (case a_least => k_is)
    (case l_least => k_is)
    (case c_least_ => k_is)
    (case k_least_ => k_is)
    (case a_law_cell_at => k_is)
    (case l_law_cell_at => k_is)
    (case c_law_cell_at_ => k_is)
    (case k_law_cell_at_ => k_is)
    (case a_law_draw => k_is)
    (case l_law_draw => k_is)
    (case c_law_draw_ => k_is)
    (case k_law_draw_ => k_is)
    (case a_law_houses => k_is)
    (case l_law_houses => k_is)
    (case c_law_houses_ => k_is)
    (case k_law_houses_ => k_is)
    (case a_law_tolls => k_is)
    (case l_law_tolls => k_is)
    (case c_law_tolls_ => k_is)
    (case k_law_tolls_ => k_is)
    (case a_law_evened => k_is)
    (case l_law_evened => k_is)
    (case c_law_evened_ => k_is)
    (case k_law_evened_ => k_is)
    (case a_law_cost => k_is)
    (case l_law_cost => k_is)
    (case c_law_cost_ => k_is)
    (case k_law_cost_ => k_is)
    (case a_law_priced => k_is)
    (case l_law_priced => k_is)
    (case c_law_priced_ => k_is)
    (case k_law_priced_ => k_is)
    (case a_law_says => k_is)
    (case l_law_says => k_is)
    (case c_law_says_ => k_is)
    (case k_law_says_ => k_is)
    (case a_law_bent => k_is)
    (case l_law_bent => k_is)
    (case c_law_bent_ => k_is)
    (case k_law_bent_ => k_is)
    (case a_law_even_right => k_is)
    (case l_law_even_right => k_is)
    (case c_law_even_right_ => k_is)
    (case k_law_even_right_ => k_is)
    (case a_law_bounds_right => k_is)
    (case l_law_bounds_right => k_is)
    (case c_law_bounds_right_ => k_is)
    (case k_law_bounds_right_ => k_is)
    (case a_law => k_is)
    (case l_law => k_is)
    (case c_law_ => k_is)
    (case k_law_ => k_is)
#print axioms PySem.Challenge.cw_evenring_k05_answers_by_hand_holds
