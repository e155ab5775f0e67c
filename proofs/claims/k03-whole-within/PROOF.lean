import PyProof.Rows.All
import Wide.All
import OpenK.AllK
import Wide.FinOn
import HandS.ForMost
import HandS.ForExc
import HandS.IsInst
import HandS.SortRule
import HandS.Walk
import HandS.Style
import HandS.Flow

import PySem.Challenge.RW_evenring_k03_whole_within
set_option Elab.async false
set_option maxRecDepth 100000
set_option maxHeartbeats 4000000
/-! EvB: a ledger of what a def has made (At), and rules that run a reading forward, one a construct -/
namespace EB
open PySem L2

/-! ### the ledger -/
structure At (H0 : Hp) (L : List (Addr × HO)) (H : Hp) : Prop where
  ex : Same H0 H
  own : ∀ x ∈ L, H x.1 = some x.2
  new : ∀ x ∈ L, H0 x.1 = none
  nd : (L.map Prod.fst).Nodup
section
variable {H0 H H' : Hp} {L : List (Addr × HO)} {p q : Addr} {o o' u : HO} {K : PySem.W.Frag} {xs : List V}
theorem At.nil (H : Hp) : At H [] H := ⟨Same.refl H, (fun _ h => nomatch h), (fun _ h => nomatch h), List.nodup_nil⟩
theorem At.get (A : At H0 L H) (m : (p, o) ∈ L) : H p = some o := A.own _ m
theorem At.fresh (A : At H0 L H) (hp : H p = none) : H0 p = none := A.ex.free hp
theorem At.alloc (A : At H0 L H) (hp : H p = none) (o : HO) : At H0 ((p, o) :: L) (upd H p o) := by
  refine ⟨fun b x e => ?_, fun x hx => ?_, fun x hx => ?_, ?_⟩
  · rw [upd_ne (ne_of_none (A.ex b x e) hp)]
    exact A.ex b x e
  · rcases List.mem_cons.mp hx with rfl | hx
    · exact upd_same
    · rw [upd_ne (ne_of_none (A.own x hx) hp)]
      exact A.own x hx
  · rcases List.mem_cons.mp hx with rfl | hx
    · exact A.fresh hp
    · exact A.new x hx
  · refine List.nodup_cons.mpr ⟨fun h => ?_, A.nd⟩
    obtain ⟨x, hx, e⟩ := List.mem_map.mp h
    have := A.own x hx
    rw [e] at this
    rw [show (p, o).1 = p from rfl] at this
    rw [hp] at this
    cases this
theorem At.same (A : At H0 L H) (s : Same H H') : At H0 L H' := ⟨A.ex.trans s, fun x hx => s _ _ (A.own x hx), A.new, A.nd⟩
theorem At.made (A : At H0 L H) (s : Same H H') (hp : H p = none) (h : H' p = some o) : At H0 ((p, o) :: L) H' := by
  have B := A.alloc hp o
  refine ⟨A.ex.trans s, fun x hx => ?_, B.new, B.nd⟩
  rcases List.mem_cons.mp hx with rfl | hx
  · exact h
  · exact s _ _ (A.own x hx)
theorem At.tl {x : Addr × HO} (A : At H0 (x :: L) H) : At H0 L H :=
  ⟨A.ex, fun y hy => A.own y (List.mem_cons_of_mem _ hy), fun y hy => A.new y (List.mem_cons_of_mem _ hy), (List.nodup_cons.mp A.nd).2⟩
theorem At.perm {L' : List (Addr × HO)} (A : At H0 L H) (h : L'.Perm L) : At H0 L' H :=
  ⟨A.ex, fun y hy => A.own y (h.mem_iff.mp hy), fun y hy => A.new y (h.mem_iff.mp hy), ((h.map Prod.fst).nodup_iff).mpr A.nd⟩
theorem At.sub {L' : List (Addr × HO)} (A : At H0 L H) (h : L'.Sublist L) : At H0 L' H :=
  ⟨A.ex, fun y hy => A.own y (h.subset hy), fun y hy => A.new y (h.subset hy), A.nd.sublist (h.map Prod.fst)⟩
theorem At.put (A : At H0 ((p, o) :: L) H) (o' : HO) : At H0 ((p, o') :: L) (upd H p o') := by
  have hp : H0 p = none := A.new _ List.mem_cons_self
  have hn : ∀ x ∈ L, x.1 ≠ p := fun x hx e => (List.nodup_cons.mp A.nd).1 (by rw [← e]; exact List.mem_map.mpr ⟨x, hx, rfl⟩)
  refine ⟨fun b x e => ?_, fun x hx => ?_, fun x hx => ?_, A.nd⟩
  · rw [upd_ne (ne_of_none e hp)]
    exact A.ex b x e
  · rcases List.mem_cons.mp hx with rfl | hx
    · exact upd_same
    · rw [upd_ne (hn x hx)]
      exact A.own x (List.mem_cons_of_mem _ hx)
  · rcases List.mem_cons.mp hx with rfl | hx
    · exact hp
    · exact A.new x (List.mem_cons_of_mem _ hx)
/-- the second one changed -/
theorem At.swap {x y : Addr × HO} (A : At H0 (x :: y :: L) H) : At H0 (y :: x :: L) H := A.perm (List.Perm.swap ..)
theorem At.put2 {x : Addr × HO} (A : At H0 (x :: (p, o) :: L) H) (o' : HO) : At H0 (x :: (p, o') :: L) (upd H p o') := (A.swap.put o').swap
theorem At.put3 {x y : Addr × HO} (A : At H0 (x :: y :: (p, o) :: L) H) (o' : HO) : At H0 (x :: y :: (p, o') :: L) (upd H p o') := by
  have e : ∀ o : HO, ((p, o) :: x :: y :: L).Perm (x :: y :: (p, o) :: L) := fun o => (List.Perm.swap ..).trans (.cons _ (List.Perm.swap ..))
  exact (((A.perm (e o)).put o').perm (e o').symm)
theorem At.sq (A : At H0 L H) (h : SqL K H0 p xs) : SqL K H p xs := A.ex.seq h
theorem At.sqo (A : At H0 L H) (m : (p, HO.lst xs) ∈ L) : SqL K H p xs := SqL.of (A.get m)
theorem At.st (A : At H0 L H) (h : SqT K H0 p xs) : SqT K H p xs := by
  rcases h with (h | ⟨o, h⟩) | h
  · exact .inl (.inl (A.ex _ _ h))
  · exact .inl (.inr ⟨o, A.ex _ _ h⟩)
  · exact .inr h
theorem At.sto (A : At H0 L H) (m : (p, HO.tup xs) ∈ L) : SqT K H p xs := SqT.of (A.get m)
/-- the ledger becomes the ground -/
theorem At.base (A : At H0 L H) : At H [] H := At.nil H
end
theorem sz {n : Nat} (h : n ≤ 10000000) : n ≤ sizeLine := Nat.le_trans h (by rw [sizeLine_eq]; decide)
theorem sz' {n : Nat} (h : n < 10000000) : n < sizeLine := Nat.lt_of_lt_of_le h (by rw [sizeLine_eq]; decide)

/-! ### what a reading asks, under names -/
def isB (x : V) (Q : Bool → Hp → Prop) (H : Hp) : Prop := ∃ k, x = .bl k ∧ Q k H
def ifB (b : Bool) (A B : Prop) : Prop := if b = true then A else B
def mkL (xs : List V) (H : Hp) (Q : VK) : Prop := xs.length ≤ sizeLine ∧ ∀ p, H p = none → Q (.ref p) (upd H p (.lst xs))
def mkT (xs : List V) (H : Hp) (Q : VK) : Prop := xs.length ≤ sizeLine ∧ ∀ p, H p = none → Q (.ref p) (upd H p (.tup xs))
def fldK (K : PySem.W.Frag) (f : Str) (x : V) (H : Hp) (Q : VK) : Prop := ∃ a C dx fs v, x = .ref a ∧ H a = some (.ins C dx fs) ∧ Cls K C ∧ NoAttr K C f ∧ fs.lookup f = some v ∧ Q v H
def notNone (x : V) (Q : VK) (H : Hp) : Prop := x = .non ∧ Q x H
def rAbs : List V → Hp → VK → Prop := fun xs H Q => ∃ i, xs = [.int i] ∧ Q (.int (if i < 0 then -i else i)) H
def rMax2 : List V → Hp → VK → Prop := fun xs H Q => ∃ i j, xs = [.int i, .int j] ∧ Q (.int (if j > i then j else i)) H
def rMin2 : List V → Hp → VK → Prop := fun xs H Q => ∃ i j, xs = [.int i, .int j] ∧ Q (.int (if j < i then j else i)) H
def rLenQ (K : PySem.W.Frag) : List V → Hp → VK → Prop := fun xs H Q => ∃ p ys, xs = [.ref p] ∧ (SqL K H p ys ∨ SqT K H p ys) ∧ Q (.int ys.length) H
def rListQ (K : PySem.W.Frag) : List V → Hp → VK → Prop := fun xs H Q => ∃ p ys, xs = [.ref p] ∧ (SqL K H p ys ∨ SqT K H p ys) ∧ ∀ l, H l = none → Q (.ref l) (upd H l (.lst ys))
theorem cr_abs {X : Cx} : CallR X (.builtin "abs") rAbs := call_abs
theorem cr_max2 {X : Cx} (hc : X.calm = true) : CallR X (.builtin "max") rMax2 := call_max2 hc
theorem cr_min2 {X : Cx} (hc : X.calm = true) : CallR X (.builtin "min") rMin2 := call_min2 hc
theorem cr_len {X : Cx} : CallR X (.builtin "len") (rLenQ X.K) := call_len_seq
theorem cr_list {X : Cx} : CallR X (.type "list") (rListQ X.K) := call_list_of


/-! ### the layer's rules with the written part named -/
section
variable {X : Cx} {K : PySem.W.Frag}
theorem kLen (h : X.K = K := by rfl) : CallR X (.builtin "len") (rLenQ K) := by subst h; exact cr_len
theorem kList (h : X.K = K := by rfl) : CallR X (.type "list") (rListQ K) := by subst h; exact cr_list
theorem kAll (hc : X.calm = true := by rfl) (h : X.K = K := by rfl) : CallR X (.builtin "all") (rAll K) := by subst h; exact cr_all hc
theorem kAny (hc : X.calm = true := by rfl) (h : X.K = K := by rfl) : CallR X (.builtin "any") (rAny K) := by subst h; exact cr_any hc
theorem kSum (hc : X.calm = true := by rfl) (h : X.K = K := by rfl) : CallR X (.builtin "sum") (rSum K) := by subst h; exact cr_sum hc
theorem kMax (hc : X.calm = true := by rfl) (h : X.K = K := by rfl) : CallR X (.builtin "max") (rMax K) := by subst h; exact cr_max hc
theorem kMin (hc : X.calm = true := by rfl) (h : X.K = K := by rfl) : CallR X (.builtin "min") (rMin K) := by subst h; exact cr_min hc
theorem kIsi (h : X.K = K := by rfl) : CallR X (.builtin "isinstance") (rIsi K) := by subst h; exact call_isi
theorem kIsiT (h : X.K = K := by rfl) : CallR X (.builtin "isinstance") (rIsiT K) := by subst h; exact call_isiT
theorem kSorted (h : X.K = K := by rfl) : CallR X (.builtin "sorted") (rSortedPO K) := by subst h; exact cr_sortedPO
theorem kIxL (h : X.K = K := by rfl) : IxR X (rIxL K) := by subst h; exact ix_list
theorem kIxT (h : X.K = K := by rfl) : IxR X (rIxT K) := by subst h; exact ix_tup
theorem kSlL (h : X.K = K := by rfl) : SlR X (rSlL K) := by subst h; exact sl_list
theorem kIn (h : X.K = K := by rfl) : OpR X (compareOp .In) (rIn K false) := by subst h; exact op_in_seq
theorem kEqD (hu : X.A.units + 64 < cLine) (h : X.K = K := by rfl) : OpR X (compareOp .Eq) (rEqD K) := by subst h; exact op_eqD hu
theorem kNeD (hu : X.A.units + 64 < cLine) (h : X.K = K := by rfl) : OpR X (compareOp .NotEq) (rNeD K) := by subst h; exact op_neD hu
theorem kIdx (h : X.K = K := by rfl) : MtR X "list.index" (rIndex K) := by subst h; exact mt_index
theorem kFld {e : Expr} {f : Str} {pos : Pos} {ta : TE} (he : PE X e ta) (hb : attributeBase e f X.env (eval e X.env) = eval e X.env := by rfl) (h : X.K = K := by rfl) : PE X (.Attribute e f pos) (tFld K ta f) := by subst h; exact pe_fld he hb
theorem kPiL {tg l : Expr} {tl : TE} (hl : PE X l tl) (h : X.K = K := by rfl) : PI X tg l (iList K tl) := by subst h; exact pi_list hl
theorem kPiT {tg l : Expr} {tl : TE} (hl : PE X l tl) (h : X.K = K := by rfl) : PI X tg l (iTup K tl) := by subst h; exact pi_tup hl
theorem kRevL {e : Expr} {te : TE} {k : Nat} {p1 p2 p3 pos : Pos} (he : PE X e te) (h : X.K = K := by rfl) : PE X (.Subscript e (.Slice none none (some (.UnaryOp .USub (.Constant (.int 1) k p1) p2)) p3) pos) (tRevL K te) := by subst h; exact pe_revL he
theorem kPgT {es : List Expr} {k : Nat} {pos : Pos} {t : TGs} {n : Nat} (hc : X.calm = true) (hh : PGs X es t) (hn : (assignEach es X.env).length = n := by rfl) (hst : (assignEach es X.env).findIdx? (·.1) = none := by rfl) (h : X.K = K := by rfl) : PG X (.Tuple es k pos) (gTup K n t) := by
  subst h; exact pg_tup hc hh hn hst
theorem kZip {e e2 : Expr} {ta : TA} {p pos tpos : Pos} {elts : List Expr} {kk : Nat} (hg : Gl X "zip") (hm : X.mg "zip" = none) (ha : PA X [e, e2] ta)
    (hs : starEach [e, e2] X.env = (false, eval e X.env) :: starEach [e2] X.env := by rfl) (hpl : (backTo pos (starEach [e2] X.env)).any (·.1) = false := by rfl) (h : X.K = K := by rfl) :
    PI X (.Tuple elts kk tpos) (.Call (.Name "zip" p) [e, e2] [] pos) (iZip K ta) := by subst h; exact pi_zip hg hm ha hs hpl
end

section
variable {X : Cx} {pos apos : Pos} {e o : Expr} {es : List Expr} {m : Str}
/-- o.m(..), o an instance of one of two classes -/
def tMeth2 (C C' : Addr) (m : Str) (sp sp' : Sp) (E E' : XK) (ta : TE) (t : TA) : TE := fun σ H Q => ta σ H fun x H1 => ∃ a dx fs, x = .ref a ∧ fs.lookup m = none ∧
  ((H1 a = some (.ins C dx fs) ∧ t σ H1 fun vs H2 => sp (x :: vs) H2 Q E) ∨ (H1 a = some (.ins C' dx fs) ∧ t σ H1 fun vs H2 => sp' (x :: vs) H2 Q E'))
theorem pe_meth2 {pl : Sem Bool} {ta : TE} {t : TA} {C C' f f' : Addr} {fd fd' : FuncData} {ps ps' : List Str} {sp sp' : Sp} {CX CX' : CXT} {E E' : XK} {k k' : Nat} (he : PE X o ta)
    (c : Cls X.K C) (hm : Meth X.K C m f) (F : FnOk X.prog X.w X.K X.mg X.base CX k f fd ps sp) (hr : Room k X.A) (hb : Binds X.K fd ps [])
    (c' : Cls X.K C') (hm' : Meth X.K C' m f') (F' : FnOk X.prog X.w X.K X.mg X.base CX' k' f' fd' ps' sp') (hr' : Room k' X.A) (hb' : Binds X.K fd' ps' []) (hx : Passes CX X E) (hx' : Passes CX' X E') (ha : PA X (e :: es) t)
    (hst : starEach (e :: es) X.env = (false, eval e X.env) :: starEach es X.env := by rfl) (hpl : (backTo pos (starEach es X.env)).any (·.1) = false := by rfl)
    (ht : eval (.Call (.Attribute o m apos) (e :: es) [] pos) X.env = (do
      let ov ← eval o X.env
      standAt apos.atName
      let (f, first) ← holding [ov] (getMethod ov m pl)
      callWith pos f first (backTo pos (starEach (e :: es) X.env)) (backToKw pos (keywordEach [] X.env))) := by rfl) :
    PE X (.Call (.Attribute o m apos) (e :: es) [] pos) (tMeth2 C C' m sp sp' E E' ta t) := by
  refine ⟨fun pins s σ H Q I h => ?_⟩
  refine PySem.W.methodCall_KW (pl := pl) (thn (he.run pins s σ H _ I h) fun u s1 ⟨x, H1, I1, rx, a, dx, fs, ex, l, q⟩ => ?_) ht
  subst ex
  obtain rfl : u = Value.ref a := rx
  rcases q with ⟨ea, q⟩ | ⟨ea, q⟩
  · refine getmeth_ok I1 ea c hm l ?_
    refine PySem.W.callWith_K (first := [.ref a]) (h₀ := X.base) I.ok.mod.kin hm.kp (thn (ha.run pos pins s1 σ H1 _ I1 q) fun us s2 ⟨vs, H2, I2, r, q2⟩ => ⟨I2.kIn, ?_⟩) hst hpl
    exact run_fn (us := .ref a :: us) (vs := .ref a :: vs) (dvs := []) F hr hb .nil hx I2 (.cons rfl r) (by rw [List.append_nil]; exact q2)
  · refine getmeth_ok I1 ea c' hm' l ?_
    refine PySem.W.callWith_K (first := [.ref a]) (h₀ := X.base) I.ok.mod.kin hm'.kp (thn (ha.run pos pins s1 σ H1 _ I1 q) fun us s2 ⟨vs, H2, I2, r, q2⟩ => ⟨I2.kIn, ?_⟩) hst hpl
    exact run_fn (us := .ref a :: us) (vs := .ref a :: vs) (dvs := []) F' hr' hb' .nil hx' I2 (.cons rfl r) (by rw [List.append_nil]; exact q2)
end

/-! ### the i-th int -/
/-- ns[i] as Python reads it -/
def gz (ns : List Int) (i : Int) : Int := if 0 ≤ i then ns.getD i.toNat 0 else ns.getD (i + ns.length).toNat 0
theorem atI_gz {ns : List Int} {i : Int} (h1 : -(ns.length : Int) ≤ i) (h2 : i < ns.length) : atI (ns.map V.int) i = some (.int (gz ns i)) := by
  unfold gz
  unfold atI ixN
  rw [List.length_map]
  by_cases h : 0 ≤ i
  · rw [if_pos h, if_pos h, if_pos h2]
    have h3 : i.toNat < ns.length := by omega
    show (ns.map V.int)[i.toNat]? = _
    rw [List.getElem?_map, List.getElem?_eq_getElem h3, List.getD_eq_getElem?_getD, List.getElem?_eq_getElem h3]
    rfl
  · rw [if_neg h, if_neg h, if_pos h1]
    have h3 : (i + ns.length).toNat < ns.length := by omega
    show (ns.map V.int)[(i + ns.length).toNat]? = _
    rw [List.getElem?_map, List.getElem?_eq_getElem h3, List.getD_eq_getElem?_getD, List.getElem?_eq_getElem h3]
    rfl
theorem ixN_gz {n : Nat} {i : Int} (h1 : 0 ≤ i) (h2 : i < n) : ixN n i = some i.toNat := by
  unfold ixN
  rw [if_pos h1, if_pos h2]
theorem gz_nat {ns : List Int} {k : Nat} : gz ns (k : Int) = ns.getD k 0 := by
  unfold gz
  rw [if_pos (by omega)]
  simp


theorem look1 {f g : Str} {v : V} (h : (g == f) = false) : List.lookup g [(f, v)] = none := by simp [List.lookup, h]
theorem look1y {f : Str} {v : V} : List.lookup f [(f, v)] = some v := by simp [List.lookup]
/-! ### the built-ins' names -/
theorem bt_abs : bootBuiltins "abs" = some (.builtin "abs") := by decide +kernel
theorem bt_sum : bootBuiltins "sum" = some (.builtin "sum") := by decide +kernel
theorem bt_all : bootBuiltins "all" = some (.builtin "all") := by decide +kernel
theorem bt_any : bootBuiltins "any" = some (.builtin "any") := by decide +kernel
theorem bt_isinstance : bootBuiltins "isinstance" = some (.builtin "isinstance") := by decide +kernel
theorem bt_sorted : bootBuiltins "sorted" = some (.builtin "sorted") := by decide +kernel
theorem bt_max : bootBuiltins "max" = some (.builtin "max") := by decide +kernel
theorem bt_min : bootBuiltins "min" = some (.builtin "min") := by decide +kernel
theorem bt_list : bootBuiltins "list" = some (.type "list") := by decide +kernel
theorem bt_int : bootBuiltins "int" = some (.type "int") := by decide +kernel
theorem bt_str : bootBuiltins "str" = some (.type "str") := by decide +kernel
theorem bt_bool : bootBuiltins "bool" = some (.type "bool") := by decide +kernel
theorem bt_tuple : bootBuiltins "tuple" = some (.type "tuple") := by decide +kernel

/-! ### rules -/
section
variable {H0 H : Hp} {L : List (Addr × HO)} {K : PySem.W.Frag} {σ : L2.St} {D : Ends} {Q : VK} {QB : Bool → Hp → Prop} {QL : List V → Hp → Prop} {t u : TS} {te ta tb tc : TE} {tt tu : TT} {tl : TA} {v : V} {b : Bool} {A B : Prop} {i j : Int} {p : Addr} {xs : List V} {ns : List Int} {bs : List Bool}
theorem r_seq (k : t { D with nx := u D } σ H) : tSeq t u D σ H := k
theorem r_asg {n : Nat} (k : te σ H (fun x H1 => D.nx (σ.set n (some x)) H1)) : tAsg te (gName n) D σ H := k
theorem r_ret (k : te σ H D.rt) : tRet te D σ H := k
theorem r_if (k : tt σ H (fun b H1 => ifB b (t D σ H1) (u D σ H1))) : tIfS tt t u D σ H := k
theorem r_next (k : D.nx σ H) : tNext D σ H := k
theorem r_drop (k : te σ H (fun _ H1 => D.nx σ H1)) : tDrop te D σ H := k
theorem r_test (k : te σ H (fun x H1 => isB x QB H1)) : tTest te σ H QB := k
theorem r_testB (k : te σ H (fun x H1 => isB x QB H1)) : tB te σ H QB := k
theorem r_isB (k : QB b H) : isB (.bl b) QB H := ⟨b, rfl, k⟩
theorem r_ifT (k : A) : ifB true A B := k
theorem r_ifF (k : B) : ifB false A B := by
  show if false = true then A else B
  rw [if_neg Bool.false_ne_true]
  exact k
theorem r_if2 (h1 : b = true → A) (h2 : b = false → B) : ifB b A B := by
  cases b with
  | true => exact h1 rfl
  | false => exact r_ifF (h2 rfl)
theorem r_ifD {P : Prop} [Decidable P] (h1 : P → A) (h2 : ¬ P → B) : ifB (decide P) A B := r_if2 (fun h => h1 (of_decide_eq_true h)) (fun h => h2 (of_decide_eq_false h))
theorem r_ifND {P : Prop} [Decidable P] (h1 : ¬ P → A) (h2 : P → B) : ifB (!decide P) A B := r_if2 (fun h => h1 (of_decide_eq_false (by simpa using h))) (fun h => h2 (of_decide_eq_true (by simpa using h)))
theorem r_ifd_T {P : Prop} [Decidable P] (h : P) (k : A) : ifB (decide P) A B := by rw [decide_eq_true h]; exact k
theorem r_ifd_F {P : Prop} [Decidable P] (h : ¬ P) (k : B) : ifB (decide P) A B := by rw [decide_eq_false h]; exact r_ifF k
theorem r_ifND_T {P : Prop} [Decidable P] (h : ¬ P) (k : A) : ifB (!decide P) A B := by rw [decide_eq_false h]; exact k
theorem r_ifND_F {P : Prop} [Decidable P] (h : P) (k : B) : ifB (!decide P) A B := by rw [decide_eq_true h]; exact r_ifF k
theorem r_notT (h : b = true) (k : B) : ifB (!b) A B := by rw [h]; exact r_ifF k
theorem r_notF (h : b = false) (k : A) : ifB (!b) A B := by rw [h]; exact k
theorem r_bT (h : b = true) (k : A) : ifB b A B := by rw [h]; exact k
theorem r_bF (h : b = false) (k : B) : ifB b A B := by rw [h]; exact r_ifF k
theorem r_var {n : Nat} (h : σ[n]? = some (some v)) (k : Q v H) : tVar n σ H Q := ⟨v, h, k⟩
theorem r_c (k : Q v H) : tC v σ H Q := k
theorem r_op {r : R2} (k : ta σ H fun x H1 => tb σ H1 fun y H2 => r x y H2 Q) : tOp r ta tb σ H Q := k
theorem r_un {r : V → Hp → VK → Prop} (k : ta σ H fun x H1 => r x H1 Q) : tUn r ta σ H Q := k
theorem r_and (k : tt σ H fun c H1 => ifB c (tu σ H1 QB) (QB false H1)) : tAnd tt tu σ H QB := k
theorem r_or (k : tt σ H fun c H1 => ifB c (QB true H1) (tu σ H1 QB)) : tOr tt tu σ H QB := k
theorem r_not (k : tt σ H fun c H1 => QB (!c) H1) : tNot tt σ H QB := k
theorem r_andV (k : ta σ H fun x H1 => isB x (fun c H2 => ifB c (tb σ H2 Q) (Q (.bl false) H2)) H1) : tAndV ta tb σ H Q := k
theorem r_orV (k : ta σ H fun x H1 => isB x (fun c H2 => ifB c (Q (.bl true) H2) (tb σ H2 Q)) H1) : tOrV ta tb σ H Q := k
theorem r_notV (k : ta σ H fun x H1 => isB x (fun c H2 => Q (.bl (!c)) H2) H1) : tNotV ta σ H Q := k
theorem r_ifE (k : tt σ H fun c H1 => ifB c (ta σ H1 Q) (tb σ H1 Q)) : tIf tt ta tb σ H Q := k
theorem r_chain {r r' : R2} (k : ta σ H fun x H1 => tb σ H1 fun y H2 => r x y H2 fun z H3 => isB z (fun c H4 => ifB c (tc σ H4 fun w H5 => r' y w H5 Q) (Q (.bl false) H4)) H3) : tChain r r' ta tb tc σ H Q := k
theorem r_nil (k : QL [] H) : tNil σ H QL := k
theorem r_cons (k : ta σ H fun x H1 => tl σ H1 fun xs H2 => QL (x :: xs) H2) : tCons ta tl σ H QL := k
theorem r_cb {r : List V → Hp → VK → Prop} (k : tl σ H fun vs H1 => r vs H1 Q) : tCB r tl σ H Q := k
theorem r_lst (k : tl σ H fun xs H1 => mkL xs H1 Q) : tLst tl σ H Q := k
theorem r_tup (k : tl σ H fun xs H1 => mkT xs H1 Q) : tTup tl σ H Q := k
theorem r_mkL (A : At H0 L H) (hl : xs.length ≤ 10000000) (k : ∀ p H', At H0 ((p, .lst xs) :: L) H' → Q (.ref p) H') : mkL xs H Q := ⟨sz hl, fun p hp => k p _ (A.alloc hp _)⟩
theorem r_mkT (A : At H0 L H) (hl : xs.length ≤ 10000000) (k : ∀ p H', At H0 ((p, .tup xs) :: L) H' → Q (.ref p) H') : mkT xs H Q := ⟨sz hl, fun p hp => k p _ (A.alloc hp _)⟩
theorem r_call {sp : Sp} {E : XK} (k : tl σ H fun vs H1 => sp vs H1 Q E) : tCall sp [] E tl σ H Q := by
  show tl σ H fun vs H1 => sp (vs ++ []) H1 Q E
  have e : (fun (vs : List V) (H1 : Hp) => sp (vs ++ []) H1 Q E) = fun vs H1 => sp vs H1 Q E := by funext vs H1; rw [List.append_nil]
  rw [e]
  exact k
/-! ints -/
theorem r_I0 {g : Int → Int → V} (k : Q (g i j) H) : rI0 g (.int i) (.int j) H Q := ⟨i, j, rfl, rfl, k⟩
theorem r_I {C : Int → Int → Prop} {g : Int → Int → V} (h : C i j) (k : Q (g i j) H) : rI C g (.int i) (.int j) H Q := ⟨i, j, rfl, rfl, h, k⟩
theorem r_U {g : Int → V} (k : Q (g i) H) : rU g (.int i) H Q := ⟨i, rfl, k⟩
theorem dec_int {a b : Int} : decide (V.int a = V.int b) = decide (a = b) := by
  by_cases h : a = b
  · subst h; simp
  · rw [decide_eq_false h, decide_eq_false (fun e => h (V.int.inj e))]
theorem dec_bl {a b : Bool} : decide (V.bl a = V.bl b) = decide (a = b) := by cases a <;> cases b <;> rfl
theorem r_eqI (k : Q (.bl (decide (i = j))) H) : rEq (.int i) (.int j) H Q := ⟨rfl, by rw [dec_int]; exact k⟩
theorem r_neI (k : Q (.bl (!decide (i = j))) H) : rNe (.int i) (.int j) H Q := ⟨rfl, by rw [dec_int]; exact k⟩
theorem r_eqB {c d : Bool} (k : Q (.bl (decide (c = d))) H) : rEq (.bl c) (.bl d) H Q := ⟨rfl, by rw [dec_bl]; exact k⟩
theorem r_neB {c d : Bool} (k : Q (.bl (!decide (c = d))) H) : rNe (.bl c) (.bl d) H Q := ⟨rfl, by rw [dec_bl]; exact k⟩
theorem r_isBl {c d : Bool} (k : Q (.bl (decide (c = d))) H) : rIsB (.bl c) (.bl d) H Q := ⟨c, d, rfl, rfl, k⟩
theorem r_isNBl {c d : Bool} (k : Q (.bl (!decide (c = d))) H) : rNotB (.bl c) (.bl d) H Q := ⟨c, d, rfl, rfl, k⟩
theorem r_abs (k : Q (.int (i.natAbs : Int)) H) : rAbs [.int i] H Q := ⟨i, rfl, by
  have e : (if i < 0 then -i else i) = (i.natAbs : Int) := by split <;> omega
  rw [e]; exact k⟩
theorem r_max2 (k : Q (.int (max i j)) H) : rMax2 [.int i, .int j] H Q := ⟨i, j, rfl, by
  have e : (if j > i then j else i) = max i j := by split <;> omega
  rw [e]; exact k⟩
theorem r_min2 (k : Q (.int (min i j)) H) : rMin2 [.int i, .int j] H Q := ⟨i, j, rfl, by
  have e : (if j < i then j else i) = min i j := by split <;> omega
  rw [e]; exact k⟩
/-! lists -/
theorem r_len (h : SqL K H p xs) (k : Q (.int (xs.length : Int)) H) : rLenQ K [.ref p] H Q := ⟨p, xs, rfl, .inl h, k⟩
theorem r_lenI (h : SqL K H p (ns.map V.int)) (k : Q (.int (ns.length : Int)) H) : rLenQ K [.ref p] H Q := ⟨p, _, rfl, .inl h, by rw [List.length_map]; exact k⟩
theorem r_lenT (h : SqT K H p xs) (k : Q (.int (xs.length : Int)) H) : rLenQ K [.ref p] H Q := ⟨p, xs, rfl, .inr h, k⟩
theorem r_list (A : At H0 L H) (h : SqL K H p xs) (k : ∀ l H', At H0 ((l, .lst xs) :: L) H' → Q (.ref l) H') : rListQ K [.ref p] H Q := ⟨p, xs, rfl, .inl h, fun l hl => k l _ (A.alloc hl _)⟩
theorem r_listT (A : At H0 L H) (h : SqT K H p xs) (k : ∀ l H', At H0 ((l, .lst xs) :: L) H' → Q (.ref l) H') : rListQ K [.ref p] H Q := ⟨p, xs, rfl, .inr h, fun l hl => k l _ (A.alloc hl _)⟩
theorem r_ixI (h : SqL K H p (ns.map V.int)) (h1 : -(ns.length : Int) ≤ i) (h2 : i < ns.length) (k : Q (.int (gz ns i)) H) : rIxL K (.ref p) (.int i) H Q := ⟨p, _, i, _, rfl, rfl, h, atI_gz h1 h2, k⟩
theorem r_ixL (h : SqL K H p xs) (ha : atI xs i = some v) (k : Q v H) : rIxL K (.ref p) (.int i) H Q := ⟨p, xs, i, v, rfl, rfl, h, ha, k⟩
theorem r_ixT (h : SqT K H p xs) (ha : atI xs i = some v) (k : Q v H) : rIxT K (.ref p) (.int i) H Q := ⟨p, xs, i, v, rfl, rfl, h, ha, k⟩
theorem r_ixTI (h : SqT K H p (ns.map V.int)) (h1 : -(ns.length : Int) ≤ i) (h2 : i < ns.length) (k : Q (.int (gz ns i)) H) : rIxT K (.ref p) (.int i) H Q := ⟨p, _, i, _, rfl, rfl, h, atI_gz h1 h2, k⟩
theorem r_sum (h : SqL K H p (ns.map V.int)) (k : Q (.int ns.sum) H) : rSum K [.ref p] H Q := ⟨p, ns, rfl, h, k⟩
theorem r_all (h : SqL K H p (bs.map V.bl)) (k : Q (.bl (bs.all id)) H) : rAll K [.ref p] H Q := ⟨p, bs, rfl, h, k⟩
theorem r_any (h : SqL K H p (bs.map V.bl)) (k : Q (.bl (bs.any id)) H) : rAny K [.ref p] H Q := ⟨p, bs, rfl, h, k⟩
theorem r_max (h : SqL K H p (ns.map V.int)) (hn : 0 < ns.length) (k : ∀ m, m ∈ ns → (∀ y, y ∈ ns → y ≤ m) → Q (.int m) H) : rMax K [.ref p] H Q := ⟨p, ns, rfl, h, hn, k⟩
theorem r_min (h : SqL K H p (ns.map V.int)) (hn : 0 < ns.length) (k : ∀ m, m ∈ ns → (∀ y, y ∈ ns → m ≤ y) → Q (.int m) H) : rMin K [.ref p] H Q := ⟨p, ns, rfl, h, hn, k⟩
/-! fields -/
theorem r_fld {f : Str} (k : ta σ H fun x H1 => fldK K f x H1 Q) : tFld K ta f σ H Q := k
theorem r_fldK {f : Str} {a C dx : Addr} {fs : List (Str × V)} (h : H a = some (.ins C dx fs)) (hc : Cls K C) (hn : NoAttr K C f) (hl : fs.lookup f = some v) (k : Q v H) : fldK K f (.ref a) H Q := ⟨a, C, dx, fs, v, rfl, h, hc, hn, hl, k⟩
/-! comprehensions over a range -/
def rng1 (vs : List V) (H : Hp) (R : It → Hp → Prop) : Prop := ∃ j : Int, vs = [.int j] ∧ -(2 ^ 62) ≤ j ∧ j < 2 ^ 62 ∧ R (Itr 0 j.toNat) H
def lcB (J : It) (g : TG) (tt : TT) (te : TE) (vs : List Nat) (σ : L2.St) (H1 : Hp) (Q : VK) : Prop := ∀ D, H1 D = none → ∃ W : Nat → Nat → Hp → Prop, (∃ m, W 0 m (upd H1 D (.lst []))) ∧ ∀ i m H, W i m H →
  (J.stop i H ∧ Q (.ref D) H) ∨ (J.go i H ∧ ∃ Nx : Hp → Prop, (∀ H', Nx H' → ∃ m', m' < m ∧ W (i + 1) m' H') ∧ ∀ x H', J.yld i H x H' → g x (wipe σ vs) H' fun σ2 H2 => wipe σ2 vs = wipe σ vs ∧ tt σ2 H2 fun b H3 =>
    if b = true then te σ2 H3 fun y H4 => ∃ acc, H4 D = some (.lst acc) ∧ acc.length < sizeLine ∧ Nx (upd H4 D (.lst (acc ++ [y]))) else Nx H3)
theorem r_lcR {g : TG} {vs : List Nat} (k : tl σ H fun us H1 => rng1 us H1 fun J H2 => lcB J g tt te vs σ H2 Q) : tLc (iRng1 tl) g tt te vs σ H Q := k
theorem r_rng1 {R : It → Hp → Prop} {n : Nat} (h : i = (n : Int)) (hn : n ≤ 10000000) (k : R (Itr 0 n) H) : rng1 [.int i] H R := by
  subst h
  exact ⟨_, rfl, by omega, by omega, by rw [show ((n : Int)).toNat = n by omega]; exact k⟩
/-- the end of a turn: the value, what the turn made beside the list is let go -/
def TurnQ (H0 : Hp) (L : List (Addr × HO)) (w : V) (Q : VK) : Prop := ∀ y H' L', y = w → At H0 (L' ++ L) H' → Q y H'
theorem TurnQ.t0 {w : V} (q : TurnQ H0 L w Q) (e : v = w) (A : At H0 L H) : Q v H := q _ _ [] e A
theorem TurnQ.t1 {w : V} {x : Addr × HO} (q : TurnQ H0 L w Q) (e : v = w) (A : At H0 (x :: L) H) : Q v H := q _ _ [x] e A
theorem TurnQ.t2 {w : V} {x y : Addr × HO} (q : TurnQ H0 L w Q) (e : v = w) (A : At H0 (x :: y :: L) H) : Q v H := q _ _ [x, y] e A
theorem TurnQ.t3 {w : V} {x y z : Addr × HO} (q : TurnQ H0 L w Q) (e : v = w) (A : At H0 (x :: y :: z :: L) H) : Q v H := q _ _ [x, y, z] e A
theorem At.dropMid {L' : List (Addr × HO)} {H0 H : Hp} {L : List (Addr × HO)} (A : At H0 (L' ++ L) H) : At H0 L H := A.sub (List.sublist_append_right L' L)
theorem range_map_succ {α : Type} (f : Nat → α) (i : Nat) : (List.range (i + 1)).map f = (List.range i).map f ++ [f i] := by
  rw [List.range_succ, List.map_append]
  rfl
theorem r_lcItr {m : Nat} {vs : List Nat} {n : Nat} (f : Nat → V) (A : At H0 L H) (hn : n < 10000000) (hw : ∀ x, wipe ((wipe σ vs).set m (some x)) vs = wipe σ vs)
    (hs : ∀ (i : Nat) (D : Addr) H' Q', i < n → At H0 ((D, .lst ((List.range i).map f)) :: L) H' → TurnQ H0 ((D, .lst ((List.range i).map f)) :: L) (f i) Q' → te ((wipe σ vs).set m (some (.int (i : Int)))) H' Q')
    (k : ∀ D H', At H0 ((D, .lst ((List.range n).map f)) :: L) H' → Q (.ref D) H') : lcB (Itr 0 n) (gName m) tYes te vs σ H Q := fun D hD =>
  lc_range (lo := 0) (n := n) (fun i H' => At H0 ((D, .lst ((List.range i).map f)) :: L) H') (A.alloc hD _) (fun i H' hi A' => by
    refine ⟨hw _, ?_⟩
    show te ((wipe σ vs).set m (some (.int ((0 : Int) + (i : Int))))) H' _
    rw [Int.zero_add]
    refine hs i D H' _ hi A' fun y H4 L' e A4 => ?_
    have B := A4.dropMid
    refine ⟨_, B.get List.mem_cons_self, ?_, ?_⟩
    · rw [List.length_map, List.length_range]
      exact sz' (by omega)
    · subst e
      rw [range_map_succ]
      exact B.put _) (fun H' A' => k D H' A')
/-- over a list that stands -/
def lst1 (K : PySem.W.Frag) (x : V) (H : Hp) (R : It → Hp → Prop) : Prop := ∃ a, x = .ref a ∧ (∃ xs, SqL K H a xs) ∧ R (Itl K a) H
theorem r_lcL {g : TG} {vs : List Nat} (k : ta σ H fun x H1 => lst1 K x H1 fun J H2 => lcB J g tt te vs σ H2 Q) : tLc (iList K ta) g tt te vs σ H Q := k
theorem r_lst1 {R : It → Hp → Prop} (h : SqL K H p xs) (k : R (Itl K p) H) : lst1 K (.ref p) H R := ⟨p, rfl, ⟨xs, h⟩, k⟩
theorem take_map_succ {α β : Type} (f : α → β) {l : List α} {i : Nat} {x : α} (h : l[i]? = some x) : (l.take (i + 1)).map f = (l.take i).map f ++ [f x] := by
  rw [List.take_add_one, h, List.map_append]
  rfl
theorem r_lcItl {m : Nat} {vs : List Nat} (f : V → V) (A : At H0 L H) (hx : ∀ L' H', At H0 (L' ++ L) H' → SqL K H' p xs) (hn : xs.length < 10000000) (hw : ∀ x, wipe ((wipe σ vs).set m (some x)) vs = wipe σ vs)
    (hs : ∀ (i : Nat) (x : V) (D : Addr) H' Q', xs[i]? = some x → At H0 ((D, .lst ((xs.take i).map f)) :: L) H' → TurnQ H0 ((D, .lst ((xs.take i).map f)) :: L) (f x) Q' → te ((wipe σ vs).set m (some x)) H' Q')
    (k : ∀ D H', At H0 ((D, .lst (xs.map f)) :: L) H' → Q (.ref D) H') : lcB (Itl K p) (gName m) tYes te vs σ H Q := fun D hD =>
  lc_list (K := K) (a := p) (xs := xs) (fun i H' => At H0 ((D, .lst ((xs.take i).map f)) :: L) H') (A.alloc hD _) (fun i H' _ A' => hx [_] H' A') (fun i x H' hi A' => by
    refine ⟨hw _, ?_⟩
    show te ((wipe σ vs).set m (some x)) H' _
    refine hs i x D H' _ hi A' fun y H4 L' e A4 => ?_
    have B := A4.dropMid
    refine ⟨_, B.get List.mem_cons_self, ?_, ?_⟩
    · rw [List.length_map, List.length_take]
      exact sz' (by omega)
    · subst e
      rw [take_map_succ f hi]
      exact B.put _) (fun H' A' => by
    rw [List.take_length] at A'
    exact k D H' A')
/-- .. of ints, giving ints, bools -/
theorem r_lcItlI {m : Nat} {vs : List Nat} (f : Int → V) (A : At H0 L H) (h0 : SqL K H0 p (ns.map V.int) ∨ (p, HO.lst (ns.map V.int)) ∈ L) (hn : ns.length < 10000000) (hw : ∀ x, wipe ((wipe σ vs).set m (some x)) vs = wipe σ vs)
    (hs : ∀ (i : Nat) (x : Int) (D : Addr) H' Q', ns[i]? = some x → At H0 ((D, .lst ((ns.take i).map f)) :: L) H' → TurnQ H0 ((D, .lst ((ns.take i).map f)) :: L) (f x) Q' → te ((wipe σ vs).set m (some (.int x))) H' Q')
    (k : ∀ D H', At H0 ((D, .lst (ns.map f)) :: L) H' → Q (.ref D) H') : lcB (Itl K p) (gName m) tYes te vs σ H Q := fun D hD =>
  lc_list (K := K) (a := p) (xs := ns.map V.int) (fun i H' => At H0 ((D, .lst ((ns.take i).map f)) :: L) H') (A.alloc hD _) (fun i H' _ A' => by
    rcases h0 with h | h
    · exact A'.sq h
    · exact A'.sqo (List.mem_cons_of_mem _ h)) (fun i x H' hi A' => by
    refine ⟨hw _, ?_⟩
    rw [List.getElem?_map] at hi
    obtain ⟨z, hz, rfl⟩ : ∃ z, ns[i]? = some z ∧ V.int z = x := by
      cases e : ns[i]? with
      | none => rw [e] at hi; cases hi
      | some z => rw [e] at hi; exact ⟨z, rfl, Option.some.inj hi⟩
    show te ((wipe σ vs).set m (some (V.int z))) H' _
    refine hs i z D H' _ hz A' fun y H4 L' e A4 => ?_
    have B := A4.dropMid
    refine ⟨_, B.get List.mem_cons_self, ?_, ?_⟩
    · rw [List.length_map, List.length_take]
      exact sz' (by omega)
    · subst e
      rw [take_map_succ f hz]
      exact B.put _) (fun H' A' => by
    rw [List.length_map, List.take_length] at A'
    exact k D H' A')
/-! the same, ints or bools given -/
theorem map_bl {α : Type} (l : List α) (g : α → Bool) : l.map (fun k => V.bl (g k)) = (l.map g).map V.bl := by rw [List.map_map]; rfl
theorem map_in {α : Type} (l : List α) (g : α → Int) : l.map (fun k => V.int (g k)) = (l.map g).map V.int := by rw [List.map_map]; rfl
theorem r_lcRB {m : Nat} {vs : List Nat} {n : Nat} (g : Nat → Bool) (A : At H0 L H) (hn : n < 10000000) (hw : ∀ x, wipe ((wipe σ vs).set m (some x)) vs = wipe σ vs)
    (hs : ∀ (i : Nat) (D : Addr) H' Q', i < n → At H0 ((D, .lst ((List.range i).map fun k => V.bl (g k))) :: L) H' → TurnQ H0 ((D, .lst ((List.range i).map fun k => V.bl (g k))) :: L) (V.bl (g i)) Q' → te ((wipe σ vs).set m (some (.int (i : Int)))) H' Q')
    (k : ∀ D H', At H0 ((D, .lst (((List.range n).map g).map V.bl)) :: L) H' → Q (.ref D) H') : lcB (Itr 0 n) (gName m) tYes te vs σ H Q :=
  r_lcItr (fun k => V.bl (g k)) A hn hw hs fun D H' A' => k D H' (by rw [← map_bl]; exact A')
theorem r_lcRI {m : Nat} {vs : List Nat} {n : Nat} (g : Nat → Int) (A : At H0 L H) (hn : n < 10000000) (hw : ∀ x, wipe ((wipe σ vs).set m (some x)) vs = wipe σ vs)
    (hs : ∀ (i : Nat) (D : Addr) H' Q', i < n → At H0 ((D, .lst ((List.range i).map fun k => V.int (g k))) :: L) H' → TurnQ H0 ((D, .lst ((List.range i).map fun k => V.int (g k))) :: L) (V.int (g i)) Q' → te ((wipe σ vs).set m (some (.int (i : Int)))) H' Q')
    (k : ∀ D H', At H0 ((D, .lst (((List.range n).map g).map V.int)) :: L) H' → Q (.ref D) H') : lcB (Itr 0 n) (gName m) tYes te vs σ H Q :=
  r_lcItr (fun k => V.int (g k)) A hn hw hs fun D H' A' => k D H' (by rw [← map_in]; exact A')
theorem r_lcLB {m : Nat} {vs : List Nat} (g : Int → Bool) (A : At H0 L H) (h0 : SqL K H0 p (ns.map V.int) ∨ (p, HO.lst (ns.map V.int)) ∈ L) (hn : ns.length < 10000000) (hw : ∀ x, wipe ((wipe σ vs).set m (some x)) vs = wipe σ vs)
    (hs : ∀ (i : Nat) (x : Int) (D : Addr) H' Q', ns[i]? = some x → At H0 ((D, .lst ((ns.take i).map fun k => V.bl (g k))) :: L) H' → TurnQ H0 ((D, .lst ((ns.take i).map fun k => V.bl (g k))) :: L) (V.bl (g x)) Q' → te ((wipe σ vs).set m (some (.int x))) H' Q')
    (k : ∀ D H', At H0 ((D, .lst ((ns.map g).map V.bl)) :: L) H' → Q (.ref D) H') : lcB (Itl K p) (gName m) tYes te vs σ H Q :=
  r_lcItlI (fun k => V.bl (g k)) A h0 hn hw hs fun D H' A' => k D H' (by rw [← map_bl]; exact A')
theorem r_lcLI {m : Nat} {vs : List Nat} (g : Int → Int) (A : At H0 L H) (h0 : SqL K H0 p (ns.map V.int) ∨ (p, HO.lst (ns.map V.int)) ∈ L) (hn : ns.length < 10000000) (hw : ∀ x, wipe ((wipe σ vs).set m (some x)) vs = wipe σ vs)
    (hs : ∀ (i : Nat) (x : Int) (D : Addr) H' Q', ns[i]? = some x → At H0 ((D, .lst ((ns.take i).map fun k => V.int (g k))) :: L) H' → TurnQ H0 ((D, .lst ((ns.take i).map fun k => V.int (g k))) :: L) (V.int (g x)) Q' → te ((wipe σ vs).set m (some (.int x))) H' Q')
    (k : ∀ D H', At H0 ((D, .lst ((ns.map g).map V.int)) :: L) H' → Q (.ref D) H') : lcB (Itl K p) (gName m) tYes te vs σ H Q :=
  r_lcItlI (fun k => V.int (g k)) A h0 hn hw hs fun D H' A' => k D H' (by rw [← map_in]; exact A')
/-! loops -/
def lstF (K : PySem.W.Frag) (x : V) (H : Hp) (R : It → Hp → Prop) : Prop := lst1 K x H R
def forB (J : It) (g : TG) (tb : TS) (D : Ends) (σ : L2.St) (H1 : Hp) : Prop := ∃ W : Nat → Nat → L2.St → Hp → Prop, (∃ m, W 0 m σ H1) ∧ ∀ i m σ H, W i m σ H →
  (J.stop i H ∧ D.nx σ H) ∨ (J.go i H ∧ ∃ N : L2.St → Hp → Prop, (∀ σ' H', N σ' H' → ∃ m', m' < m ∧ W (i + 1) m' σ' H') ∧ ∀ x H', J.yld i H x H' → g x σ H' fun σ2 H2 => tb { D with nx := N, ct := N, bk := D.nx } σ2 H2)
theorem r_forL {g : TG} {tb : TS} (k : ta σ H fun x H1 => lst1 K x H1 fun J H2 => forB J g tb D σ H2) : tFor (iList K ta) g tb D σ H := k
theorem r_forR {g : TG} {tb : TS} (k : tl σ H fun us H1 => rng1 us H1 fun J H2 => forB J g tb D σ H2) : tFor (iRng1 tl) g tb D σ H := k
theorem r_forItr {g : TG} {tb : TS} {n : Nat} (Pv : Nat → L2.St → Hp → Prop) (h0 : Pv 0 σ H)
    (hs : ∀ i σ H (N : L2.St → Hp → Prop), i < n → Pv i σ H → (∀ σ' H', Pv (i + 1) σ' H' → N σ' H') → g (.int (i : Int)) σ H fun σ2 H2 => tb { D with nx := N, ct := N, bk := D.nx } σ2 H2) (hd : ∀ σ H, Pv n σ H → D.nx σ H) : forB (Itr 0 n) g tb D σ H :=
  for_range (lo := 0) (n := n) Pv h0 (fun i σ H hi p => by
    rw [Int.zero_add]
    exact hs i σ H _ hi p fun _ _ z => z) hd
theorem r_forItl {g : TG} {tb : TS} (xs : List V) (Pv : Nat → L2.St → Hp → Prop) (h0 : Pv 0 σ H) (hl : ∀ i σ H, i ≤ xs.length → Pv i σ H → SqL K H p xs)
    (hs : ∀ i x σ H (N : L2.St → Hp → Prop), xs[i]? = some x → Pv i σ H → (∀ σ' H', Pv (i + 1) σ' H' → N σ' H') → g x σ H fun σ2 H2 => tb { D with nx := N, ct := N, bk := D.nx } σ2 H2) (hd : ∀ σ H, Pv xs.length σ H → D.nx σ H) : forB (Itl K p) g tb D σ H :=
  for_list (K := K) (a := p) (xs := xs) Pv h0 hl (fun i x σ H hi pp => hs i x σ H _ hi pp fun _ _ z => z) hd
theorem r_forItlI {n : Nat} {tb : TS} (ns : List Int) (Pv : Nat → L2.St → Hp → Prop) (h0 : Pv 0 σ H) (hl : ∀ i σ H, i ≤ ns.length → Pv i σ H → SqL K H p (ns.map V.int))
    (hs : ∀ i x σ H (N : L2.St → Hp → Prop), ns[i]? = some x → Pv i σ H → (∀ σ' H', Pv (i + 1) σ' H' → N σ' H') → tb { D with nx := N, ct := N, bk := D.nx } (σ.set n (some (V.int x))) H) (hd : ∀ σ H, Pv ns.length σ H → D.nx σ H) : forB (Itl K p) (gName n) tb D σ H :=
  r_forItl (K := K) (p := p) (ns.map V.int) Pv h0 (fun i σ H hi => hl i σ H (by rw [List.length_map] at hi; exact hi)) (fun i x σ H N hi pp hN => by
    rw [List.getElem?_map] at hi
    obtain ⟨z, hz, rfl⟩ : ∃ z, ns[i]? = some z ∧ V.int z = x := by
      cases e : ns[i]? with
      | none => rw [e] at hi; cases hi
      | some z => rw [e] at hi; exact ⟨z, rfl, Option.some.inj hi⟩
    exact hs i z σ H N hz pp hN) (fun σ H => by rw [List.length_map]; exact hd σ H)
/-! appending, storing by place -/
def bmK (K : PySem.W.Frag) (T : String) (r : V → List V → Hp → VK → Prop) (t : TA) (σ : L2.St) (x : V) (H : Hp) (Q : VK) : Prop := tyV K T x H ∧ t σ H fun xs H2 => r x xs H2 Q
theorem r_bm {T : String} {r : V → List V → Hp → VK → Prop} (k : ta σ H fun x H1 => bmK K T r tl σ x H1 Q) : tBM K T r ta tl σ H Q := k
theorem r_bmL {r : V → List V → Hp → VK → Prop} (h : SqL K H p xs) (k : tl σ H fun xs H2 => r (.ref p) xs H2 Q) : bmK K "list" r tl σ (.ref p) H Q := ⟨Or.inl ⟨rfl, _, h⟩, k⟩
theorem r_append (A : At H0 ((p, .lst xs) :: L) H) (hl : xs.length < 10000000) (k : ∀ H', At H0 ((p, .lst (xs ++ [v])) :: L) H' → Q .non H') : rAppend (.ref p) [v] H Q :=
  ⟨p, xs, v, rfl, rfl, A.get List.mem_cons_self, sz' hl, k _ (A.put _)⟩
theorem r_gName {n : Nat} {QS : L2.St → Hp → Prop} (k : QS (σ.set n (some v)) H) : gName n v σ H QS := k
theorem r_gSub {s : TSet} {QS : L2.St → Hp → Prop} (k : ta σ H fun o H1 => tb σ H1 fun i H2 => s o i v H2 fun H3 => QS σ H3) : gSub ta tb s v σ H QS := k
theorem r_asgG {g : TG} (k : te σ H (fun x H1 => g x σ H1 D.nx)) : tAsg te g D σ H := k
theorem r_setL {QH : Hp → Prop} (A : At H0 ((p, .lst xs) :: L) H) (h1 : 0 ≤ i) (h2 : i < xs.length) (k : ∀ H', At H0 ((p, .lst (xs.set i.toNat v)) :: L) H' → QH H') : rSetL (.ref p) (.int i) v H QH :=
  ⟨p, xs, i, i.toNat, rfl, rfl, A.get List.mem_cons_self, ixN_gz h1 h2, k _ (A.put _)⟩
/-! isinstance of plain things -/
theorem r_isiI {b : Bool} {n : String} (h : kitB "int" n = some b) (k : Q (.bl b) H) : rIsi K [.int i, .ty n] H Q := ⟨_, _, _, _, b, rfl, .ty n, .base (.int i), kit_ty h, k⟩
theorem r_isiB {b c : Bool} {n : String} (h : kitB "bool" n = some b) (k : Q (.bl b) H) : rIsi K [.bl c, .ty n] H Q := ⟨_, _, _, _, b, rfl, .ty n, .base (.bl c), kit_ty h, k⟩
theorem ty_list (h : SqL K H p xs) : TyX K H (.ref p) (.type "list") := by
  rcases h with (h | ⟨o, h⟩) | ⟨o, its, n, h, hc, _⟩
  · exact .base (.lst h)
  · exact .base (.frz h)
  · exact .kList h hc
theorem r_isiL {b : Bool} {n : String} (hs : SqL K H p xs) (h : kitB "list" n = some b) (k : Q (.bl b) H) : rIsi K [.ref p, .ty n] H Q := ⟨_, _, _, _, b, rfl, .ty n, ty_list hs, kit_ty h, k⟩
/-! own instances -/
def mkC (C : Addr) (sp : Sp) (vs : List V) (H1 : Hp) (Q : VK) (E : XK) : Prop := ∀ x dx, H1 x = none → H1 dx = none → dx ≠ x → sp (.ref x :: vs) (upd (upd H1 dx (.own x)) x (.ins C dx [])) (fun v H2 => v = .non ∧ Q (.ref x) H2) E
theorem r_make {C : Addr} {sp : Sp} {E : XK} (k : tl σ H fun vs H1 => mkC C sp vs H1 Q E) : tMake C sp [] E tl σ H Q := by
  show tl σ H fun vs H1 => ∀ x dx, H1 x = none → H1 dx = none → dx ≠ x → sp (.ref x :: (vs ++ [])) (upd (upd H1 dx (.own x)) x (.ins C dx [])) (fun v H2 => v = .non ∧ Q (.ref x) H2) E
  have e : (fun (vs : List V) (H1 : Hp) => ∀ x dx, H1 x = none → H1 dx = none → dx ≠ x → sp (.ref x :: (vs ++ [])) (upd (upd H1 dx (.own x)) x (.ins C dx [])) (fun v H2 => v = .non ∧ Q (.ref x) H2) E) = fun vs H1 => mkC C sp vs H1 Q E := by
    funext vs H1
    rw [List.append_nil]
    rfl
  rw [e]
  exact k
/-- the new instance's heap -/
theorem same_mk {H : Hp} {x dx C : Addr} (nx : H x = none) (nd : H dx = none) : Same H (upd (upd H dx (.own x)) x (.ins C dx [])) := fun b o e => by
  rw [upd_ne (ne_of_none e nx), upd_ne (ne_of_none e nd)]
  exact e
def mthK (C : Addr) (m : Str) (sp : Sp) (tl : TA) (σ : L2.St) (x : V) (H1 : Hp) (Q : VK) (E : XK) : Prop := ∃ a dx fs, x = .ref a ∧ H1 a = some (.ins C dx fs) ∧ fs.lookup m = none ∧ tl σ H1 fun vs H2 => sp (x :: vs) H2 Q E
theorem r_meth {C : Addr} {m : Str} {sp : Sp} {E : XK} (k : ta σ H fun x H1 => mthK C m sp tl σ x H1 Q E) : tMeth C m sp [] E ta tl σ H Q := by
  show ta σ H fun x H1 => ∃ a dx fs, x = .ref a ∧ H1 a = some (.ins C dx fs) ∧ fs.lookup m = none ∧ tl σ H1 fun vs H2 => sp (x :: (vs ++ [])) H2 Q E
  have e : (fun (x : V) (H1 : Hp) => ∃ a dx fs, x = .ref a ∧ H1 a = some (.ins C dx fs) ∧ fs.lookup m = none ∧ tl σ H1 fun vs H2 => sp (x :: (vs ++ [])) H2 Q E) = fun x H1 => mthK C m sp tl σ x H1 Q E := by
    funext x H1
    unfold mthK
    congr
    funext a
    congr
    funext dx
    congr
    funext fs
    have e2 : (fun (vs : List V) (H2 : Hp) => sp (x :: (vs ++ [])) H2 Q E) = fun vs H2 => sp (x :: vs) H2 Q E := by
      funext vs H2
      rw [List.append_nil]
    rw [e2]
  rw [e]
  exact k
theorem r_mthK {C dx a : Addr} {m : Str} {sp : Sp} {E : XK} {fs : List (Str × V)} (h : H a = some (.ins C dx fs)) (hl : fs.lookup m = none) (k : tl σ H fun vs H2 => sp (.ref a :: vs) H2 Q E) : mthK C m sp tl σ (.ref a) H Q E := ⟨a, dx, fs, rfl, h, hl, k⟩
/-- self.f = e -/
def sfK (K : PySem.W.Frag) (f : Str) (y x : V) (H2 : Hp) (N : Hp → Prop) : Prop := ∃ a C dx fs, x = .ref a ∧ H2 a = some (.ins C dx fs) ∧ Cls K C ∧ NoAttr K C f ∧ fs.length < 1000 ∧ N (upd H2 a (.ins C dx (putF f y fs)))
theorem r_sfld {f : Str} (k : tb σ H fun y H1 => ta σ H1 fun x H2 => sfK K f y x H2 fun H3 => D.nx σ H3) : sFld K ta tb f D σ H := k
theorem r_sfK {f : Str} {y : V} {a C dx : Addr} {fs : List (Str × V)} {N : Hp → Prop} (h : H a = some (.ins C dx fs)) (hc : Cls K C) (hn : NoAttr K C f) (hl : fs.length < 1000) (k : N (upd H a (.ins C dx (putF f y fs)))) : sfK K f y (.ref a) H N := ⟨a, C, dx, fs, rfl, h, hc, hn, hl, k⟩
/-- isinstance of an own instance -/
theorem r_isiO {a C C' dx : Addr} {fs : List (Str × V)} {b : Bool} (h : H a = some (.ins C dx fs)) (hc : Cls K C) (hi : PySem.W.findIn K (.ref C) "__class__" = some (some (.builtin "object.__class__")) ∧ PySem.W.specialIn K (.builtin "object.__class__") "__get__" = some (some (.builtin "getset_descriptor.__get__")) ∧ PySem.W.takesIn K (.builtin "object.__class__") = some true ∧ PySem.W.mroIn K C (.type "object") = some true)
    (hk : PySem.W.kitOne K (.ref C) (.ref C') = some b) (k : Q (.bl b) H) : rIsi K [.ref a, .ref C'] H Q := ⟨_, _, _, _, b, rfl, .own C', .base (.ins h hc hi.1 hi.2.1 hi.2.2.1 hi.2.2.2), hk, k⟩
theorem r_ifNT (k : B) : ifB (!true) A B := r_ifF k
theorem r_ifNF (k : A) : ifB (!false) A B := k
theorem r_isiII (k : Q (.bl true) H) : rIsi K [.int i, .ty "int"] H Q := r_isiI (by decide +kernel) k
theorem r_isiIB (k : Q (.bl false) H) : rIsi K [.int i, .ty "bool"] H Q := r_isiI (by decide +kernel) k
theorem r_isiBB {c : Bool} (k : Q (.bl true) H) : rIsi K [.bl c, .ty "bool"] H Q := r_isiB (by decide +kernel) k
theorem r_isiBI {c : Bool} (k : Q (.bl true) H) : rIsi K [.bl c, .ty "int"] H Q := r_isiB (by decide +kernel) k
theorem r_isiLL (hs : SqL K H p xs) (k : Q (.bl true) H) : rIsi K [.ref p, .ty "list"] H Q := r_isiL hs (by decide +kernel) k
/-! lists compared -/
theorem dpAll_int (ns : List Int) : DpAll K H (ns.map V.int) (ns.map PyData.int) := by
  induction ns with
  | nil => exact .nil
  | cons a r ih => exact .cons (.int a) ih
theorem dpAll_bl (bs : List Bool) : DpAll K H (bs.map V.bl) (bs.map PyData.bool) := by
  induction bs with
  | nil => exact .nil
  | cons a r ih => exact .cons (.bl a) ih
theorem eqvAll_int : ∀ ns ms : List Int, PyData.eqvAll (ns.map PyData.int) (ms.map PyData.int) = decide (ns = ms)
  | [], [] => by simp [PyData.eqvAll]
  | [], _ :: _ => by simp [PyData.eqvAll]
  | _ :: _, [] => by simp [PyData.eqvAll]
  | a :: r, b :: q => by
    have ih := eqvAll_int r q
    rw [List.map_cons, List.map_cons, PyData.eqvAll, PyData.eqv, ih]
    by_cases h : a = b
    · subst h; simp
    · simp [h]
theorem eqvAll_bl : ∀ ns ms : List Bool, PyData.eqvAll (ns.map PyData.bool) (ms.map PyData.bool) = decide (ns = ms)
  | [], [] => by simp [PyData.eqvAll]
  | [], _ :: _ => by simp [PyData.eqvAll]
  | _ :: _, [] => by simp [PyData.eqvAll]
  | a :: r, b :: q => by
    have ih := eqvAll_bl r q
    rw [List.map_cons, List.map_cons, PyData.eqvAll, PyData.eqv, ih]
    by_cases h : a = b
    · subst h; simp
    · simp [h]
theorem canLay_int (ns : List Int) : PyData.canLayAll0 (ns.map PyData.int) = true := by
  induction ns with
  | nil => simp [PyData.canLayAll0]
  | cons a r ih => rw [List.map_cons, PyData.canLayAll0, ih]; simp [PyData.canLay0]
theorem canLay_bl (ns : List Bool) : PyData.canLayAll0 (ns.map PyData.bool) = true := by
  induction ns with
  | nil => simp [PyData.canLayAll0]
  | cons a r ih => rw [List.map_cons, PyData.canLayAll0, ih]; simp [PyData.canLay0]
theorem depth_int (ns : List Int) : PyData.depthAll (ns.map PyData.int) ≤ 1 := by
  induction ns with
  | nil => simp [PyData.depthAll]
  | cons a r ih => rw [List.map_cons, PyData.depthAll]; simp [PyData.depth]; omega
theorem depth_bl (ns : List Bool) : PyData.depthAll (ns.map PyData.bool) ≤ 1 := by
  induction ns with
  | nil => simp [PyData.depthAll]
  | cons a r ih => rw [List.map_cons, PyData.depthAll]; simp [PyData.depth]; omega
theorem shaped_int (ns : List Int) : SeqAt.shaped (.list (ns.map PyData.int)) = true := by
  unfold SeqAt.shaped
  rw [PyData.canLay0, canLay_int]
  have := depth_int ns
  simp [PyData.depth]
  omega
theorem shaped_bl (ns : List Bool) : SeqAt.shaped (.list (ns.map PyData.bool)) = true := by
  unfold SeqAt.shaped
  rw [PyData.canLay0, canLay_bl]
  have := depth_bl ns
  simp [PyData.depth]
  omega
variable {q : Addr} {ms : List Int} {cs : List Bool}
theorem r_eqL (h1 : SqL K H p (ns.map V.int)) (h2 : SqL K H q (ms.map V.int)) (k : Q (.bl (decide (ns = ms))) H) : rEqD K (.ref p) (.ref q) H Q :=
  ⟨.list (ns.map PyData.int), .list (ms.map PyData.int), .lst h1 (dpAll_int ns), .lst h2 (dpAll_int ms), shaped_int ns, shaped_int ms, by rw [PyData.eqv, eqvAll_int]; exact k⟩
theorem r_neL (h1 : SqL K H p (ns.map V.int)) (h2 : SqL K H q (ms.map V.int)) (k : Q (.bl (!decide (ns = ms))) H) : rNeD K (.ref p) (.ref q) H Q :=
  ⟨.list (ns.map PyData.int), .list (ms.map PyData.int), .lst h1 (dpAll_int ns), .lst h2 (dpAll_int ms), shaped_int ns, shaped_int ms, by rw [PyData.eqv, eqvAll_int]; exact k⟩
theorem r_eqLB (h1 : SqL K H p (bs.map V.bl)) (h2 : SqL K H q (cs.map V.bl)) (k : Q (.bl (decide (bs = cs))) H) : rEqD K (.ref p) (.ref q) H Q :=
  ⟨.list (bs.map PyData.bool), .list (cs.map PyData.bool), .lst h1 (dpAll_bl bs), .lst h2 (dpAll_bl cs), shaped_bl bs, shaped_bl cs, by rw [PyData.eqv, eqvAll_bl]; exact k⟩
theorem r_neLB (h1 : SqL K H p (bs.map V.bl)) (h2 : SqL K H q (cs.map V.bl)) (k : Q (.bl (!decide (bs = cs))) H) : rNeD K (.ref p) (.ref q) H Q :=
  ⟨.list (bs.map PyData.bool), .list (cs.map PyData.bool), .lst h1 (dpAll_bl bs), .lst h2 (dpAll_bl cs), shaped_bl bs, shaped_bl cs, by rw [PyData.eqv, eqvAll_bl]; exact k⟩
/-! + of lists, a slice, index -/
theorem r_cat {zs : List V} (A : At H0 L H) (h1 : H p = some (.lst xs)) (h2 : H q = some (.lst zs)) (hl : xs.length + zs.length ≤ 10000000) (k : ∀ l H', At H0 ((l, .lst (xs ++ zs)) :: L) H' → Q (.ref l) H') : rCat (.ref p) (.ref q) H Q :=
  ⟨p, q, xs, zs, rfl, rfl, h1, h2, sz hl, fun l hl => k l _ (A.alloc hl _)⟩
def slK (r : V → Option Int → Option Int → Hp → VK → Prop) (x : V) (lo hi : Option Int) (H : Hp) (Q : VK) : Prop := r x lo hi H Q
def ptK (x : V) (QO : Option Int → Hp → Prop) (H : Hp) : Prop := ∃ i, x = .int i ∧ QO (some i) H
theorem r_sl {r : V → Option Int → Option Int → Hp → VK → Prop} {tlo thi : TO} (k : ta σ H fun x H1 => tlo σ H1 fun l H2 => thi σ H2 fun u H3 => r x l u H3 Q) : tSl r ta tlo thi σ H Q := k
theorem r_noPart {QO : Option Int → Hp → Prop} (k : QO none H) : tNoPart σ H QO := k
theorem r_part {QO : Option Int → Hp → Prop} (k : ta σ H fun x H1 => ptK x QO H1) : tPart ta σ H QO := k
theorem r_ptK {QO : Option Int → Hp → Prop} (k : QO (some i) H) : ptK (.int i) QO H := ⟨i, rfl, k⟩
theorem r_slL {lo hi : Option Int} (A : At H0 L H) (h1 : SqL K H p xs) (k : ∀ l H', At H0 ((l, .lst (cutV xs lo hi)) :: L) H' → Q (.ref l) H') : rSlL K (.ref p) lo hi H Q :=
  ⟨p, xs, rfl, h1, fun l hl => k l _ (A.alloc hl _)⟩
def revK (K : PySem.W.Frag) (x : V) (H1 : Hp) (Q : VK) : Prop := ∃ a xs, x = .ref a ∧ SqL K H1 a xs ∧ ∀ p, H1 p = none → Q (.ref p) (upd H1 p (.lst xs.reverse))
theorem r_rev (k : ta σ H fun x H1 => revK K x H1 Q) : tRevL K ta σ H Q := k
theorem r_revK (A : At H0 L H) (h1 : SqL K H p xs) (k : ∀ l H', At H0 ((l, .lst xs.reverse) :: L) H' → Q (.ref l) H') : revK K (.ref p) H Q := ⟨p, xs, rfl, h1, fun l hl => k l _ (A.alloc hl _)⟩
theorem r_revKI (A : At H0 L H) (h1 : SqL K H p (ns.map V.int)) (k : ∀ l H', At H0 ((l, .lst (ns.reverse.map V.int)) :: L) H' → Q (.ref l) H') : revK K (.ref p) H Q := r_revK A h1 fun l H' A' => k l H' (by rw [List.map_reverse]; exact A')
theorem r_aug {n : Nat} {ip : TIp} {w : V} (h : σ[n]? = some (some w)) (k : te σ H fun y H1 => ip w y H1 fun z H2 => D.nx (σ.set n (some z)) H2) : tAug n te ip D σ H := ⟨w, h, k⟩
theorem r_ipI {f : Int → Int → Int} (k : Q (.int (f i j)) H) : ipI f (.int i) (.int j) H Q := ⟨i, j, rfl, rfl, k⟩
def parK (n m : Nat) (D : Ends) (σ : L2.St) (vs : List V) (H1 : Hp) : Prop := ∃ v w, vs = [v, w] ∧ D.nx ((σ.set n (some v)).set m (some w)) H1
theorem r_par {n m : Nat} (k : tl σ H fun vs H1 => parK n m D σ vs H1) : tPar n m tl D σ H := k
theorem r_parK {n m : Nat} {w : V} (k : D.nx ((σ.set n (some v)).set m (some w)) H) : parK n m D σ [v, w] H := ⟨v, w, rfl, k⟩
/-! the place of an int -/
theorem flat_ints (ns : List Int) : (ns.map V.int).all flatV = true := by
  induction ns with
  | nil => rfl
  | cons a r ih => rw [List.map_cons, List.all_cons, ih]; rfl
theorem least_at (z : Int) : ∀ {ns : List Int}, z ∈ ns → ∃ j : Nat, ns[j]? = some z ∧ ∀ (m : Nat) (y : Int), m < j → ns[m]? = some y → y ≠ z
  | [], h => nomatch h
  | a :: r, h => by
    by_cases e : a = z
    · exact ⟨0, by rw [e]; rfl, fun m y hm => absurd hm (Nat.not_lt_zero m)⟩
    · have h' : z ∈ r := (List.mem_cons.mp h).resolve_left (fun q => e q.symm)
      obtain ⟨j, h1, h2⟩ := least_at z h'
      refine ⟨j + 1, h1, fun m y hm hy => ?_⟩
      cases m with
      | zero =>
        have : a = y := Option.some.inj hy
        rw [← this]
        exact e
      | succ m => exact h2 m y (by omega) hy
theorem r_index {z : Int} (h : SqL K H p (ns.map V.int)) (hm : z ∈ ns) (k : ∀ j : Nat, ns[j]? = some z → Q (.int (j : Int)) H) : rIndex K (.ref p) [.int z] H Q := by
  obtain ⟨j, h1, h2⟩ := least_at z hm
  refine ⟨p, _, .int z, j, .int z, rfl, rfl, h, rfl, flat_ints ns, by rw [List.getElem?_map, h1]; rfl, by simp [eqV], fun m y hmj hy => ?_, k j h1⟩
  rw [List.getElem?_map] at hy
  cases e : ns[m]? with
  | none => rw [e] at hy; cases hy
  | some u =>
    rw [e] at hy
    have hy' : V.int u = y := Option.some.inj hy
    subst hy'
    have := h2 m u hmj e
    simp [eqV, this]
def mth2K (C C' : Addr) (m : Str) (sp sp' : Sp) (tl : TA) (σ : L2.St) (x : V) (H1 : Hp) (Q : VK) (E E' : XK) : Prop := ∃ a dx fs, x = .ref a ∧ fs.lookup m = none ∧
  ((H1 a = some (.ins C dx fs) ∧ tl σ H1 fun vs H2 => sp (x :: vs) H2 Q E) ∨ (H1 a = some (.ins C' dx fs) ∧ tl σ H1 fun vs H2 => sp' (x :: vs) H2 Q E'))
theorem r_meth2 {C C' : Addr} {m : Str} {sp sp' : Sp} {E E' : XK} (k : ta σ H fun x H1 => mth2K C C' m sp sp' tl σ x H1 Q E E') : tMeth2 C C' m sp sp' E E' ta tl σ H Q := k
theorem r_m2l {C C' dx a : Addr} {m : Str} {sp sp' : Sp} {E E' : XK} {fs : List (Str × V)} (h : H a = some (.ins C dx fs)) (hl : fs.lookup m = none) (k : tl σ H fun vs H2 => sp (.ref a :: vs) H2 Q E) : mth2K C C' m sp sp' tl σ (.ref a) H Q E E' := ⟨a, dx, fs, rfl, hl, .inl ⟨h, k⟩⟩
theorem r_m2r {C C' dx a : Addr} {m : Str} {sp sp' : Sp} {E E' : XK} {fs : List (Str × V)} (h : H a = some (.ins C' dx fs)) (hl : fs.lookup m = none) (k : tl σ H fun vs H2 => sp' (.ref a :: vs) H2 Q E') : mth2K C C' m sp sp' tl σ (.ref a) H Q E E' := ⟨a, dx, fs, rfl, hl, .inr ⟨h, k⟩⟩
/-! over a tuple -/
def tup1 (K : PySem.W.Frag) (x : V) (H : Hp) (R : It → Hp → Prop) : Prop := ∃ a, x = .ref a ∧ (∃ xs, SqT K H a xs) ∧ R (Itt K a) H
theorem r_forT {g : TG} {tb : TS} (k : ta σ H fun x H1 => tup1 K x H1 fun J H2 => forB J g tb D σ H2) : tFor (iTup K ta) g tb D σ H := k
theorem r_tup1 {R : It → Hp → Prop} (h : SqT K H p xs) (k : R (Itt K p) H) : tup1 K (.ref p) H R := ⟨p, rfl, ⟨xs, h⟩, k⟩
theorem r_forItt {g : TG} {tb : TS} (xs : List V) (Pv : Nat → L2.St → Hp → Prop) (h0 : Pv 0 σ H) (hl : ∀ i σ H, i ≤ xs.length → Pv i σ H → SqT K H p xs)
    (hs : ∀ i x σ H (N : L2.St → Hp → Prop), xs[i]? = some x → Pv i σ H → (∀ σ' H', Pv (i + 1) σ' H' → N σ' H') → g x σ H fun σ2 H2 => tb { D with nx := N, ct := N, bk := D.nx } σ2 H2) (hd : ∀ σ H, Pv xs.length σ H → D.nx σ H) : forB (Itt K p) g tb D σ H :=
  for_tup (K := K) (a := p) (xs := xs) Pv h0 hl (fun i x σ H hi pp => hs i x σ H _ hi pp fun _ _ z => z) hd
/-! a list that the def itself stores into -/
theorem At.of (H0 : Hp) {L : List (Addr × HO)} {H : Hp} (A : At H0 L H) : At H0 L H := A
theorem At.more {H0 H : Hp} {L : List (Addr × HO)} {p : Addr} {o : HO} (A : At H0 L H) (h0 : H0 p = none) (h : H p = some o) (hn : ∀ x ∈ L, x.1 ≠ p) : At H0 ((p, o) :: L) H := by
  refine ⟨A.ex, fun x hx => ?_, fun x hx => ?_, ?_⟩
  · rcases List.mem_cons.mp hx with rfl | hx
    · exact h
    · exact A.own x hx
  · rcases List.mem_cons.mp hx with rfl | hx
    · exact h0
    · exact A.new x hx
  · refine List.nodup_cons.mpr ⟨fun hm => ?_, A.nd⟩
    obtain ⟨x, hx, e⟩ := List.mem_map.mp hm
    exact hn x hx e
/-- two new objects -/
theorem At.two {H0 H : Hp} {p q : Addr} {o u : HO} (s : Same H0 H) (hp : H0 p = none) (hq : H0 q = none) (h1 : H p = some o) (h2 : H q = some u) (d : o ≠ u) : At H0 [(p, o), (q, u)] H :=
  At.more (At.made (At.nil H0) s hq h2) hp h1 fun x hx => by
    rw [List.mem_singleton] at hx
    subst hx
    exact fun e => ne_of h1 h2 d e.symm
theorem r_setLI {QH : Hp → Prop} {z : Int} (A : At H0 ((p, .lst (ns.map V.int)) :: L) H) (h1 : 0 ≤ i) (h2 : i < ns.length) (k : ∀ H', At H0 ((p, .lst ((ns.set i.toNat z).map V.int)) :: L) H' → QH H') : rSetL (.ref p) (.int i) (.int z) H QH :=
  r_setL A h1 (by rw [List.length_map]; exact h2) fun H' A' => k H' (by rw [List.map_set]; exact A')
end
end EB

/-! EvMath: lists of ints around a ring -/
namespace EM
open EB
theorem gz_mem {ns : List Int} {i : Int} (h0 : -(ns.length : Int) ≤ i) (h1 : i < ns.length) : gz ns i ∈ ns := by
  unfold gz
  by_cases h : 0 ≤ i
  · rw [if_pos h, List.getD_eq_getElem?_getD, List.getElem?_eq_getElem (show i.toNat < ns.length by omega)]
    exact List.getElem_mem _
  · rw [if_neg h, List.getD_eq_getElem?_getD, List.getElem?_eq_getElem (show (i + ns.length).toNat < ns.length by omega)]
    exact List.getElem_mem _
theorem map_app {α β : Type} (f : α → β) (l : List α) (x : α) : l.map f ++ [f x] = (l ++ [x]).map f := by simp
/-- what each gives more than comes in, around -/
def cyc (cs : List Int) : List Int := (List.range cs.length).map fun (k : Nat) => gz cs (k : Int) - gz cs ((k : Int) - 1)
theorem cyc_len (cs : List Int) : (cyc cs).length = cs.length := by unfold cyc; rw [List.length_map, List.length_range]
theorem sum_range_succ (f : Nat → Int) (n : Nat) : ((List.range (n + 1)).map f).sum = ((List.range n).map f).sum + f n := by
  rw [List.range_succ, List.map_append, List.sum_append]
  simp
/-- the ints by place: a function -/
def fz (ns : List Int) (k : Nat) : Int := ns.getD k 0
theorem gz_pred {cs : List Int} {k : Nat} : gz cs ((k : Int) - 1) = if k = 0 then fz cs (cs.length - 1) else fz cs (k - 1) := by
  unfold gz fz
  by_cases h : k = 0
  · subst h
    rw [if_pos rfl, if_neg (by omega)]
    congr 1
    omega
  · rw [if_neg h, if_pos (by omega)]
    congr 1
    omega
theorem cyc_sum (cs : List Int) (h : cs ≠ []) : (cyc cs).sum = 0 := by
  have key : ∀ n : Nat, 0 < n → ((List.range n).map fun (k : Nat) => gz cs (k : Int) - gz cs ((k : Int) - 1)).sum = fz cs (n - 1) - fz cs (cs.length - 1) := by
    intro n
    induction n with
    | zero => intro z; omega
    | succ n ih =>
      intro _
      rw [sum_range_succ]
      by_cases hn : n = 0
      · subst hn
        rw [gz_nat, gz_pred, if_pos rfl]
        simp [fz]
      · rw [ih (by omega), gz_nat, gz_pred, if_neg hn]
        simp only [fz, Nat.add_sub_cancel]
        omega
  unfold cyc
  rw [key cs.length (List.length_pos_iff.mpr h)]
  omega
theorem cyc_bound {cs : List Int} {b : Int} (hb : ∀ c ∈ cs, -b ≤ c ∧ c ≤ b) : ∀ x ∈ cyc cs, -(2 * b) ≤ x ∧ x ≤ 2 * b := by
  intro x hx
  unfold cyc at hx
  obtain ⟨k, hk, rfl⟩ := List.mem_map.mp hx
  have hk' := List.mem_range.mp hk
  have h1 := hb _ (gz_mem (ns := cs) (i := (k : Int)) (by omega) (by omega))
  have h2 := hb _ (gz_mem (ns := cs) (i := (k : Int) - 1) (by omega) (by omega))
  omega
theorem cyc_head {cs : List Int} (h : cs ≠ []) : (cyc cs).getD 0 0 = fz cs 0 - fz cs (cs.length - 1) := by
  have hl := List.length_pos_iff.mpr h
  unfold cyc
  rw [List.getD_eq_getElem?_getD, List.getElem?_map, List.getElem?_range hl]
  show gz cs ((0 : Nat) : Int) - gz cs (((0 : Nat) : Int) - 1) = _
  rw [gz_nat, gz_pred, if_pos rfl]
  rfl
/-- what a drawn ring is -/
structure Houses (n : Nat) (hs : List Int) : Prop where
  len : hs.length = n + 2
  sum : hs.sum = 0
  bd : ∀ x ∈ hs, -999998 ≤ x ∧ x ≤ 999998
  hd : -500000 ≤ hs.getD 0 0 ∧ hs.getD 0 0 ≤ 500000
theorem houses_of {n : Nat} {cs : List Int} (hl : cs.length = n + 2) (hb : ∀ c ∈ cs, -499999 ≤ c ∧ c ≤ 499999) (h0 : -1 ≤ fz cs 0 ∧ fz cs 0 ≤ 1) : Houses n (cyc cs) := by
  have hne : cs ≠ [] := fun e => by rw [e] at hl; simp at hl
  refine ⟨by rw [cyc_len, hl], cyc_sum cs hne, cyc_bound hb, ?_⟩
  rw [cyc_head hne]
  have : fz cs (cs.length - 1) ∈ cs := by
    unfold fz
    rw [List.getD_eq_getElem?_getD, List.getElem?_eq_getElem (show cs.length - 1 < cs.length by omega)]
    exact List.getElem_mem _
  have := hb _ this
  omega
theorem fz_app {cs : List Int} {x : Int} (h : cs ≠ []) : fz (cs ++ [x]) 0 = fz cs 0 := by
  cases cs with
  | nil => exact absurd rfl h
  | cons a r => rfl
theorem cyc_get {cs : List Int} {k : Nat} (h : k < cs.length) : (cyc cs)[k]? = some (gz cs (k : Int) - gz cs ((k : Int) - 1)) := by
  unfold cyc
  rw [List.getElem?_map, List.getElem?_range h]
  rfl
theorem all_cyc {cs hs : List Int} (hl : cs.length = hs.length) : (((List.range hs.length).map fun (k : Nat) => decide (gz cs (k : Int) - gz cs ((k : Int) - 1) = gz hs (k : Int))).all id) = decide (cyc cs = hs) := by
  rw [Bool.eq_iff_iff]
  rw [List.all_eq_true, decide_eq_true_eq]
  constructor
  · intro h
    refine List.ext_getElem? fun k => ?_
    by_cases hk : k < hs.length
    · rw [cyc_get (by omega)]
      have := h (decide (gz cs (k : Int) - gz cs ((k : Int) - 1) = gz hs (k : Int))) (List.mem_map.mpr ⟨k, List.mem_range.mpr hk, rfl⟩)
      have e := of_decide_eq_true this
      rw [e, gz_nat, List.getD_eq_getElem?_getD, List.getElem?_eq_getElem hk]
      rfl
    · rw [List.getElem?_eq_none (by rw [cyc_len]; omega), List.getElem?_eq_none (by omega)]
  · intro h b hb
    obtain ⟨k, hk, rfl⟩ := List.mem_map.mp hb
    have hk' := List.mem_range.mp hk
    have := cyc_get (cs := cs) (k := k) (by omega)
    rw [h, List.getElem?_eq_getElem hk'] at this
    refine decide_eq_true ?_
    rw [← Option.some.inj this, gz_nat, List.getD_eq_getElem?_getD, List.getElem?_eq_getElem hk']
    rfl
/-- the running sums -/
def runs (hs : List Int) : List Int := (List.range hs.length).map fun (k : Nat) => (hs.take (k + 1)).sum
theorem runs_len (hs : List Int) : (runs hs).length = hs.length := by unfold runs; rw [List.length_map, List.length_range]
theorem runs_get {hs : List Int} {k : Nat} (h : k < hs.length) : (runs hs)[k]? = some (hs.take (k + 1)).sum := by
  unfold runs
  rw [List.getElem?_map, List.getElem?_range h]
  rfl
theorem runs_take {hs : List Int} {i : Nat} {x : Int} (h : hs[i]? = some x) : (runs hs).take (i + 1) = (runs hs).take i ++ [(hs.take (i + 1)).sum] := by
  have hi : i < hs.length := (List.getElem?_eq_some_iff.mp h).1
  rw [List.take_add_one, runs_get hi]
  rfl
/-- the least and the greatest of a list -/
structure Ext (ns : List Int) (lo hi : Int) : Prop where
  lm : lo ∈ ns
  hm : hi ∈ ns
  bd : ∀ y ∈ ns, lo ≤ y ∧ y ≤ hi
theorem Ext.uniq {ns : List Int} {lo hi lo' hi' : Int} (a : Ext ns lo hi) (b : Ext ns lo' hi') : lo = lo' ∧ hi = hi' := by
  have h1 := a.bd _ b.lm
  have h2 := b.bd _ a.lm
  have h3 := a.bd _ b.hm
  have h4 := b.bd _ a.hm
  omega
theorem fz_get {ns : List Int} {k : Nat} (h : k < ns.length) : ns[k]? = some (fz ns k) := by
  unfold fz
  rw [List.getD_eq_getElem?_getD, List.getElem?_eq_getElem h]
  rfl
theorem fz_of {ns : List Int} {k : Nat} {x : Int} (h : ns[k]? = some x) : fz ns k = x := by
  unfold fz
  rw [List.getD_eq_getElem?_getD, h]
  rfl
theorem fz_map {f : Int → Int} {ns : List Int} {k : Nat} (h : k < ns.length) : fz (ns.map f) k = f (fz ns k) := by
  refine fz_of ?_
  rw [List.getElem?_map, fz_get h]
  rfl
theorem fz_runs {hs : List Int} {k : Nat} (h : k < hs.length) : fz (runs hs) k = (hs.take (k + 1)).sum := fz_of (runs_get h)
theorem sum_take_succ {hs : List Int} {k : Nat} (h : k < hs.length) : (hs.take (k + 1)).sum = (hs.take k).sum + fz hs k := by
  rw [List.take_add_one, fz_get h, List.sum_append]
  simp
theorem list_ext {xs ys : List Int} (hl : xs.length = ys.length) (h : ∀ k, k < xs.length → fz xs k = fz ys k) : xs = ys := by
  refine List.ext_getElem? fun k => ?_
  by_cases hk : k < xs.length
  · rw [fz_get hk, fz_get (by omega), h k hk]
  · rw [List.getElem?_eq_none (by omega), List.getElem?_eq_none (by omega)]
theorem fz_cyc {cs : List Int} {k : Nat} (h : k < cs.length) : fz (cyc cs) k = fz cs k - (if k = 0 then fz cs (cs.length - 1) else fz cs (k - 1)) := by
  rw [fz_of (cyc_get h), gz_nat, gz_pred]
  rfl
/-- the running sums, all less the same number, even a ring that has nothing in all -/
theorem cyc_runs {hs : List Int} (m : Int) (h0 : hs.sum = 0) : cyc ((runs hs).map fun r => r - m) = hs := by
  have hl : ((runs hs).map fun r => r - m).length = hs.length := by rw [List.length_map, runs_len]
  refine list_ext (by rw [cyc_len, hl]) fun k hk => ?_
  rw [cyc_len] at hk
  rw [fz_cyc hk, hl]
  have hrl := runs_len hs
  rw [fz_map (by omega), fz_runs (by omega)]
  by_cases h : k = 0
  · subst h
    rw [if_pos rfl, fz_map (by omega), fz_runs (by omega)]
    have e : hs.take (hs.length - 1 + 1) = hs := List.take_of_length_le (by omega)
    rw [e, h0, sum_take_succ (by omega)]
    simp
  · rw [if_neg h, fz_map (by omega), fz_runs (by omega), sum_take_succ (by omega)]
    rw [show k - 1 + 1 = k by omega]
    omega
theorem mid_ok {lo hi y most : Int} (h1 : lo ≤ y) (h2 : y ≤ hi) (h : hi - lo ≤ 2 * most) : ((y - (lo + hi) / 2).natAbs : Int) ≤ most := by omega
/-- what the houses on a stretch have together -/
def str (hs : List Int) (f m : Nat) : Int := (((hs ++ hs).drop f).take m).sum
theorem str_in {hs : List Int} {f m : Nat} (h : f + m ≤ hs.length) : str hs f m = (hs.take (f + m)).sum - (hs.take f).sum := by
  unfold str
  rw [List.drop_append_of_le_length (by omega), List.take_append_of_le_length (by rw [List.length_drop]; omega)]
  have : hs.take (f + m) = hs.take f ++ (hs.drop f).take m := by rw [List.take_add]
  rw [this, List.sum_append]
  omega
theorem str_cyc {hs : List Int} {f m : Nat} (hf : f < hs.length) (hm : m < hs.length) : str hs f m = ((List.range m).map fun (k : Nat) => gz hs (((f : Int) + (k : Int)) % (hs.length : Int))).sum := by
  unfold str
  congr 1
  refine list_ext ?_ fun k hk => ?_
  · rw [List.length_take, List.length_drop, List.length_append, List.length_map, List.length_range]
    omega
  · rw [List.length_take, List.length_drop, List.length_append] at hk
    have e1 : (((hs ++ hs).drop f).take m)[k]? = (hs ++ hs)[f + k]? := by
      rw [List.getElem?_take, if_pos (by omega), List.getElem?_drop]
    have e2 : fz ((List.range m).map fun (k : Nat) => gz hs (((f : Int) + (k : Int)) % (hs.length : Int))) k = gz hs (((f : Int) + (k : Int)) % (hs.length : Int)) := by
      refine fz_of ?_
      rw [List.getElem?_map, List.getElem?_range (by omega)]
      rfl
    rw [e2]
    by_cases h : f + k < hs.length
    · have e3 : ((f : Int) + (k : Int)) % (hs.length : Int) = ((f + k : Nat) : Int) := by rw [Int.emod_eq_of_lt (by omega) (by omega)]; omega
      rw [e3, gz_nat]
      rw [List.getElem?_append_left h] at e1
      exact fz_of (e1.trans (fz_get h))
    · have e3 : ((f : Int) + (k : Int)) % (hs.length : Int) = ((f + k - hs.length : Nat) : Int) := by
        rw [← Int.sub_emod_right, Int.emod_eq_of_lt (by omega) (by omega)]
        omega
      rw [e3, gz_nat]
      rw [List.getElem?_append_right (by omega)] at e1
      exact fz_of (e1.trans (fz_get (by omega)))
/-- whether a stretch shows what it tells -/
def strB (hs : List Int) (f m most : Int) : Bool := decide (hs.sum = 0) && decide (0 ≤ f ∧ f < hs.length) && decide (1 ≤ m ∧ m < hs.length) && decide (2 * most < ((str hs f.toNat m.toNat).natAbs : Int))
/-- two running sums far apart are a stretch -/
theorem str_runs {hs : List Int} {i j : Nat} {lo hi most : Int} (hm : 0 ≤ most) (hi' : (runs hs)[i]? = some lo) (hj : (runs hs)[j]? = some hi) (h : 2 * most < hi - lo) :
    0 ≤ min (i : Int) j + 1 ∧ min (i : Int) j + 1 < hs.length ∧ 1 ≤ (((i : Int) - j).natAbs : Int) ∧ (((i : Int) - j).natAbs : Int) < hs.length ∧ ((str hs (min (i : Int) j + 1).toNat ((i : Int) - j).natAbs).natAbs : Int) = hi - lo := by
  have hrl := runs_len hs
  have h1 : i < hs.length := by have := (List.getElem?_eq_some_iff.mp hi').1; omega
  have h2 : j < hs.length := by have := (List.getElem?_eq_some_iff.mp hj).1; omega
  have e1 : (hs.take (i + 1)).sum = lo := by rw [runs_get h1] at hi'; exact Option.some.inj hi'
  have e2 : (hs.take (j + 1)).sum = hi := by rw [runs_get h2] at hj; exact Option.some.inj hj
  have ne : i ≠ j := fun e => by subst e; omega
  refine ⟨by omega, by omega, by omega, by omega, ?_⟩
  rcases Nat.lt_or_gt_of_ne ne with hlt | hlt
  · have a1 : (min (i : Int) j + 1).toNat = i + 1 := by omega
    have a2 : ((i : Int) - j).natAbs = j - i := by omega
    rw [a1, a2, str_in (by omega), show i + 1 + (j - i) = j + 1 by omega, e1, e2]
    omega
  · have a1 : (min (i : Int) j + 1).toNat = j + 1 := by omega
    have a2 : ((i : Int) - j).natAbs = i - j := by omega
    rw [a1, a2, str_in (by omega), show j + 1 + (i - j) = i + 1 by omega, e1, e2]
    omega
theorem strB_true {hs : List Int} {f m most : Int} (h0 : hs.sum = 0) (hf : 0 ≤ f ∧ f < hs.length) (hm : 1 ≤ m ∧ m < hs.length) : strB hs f m most = decide (2 * most < ((str hs f.toNat m.toNat).natAbs : Int)) := by
  unfold strB
  rw [decide_eq_true h0, decide_eq_true hf, decide_eq_true hm]
  rfl
/-- a carrying changed at house 0 evens no more -/
theorem cyc_bent {cs hs : List Int} (hl : 2 ≤ cs.length) (h : cyc cs = hs) : cyc (cs.set 0 (fz cs 0 + 1)) ≠ hs := by
  intro e
  have e1 := fz_cyc (cs := cs) (k := 0) (by omega)
  have e2 := fz_cyc (cs := cs.set 0 (fz cs 0 + 1)) (k := 0) (by rw [List.length_set]; omega)
  rw [h] at e1
  rw [e, if_pos rfl, List.length_set] at e2
  rw [if_pos rfl] at e1
  have a1 : fz (cs.set 0 (fz cs 0 + 1)) 0 = fz cs 0 + 1 := fz_of (List.getElem?_set_self (by omega))
  have a2 : fz (cs.set 0 (fz cs 0 + 1)) (cs.length - 1) = fz cs (cs.length - 1) := by
    refine fz_of ?_
    rw [List.getElem?_set_ne (by omega)]
    exact fz_get (by omega)
  rw [a1, a2] at e2
  omega
/-- the greatest within a bound: all are -/
theorem max_all {ns : List Int} {m b : Int} (h1 : m ∈ ns) (h2 : ∀ y ∈ ns, y ≤ m) : decide (m ≤ b) = ns.all fun y => decide (y ≤ b) := by
  rw [Bool.eq_iff_iff, decide_eq_true_eq, List.all_eq_true]
  constructor
  · intro h y hy
    have := h2 y hy
    exact decide_eq_true (by omega)
  · intro h
    exact of_decide_eq_true (h m h1)
theorem all_map_id {α : Type} (l : List α) (g : α → Bool) : ((l.map g).all id) = l.all g := by rw [List.all_map]; rfl
open PySem L2 in
theorem cut_str {hs : List Int} {f m : Int} (h1 : 0 ≤ f) (h2 : f ≤ hs.length) (h3 : 0 ≤ m) (h4 : m < hs.length) : cutV (hs.map V.int ++ hs.map V.int) (some f) (some (f + m)) = (((hs ++ hs).drop f.toNat).take m.toNat).map V.int := by
  unfold cutV
  obtain ⟨a, rfl⟩ : ∃ a : Nat, f = a := ⟨f.toNat, by omega⟩
  obtain ⟨b, rfl⟩ : ∃ b : Nat, m = b := ⟨m.toNat, by omega⟩
  rw [show (a : Int) + (b : Int) = ((a + b : Nat) : Int) by omega]
  rw [HT.sIx_nat, HT.sIx_nat, List.length_append, List.length_map]
  rw [show min a (hs.length + hs.length) = a by omega, ← List.map_append]
  rw [List.map_take, List.map_drop]
  simp only [Int.toNat_natCast]
  rw [show min (a + b) (hs.length + hs.length) - a = b by omega]
end EM

namespace K3
open PySem L2 EB
local macro_rules | `(tactic| walk_at "mem") => `(tactic| first
  | exact List.mem_cons_self
  | exact List.mem_cons_of_mem _ List.mem_cons_self
  | exact List.mem_cons_of_mem _ (List.mem_cons_of_mem _ List.mem_cons_self)
  | exact List.mem_cons_of_mem _ (List.mem_cons_of_mem _ (List.mem_cons_of_mem _ List.mem_cons_self))
  | exact List.mem_cons_of_mem _ (List.mem_cons_of_mem _ (List.mem_cons_of_mem _ (List.mem_cons_of_mem _ List.mem_cons_self)))
  | exact List.mem_cons_of_mem _ (List.mem_cons_of_mem _ (List.mem_cons_of_mem _ (List.mem_cons_of_mem _ (List.mem_cons_of_mem _ List.mem_cons_self))))
  | exact List.mem_cons_of_mem _ (List.mem_cons_of_mem _ (List.mem_cons_of_mem _ (List.mem_cons_of_mem _ (List.mem_cons_of_mem _ (List.mem_cons_of_mem _ List.mem_cons_self))))))
local macro_rules | `(tactic| walk_at "sq") => `(tactic| first
  | assumption
  | exact At.sqo (by assumption) (by walk_at "mem")
  | exact At.sq (by assumption) (by assumption))
local macro_rules | `(tactic| walk_at "sqI") => `(tactic| walk_at "sq")
local macro_rules | `(tactic| walk_at "st") => `(tactic| first
  | assumption
  | exact At.sto (by assumption) (by walk_at "mem")
  | exact At.st (by assumption) (by assumption))
local macro_rules | `(tactic| walk_at "cond") => `(tactic| first
  | exact Or.inr ⟨by decide, by decide⟩
  | exact Or.inl ⟨by decide, by decide⟩
  | (show (0 : Int) < _; first | decide | omega)
  | exact ⟨by decide, by decide⟩
  | exact ⟨by decide, by decide, by decide⟩
  | exact Or.inr ⟨by omega, by omega⟩
  | exact Or.inl ⟨by omega, by omega⟩)
local macro_rules | `(tactic| walk_at "s") => `(tactic| first
  | with_reducible refine r_seq ?_
  | with_reducible refine r_asg ?_
  | with_reducible refine r_gName ?_
  | with_reducible refine r_asgG ?_
  | with_reducible refine r_gSub ?_
  | with_reducible refine r_op ?_
  | ((with_reducible show tVar _ _ _ _); refine r_var rfl ?_)
  | with_reducible refine r_c ?_
  | with_reducible refine r_cons ?_
  | with_reducible refine r_nil ?_
  | with_reducible refine r_if ?_
  | with_reducible refine r_test ?_
  | with_reducible refine r_isB ?_
  | with_reducible refine r_cb ?_
  | with_reducible refine r_call ?_
  | with_reducible refine r_fld ?_
  | with_reducible refine r_sfld ?_
  | with_reducible refine r_make ?_
  | with_reducible refine r_meth ?_
  | with_reducible refine r_meth2 ?_
  | with_reducible refine r_forT ?_
  | with_reducible refine r_bm ?_
  | with_reducible refine r_forL ?_
  | with_reducible refine r_forR ?_
  | with_reducible refine r_par ?_
  | with_reducible refine r_parK ?_
  | ((with_reducible show tAug _ _ _ _ _ _); refine r_aug rfl ?_)
  | with_reducible refine r_ipI ?_
  | with_reducible refine r_sl ?_
  | with_reducible refine r_noPart ?_
  | with_reducible refine r_part ?_
  | with_reducible refine r_ptK ?_
  | with_reducible refine r_rev ?_
  | with_reducible refine r_ifNT ?_
  | with_reducible refine r_ifNF ?_
  | with_reducible refine r_isiII ?_
  | with_reducible refine r_isiIB ?_
  | with_reducible refine r_isiBB ?_
  | with_reducible refine r_isiBI ?_
  | with_reducible refine r_I0 ?_
  | with_reducible refine r_eqI ?_
  | with_reducible refine r_neI ?_
  | ((with_reducible refine r_I ?_ ?_); (· walk_at "cond"))
  | with_reducible refine r_ret ?_
  | with_reducible refine r_next ?_
  | with_reducible refine r_drop ?_
  | with_reducible refine r_testB ?_
  | with_reducible refine r_ifT ?_
  | with_reducible refine r_ifF ?_
  | with_reducible refine r_un ?_
  | with_reducible refine r_and ?_
  | with_reducible refine r_or ?_
  | with_reducible refine r_not ?_
  | with_reducible refine r_andV ?_
  | with_reducible refine r_orV ?_
  | with_reducible refine r_notV ?_
  | with_reducible refine r_ifE ?_
  | with_reducible refine r_chain ?_
  | with_reducible refine r_lst ?_
  | with_reducible refine r_tup ?_
  | with_reducible refine r_lcR ?_
  | with_reducible refine r_lcL ?_
  | with_reducible refine r_U ?_
  | with_reducible refine r_eqB ?_
  | with_reducible refine r_neB ?_
  | with_reducible refine r_isBl ?_
  | with_reducible refine r_isNBl ?_
  | with_reducible refine r_abs ?_
  | with_reducible refine r_max2 ?_
  | with_reducible refine r_min2 ?_
  | ((with_reducible show rLenQ _ [V.ref _] _ _); first | refine r_lenI (by walk_at "sq") ?_ | refine r_len (by walk_at "sq") ?_ | refine r_lenT (by walk_at "st") ?_)
  | ((with_reducible show rSum _ [V.ref _] _ _); refine r_sum (by walk_at "sq") ?_)
  | ((with_reducible show rAll _ [V.ref _] _ _); refine r_all (by walk_at "sq") ?_)
  | ((with_reducible show rAny _ [V.ref _] _ _); refine r_any (by walk_at "sq") ?_)
  | ((with_reducible show rIxL _ (V.ref _) (V.int _) _ _); refine r_ixI (by walk_at "sq") ?_ ?_ ?_; (· omega); (· omega))
  | ((with_reducible show rEqD _ (V.ref _) (V.ref _) _ _); first | refine r_eqL (by walk_at "sq") (by walk_at "sq") ?_ | refine r_eqLB (by walk_at "sq") (by walk_at "sq") ?_)
  | ((with_reducible show rNeD _ (V.ref _) (V.ref _) _ _); first | refine r_neL (by walk_at "sq") (by walk_at "sq") ?_ | refine r_neLB (by walk_at "sq") (by walk_at "sq") ?_)
  | ((with_reducible show tup1 _ (V.ref _) _ _); refine r_tup1 (by walk_at "st") ?_)
  | ((with_reducible show ifB (decide (@Eq Bool _ _)) _ _); first | refine r_ifd_T (by first | assumption | with_reducible rfl | decide) ?_ | refine r_ifd_F (by decide) ?_)
  | ((with_reducible show ifB (!decide (@Eq Bool _ _)) _ _); first | refine r_ifND_F (by first | assumption | with_reducible rfl | decide) ?_ | refine r_ifND_T (by decide) ?_)
  | ((with_reducible show ifB (decide _) _ _); first | refine r_ifd_T (by omega) ?_ | refine r_ifd_F (by omega) ?_)
  | ((with_reducible show ifB (!decide _) _ _); first | refine r_ifND_F (by omega) ?_ | refine r_ifND_T (by omega) ?_)
  | ((with_reducible show ifB (!_) _ _); first | refine r_notT (by first | assumption | decide) ?_ | refine r_notF (by first | assumption | decide) ?_)
  | ((with_reducible show ifB _ _ _); first | refine r_bT (by first | assumption | decide) ?_ | refine r_bF (by first | assumption | decide) ?_)
  | ((with_reducible show lst1 _ (V.ref _) _ _); refine r_lst1 (by walk_at "sq") ?_)
  | ((with_reducible show bmK _ "list" _ _ _ (V.ref _) _ _); refine r_bmL (by walk_at "sq") ?_)
  | ((with_reducible show rIsi _ [V.ref _, V.ty "list"] _ _); refine r_isiLL (by walk_at "sq") ?_))
local macro_rules | `(tactic| walk_at "hp") => `(tactic| first
  | assumption
  | exact At.get (by assumption) (by walk_at "mem")
  | exact At.ex (by assumption) _ _ (by assumption))

def top (i : Nat) : Stmt := PySem.Challenge.pw_evenring_k03_whole_within.main.body.getD i (.Pass ⟨0, 0, 0, 0⟩)
abbrev s_is_evening : Stmt := top 2
abbrev s_Within_init : Stmt := inClass (top 6) 0
abbrev s_Within_shows : Stmt := inClass (top 6) 1
abbrev s_Stretch_init : Stmt := inClass (top 7) 0
abbrev s_Stretch_shows : Stmt := inClass (top 7) 1
abbrev s_is_whole : Stmt := top 15
abbrev s_is_house : Stmt := top 16
abbrev s_Ring_init : Stmt := inClass (top 17) 0
abbrev s_Ring_houses : Stmt := inClass (top 17) 1
abbrev s_Ring_whole : Stmt := inClass (top 17) 2
abbrev s_check_total : Stmt := top 19
abbrev s_running : Stmt := top 20
abbrev s_within : Stmt := top 22
abbrev s_widest : Stmt := top 23
abbrev s_law_cell_at : Stmt := top 25
abbrev s_law_draw : Stmt := top 26
abbrev s_law_houses : Stmt := top 27
abbrev s_law_numbers : Stmt := top 29
abbrev s_law_evened : Stmt := top 30
abbrev s_law_stretched : Stmt := top 31
abbrev s_law_due : Stmt := top 32
abbrev s_law_right : Stmt := top 33
abbrev s_law : Stmt := top 34
theorem sc_is_evening : FnScope ["houses", "carried", "k"] ["houses", "carried"] (defScope s_is_evening) := ⟨rfl, rfl, rfl, by decide +kernel, rfl, by decide +kernel, by decide +kernel⟩
theorem sc_Within_init : FnScope ["self", "carried"] ["self", "carried"] (defScope s_Within_init) := ⟨rfl, rfl, rfl, by decide +kernel, rfl, by decide +kernel, by decide +kernel⟩
theorem sc_Within_shows : FnScope ["self", "ring", "most", "one"] ["self", "ring", "most"] (defScope s_Within_shows) := ⟨rfl, rfl, rfl, by decide +kernel, rfl, by decide +kernel, by decide +kernel⟩
theorem sc_Stretch_init : FnScope ["self", "first", "many"] ["self", "first", "many"] (defScope s_Stretch_init) := ⟨rfl, rfl, rfl, by decide +kernel, rfl, by decide +kernel, by decide +kernel⟩
theorem sc_Stretch_shows : FnScope ["self", "ring", "most", "houses"] ["self", "ring", "most"] (defScope s_Stretch_shows) := ⟨rfl, rfl, rfl, by decide +kernel, rfl, by decide +kernel, by decide +kernel⟩
theorem sc_is_whole : FnScope ["thing"] ["thing"] (defScope s_is_whole) := ⟨rfl, rfl, rfl, by decide +kernel, rfl, by decide +kernel, by decide +kernel⟩
theorem sc_is_house : FnScope ["thing"] ["thing"] (defScope s_is_house) := ⟨rfl, rfl, rfl, by decide +kernel, rfl, by decide +kernel, by decide +kernel⟩
theorem sc_Ring_init : FnScope ["self", "houses", "one"] ["self", "houses"] (defScope s_Ring_init) := ⟨rfl, rfl, rfl, by decide +kernel, rfl, by decide +kernel, by decide +kernel⟩
theorem sc_Ring_houses : FnScope ["self"] ["self"] (defScope s_Ring_houses) := ⟨rfl, rfl, rfl, by decide +kernel, rfl, by decide +kernel, by decide +kernel⟩
theorem sc_Ring_whole : FnScope ["self"] ["self"] (defScope s_Ring_whole) := ⟨rfl, rfl, rfl, by decide +kernel, rfl, by decide +kernel, by decide +kernel⟩
theorem sc_check_total : FnScope ["ring"] ["ring"] (defScope s_check_total) := ⟨rfl, rfl, rfl, by decide +kernel, rfl, by decide +kernel, by decide +kernel⟩
theorem sc_running : FnScope ["houses", "found", "total", "house"] ["houses"] (defScope s_running) := ⟨rfl, rfl, rfl, by decide +kernel, rfl, by decide +kernel, by decide +kernel⟩
theorem sc_within : FnScope ["ring", "most", "sums", "low", "high", "middle", "one", "other", "first"] ["ring", "most"] (defScope s_within) := ⟨rfl, rfl, rfl, by decide +kernel, rfl, by decide +kernel, by decide +kernel⟩
theorem sc_widest : FnScope ["ring", "sums"] ["ring"] (defScope s_widest) := ⟨rfl, rfl, rfl, by decide +kernel, rfl, by decide +kernel, by decide +kernel⟩
theorem sc_law_cell_at : FnScope ["_law_script", "_law_k"] ["_law_script", "_law_k"] (defScope s_law_cell_at) := ⟨rfl, rfl, rfl, by decide +kernel, rfl, by decide +kernel, by decide +kernel⟩
theorem sc_law_draw : FnScope ["_law_cell", "_law_k", "_law_many", "_law_primes"] ["_law_cell", "_law_k", "_law_many"] (defScope s_law_draw) := ⟨rfl, rfl, rfl, by decide +kernel, rfl, by decide +kernel, by decide +kernel⟩
theorem sc_law_houses : FnScope ["_law_script", "_law_first", "_law_most", "_law_carried", "_law_k"] ["_law_script", "_law_first"] (defScope s_law_houses) := ⟨rfl, rfl, rfl, by decide +kernel, rfl, by decide +kernel, by decide +kernel⟩
theorem sc_law_numbers : FnScope ["_law_found", "_law_many", "_law_one"] ["_law_found", "_law_many"] (defScope s_law_numbers) := ⟨rfl, rfl, rfl, by decide +kernel, rfl, by decide +kernel, by decide +kernel⟩
theorem sc_law_evened : FnScope ["_law_houses_here", "_law_carried", "_law_k"] ["_law_houses_here", "_law_carried"] (defScope s_law_evened) := ⟨rfl, rfl, rfl, by decide +kernel, rfl, by decide +kernel, by decide +kernel⟩
theorem sc_law_stretched : FnScope ["_law_houses_here", "_law_first", "_law_many", "_law_most", "_law_number", "_law_k"] ["_law_houses_here", "_law_first", "_law_many", "_law_most"] (defScope s_law_stretched) := ⟨rfl, rfl, rfl, by decide +kernel, rfl, by decide +kernel, by decide +kernel⟩
theorem sc_law_due : FnScope ["_law_houses_here", "_law_found", "_law_most", "_law_one"] ["_law_houses_here", "_law_found", "_law_most"] (defScope s_law_due) := ⟨rfl, rfl, rfl, by decide +kernel, rfl, by decide +kernel, by decide +kernel⟩
theorem sc_law_right : FnScope ["_law_houses_here", "_law_ring", "_law_most", "_law_found", "_law_other"] ["_law_houses_here", "_law_ring", "_law_most"] (defScope s_law_right) := ⟨rfl, rfl, rfl, by decide +kernel, rfl, by decide +kernel, by decide +kernel⟩
theorem sc_law : FnScope ["_law_script", "_law_houses_here", "_law_ring", "_law_bound", "_law_drawn", "_law_most"] ["_law_script"] (defScope s_law) := ⟨rfl, rfl, rfl, by decide +kernel, rfl, by decide +kernel, by decide +kernel⟩
/-- what the top has written -/
structure Txt (K : PySem.W.Frag) (mg : Str → Option Value) where
  n_abs : mg "abs" = none
  n_all : mg "all" = none
  n_any : mg "any" = none
  n_bool : mg "bool" = none
  n_int : mg "int" = none
  n_isinstance : mg "isinstance" = none
  n_len : mg "len" = none
  n_list : mg "list" = none
  n_max : mg "max" = none
  n_min : mg "min" = none
  n_range : mg "range" = none
  n_sum : mg "sum" = none
  k_GREATEST : (t : Tok) ×' mg "GREATEST" = some (.int 1000000 t)
  c_Answer : Addr
  g_Answer : mg "Answer" = some (.ref c_Answer)
  cl_Answer : Cls K c_Answer
  in_Answer : PySem.W.findIn K (.ref c_Answer) "__class__" = some (some (.builtin "object.__class__")) ∧ PySem.W.specialIn K (.builtin "object.__class__") "__get__" = some (some (.builtin "getset_descriptor.__get__")) ∧ PySem.W.takesIn K (.builtin "object.__class__") = some true ∧ PySem.W.mroIn K c_Answer (.type "object") = some true
  c_Even : Addr
  g_Even : mg "Even" = some (.ref c_Even)
  cl_Even : Cls K c_Even
  no_Even_carried : NoAttr K c_Even "carried"
  no_Even_prices : NoAttr K c_Even "prices"
  in_Even : PySem.W.findIn K (.ref c_Even) "__class__" = some (some (.builtin "object.__class__")) ∧ PySem.W.specialIn K (.builtin "object.__class__") "__get__" = some (some (.builtin "getset_descriptor.__get__")) ∧ PySem.W.takesIn K (.builtin "object.__class__") = some true ∧ PySem.W.mroIn K c_Even (.type "object") = some true
  c_Uneven : Addr
  g_Uneven : mg "Uneven" = some (.ref c_Uneven)
  cl_Uneven : Cls K c_Uneven
  no_Uneven_total : NoAttr K c_Uneven "total"
  in_Uneven : PySem.W.findIn K (.ref c_Uneven) "__class__" = some (some (.builtin "object.__class__")) ∧ PySem.W.specialIn K (.builtin "object.__class__") "__get__" = some (some (.builtin "getset_descriptor.__get__")) ∧ PySem.W.takesIn K (.builtin "object.__class__") = some true ∧ PySem.W.mroIn K c_Uneven (.type "object") = some true
  c_Within : Addr
  g_Within : mg "Within" = some (.ref c_Within)
  cl_Within : Cls K c_Within
  no_Within_carried : NoAttr K c_Within "carried"
  in_Within : PySem.W.findIn K (.ref c_Within) "__class__" = some (some (.builtin "object.__class__")) ∧ PySem.W.specialIn K (.builtin "object.__class__") "__get__" = some (some (.builtin "getset_descriptor.__get__")) ∧ PySem.W.takesIn K (.builtin "object.__class__") = some true ∧ PySem.W.mroIn K c_Within (.type "object") = some true
  c_Stretch : Addr
  g_Stretch : mg "Stretch" = some (.ref c_Stretch)
  cl_Stretch : Cls K c_Stretch
  no_Stretch_first : NoAttr K c_Stretch "first"
  no_Stretch_many : NoAttr K c_Stretch "many"
  in_Stretch : PySem.W.findIn K (.ref c_Stretch) "__class__" = some (some (.builtin "object.__class__")) ∧ PySem.W.specialIn K (.builtin "object.__class__") "__get__" = some (some (.builtin "getset_descriptor.__get__")) ∧ PySem.W.takesIn K (.builtin "object.__class__") = some true ∧ PySem.W.mroIn K c_Stretch (.type "object") = some true
  c_RingError : Addr
  g_RingError : mg "RingError" = some (.ref c_RingError)
  c_BadRing : Addr
  g_BadRing : mg "BadRing" = some (.ref c_BadRing)
  c_BadMost : Addr
  g_BadMost : mg "BadMost" = some (.ref c_BadMost)
  c_Lacking : Addr
  g_Lacking : mg "Lacking" = some (.ref c_Lacking)
  c_Ring : Addr
  g_Ring : mg "Ring" = some (.ref c_Ring)
  cl_Ring : Cls K c_Ring
  no_Ring_over : NoAttr K c_Ring "over"
  in_Ring : PySem.W.findIn K (.ref c_Ring) "__class__" = some (some (.builtin "object.__class__")) ∧ PySem.W.specialIn K (.builtin "object.__class__") "__get__" = some (some (.builtin "getset_descriptor.__get__")) ∧ PySem.W.takesIn K (.builtin "object.__class__") = some true ∧ PySem.W.mroIn K c_Ring (.type "object") = some true
  kit_Within_Answer : PySem.W.kitOne K (.ref c_Within) (.ref c_Answer) = some true
  kit_Within_Even : PySem.W.kitOne K (.ref c_Within) (.ref c_Even) = some false
  kit_Within_Stretch : PySem.W.kitOne K (.ref c_Within) (.ref c_Stretch) = some false
  kit_Within_Uneven : PySem.W.kitOne K (.ref c_Within) (.ref c_Uneven) = some false
  kit_Within_Within : PySem.W.kitOne K (.ref c_Within) (.ref c_Within) = some true
  kit_Stretch_Answer : PySem.W.kitOne K (.ref c_Stretch) (.ref c_Answer) = some true
  kit_Stretch_Even : PySem.W.kitOne K (.ref c_Stretch) (.ref c_Even) = some false
  kit_Stretch_Stretch : PySem.W.kitOne K (.ref c_Stretch) (.ref c_Stretch) = some true
  kit_Stretch_Uneven : PySem.W.kitOne K (.ref c_Stretch) (.ref c_Uneven) = some false
  kit_Stretch_Within : PySem.W.kitOne K (.ref c_Stretch) (.ref c_Within) = some false
  f_is_evening : Addr
  fd_is_evening : FuncData
  F_is_evening : Fun K "is_evening" "is_evening" s_is_evening f_is_evening fd_is_evening
  g_is_evening : mg "is_evening" = some (.ref f_is_evening)
  f_Within_init : Addr
  fd_Within_init : FuncData
  F_Within_init : Fun K "__init__" "Within.__init__" s_Within_init f_Within_init fd_Within_init
  mk_Within : Mk K c_Within f_Within_init
  f_Within_shows : Addr
  fd_Within_shows : FuncData
  F_Within_shows : Fun K "shows" "Within.shows" s_Within_shows f_Within_shows fd_Within_shows
  m_Within_shows : Meth K c_Within "shows" f_Within_shows
  f_Stretch_init : Addr
  fd_Stretch_init : FuncData
  F_Stretch_init : Fun K "__init__" "Stretch.__init__" s_Stretch_init f_Stretch_init fd_Stretch_init
  mk_Stretch : Mk K c_Stretch f_Stretch_init
  f_Stretch_shows : Addr
  fd_Stretch_shows : FuncData
  F_Stretch_shows : Fun K "shows" "Stretch.shows" s_Stretch_shows f_Stretch_shows fd_Stretch_shows
  m_Stretch_shows : Meth K c_Stretch "shows" f_Stretch_shows
  f_is_whole : Addr
  fd_is_whole : FuncData
  F_is_whole : Fun K "is_whole" "is_whole" s_is_whole f_is_whole fd_is_whole
  g_is_whole : mg "is_whole" = some (.ref f_is_whole)
  f_is_house : Addr
  fd_is_house : FuncData
  F_is_house : Fun K "is_house" "is_house" s_is_house f_is_house fd_is_house
  g_is_house : mg "is_house" = some (.ref f_is_house)
  f_Ring_init : Addr
  fd_Ring_init : FuncData
  F_Ring_init : Fun K "__init__" "Ring.__init__" s_Ring_init f_Ring_init fd_Ring_init
  mk_Ring : Mk K c_Ring f_Ring_init
  f_Ring_houses : Addr
  fd_Ring_houses : FuncData
  F_Ring_houses : Fun K "houses" "Ring.houses" s_Ring_houses f_Ring_houses fd_Ring_houses
  m_Ring_houses : Meth K c_Ring "houses" f_Ring_houses
  f_Ring_whole : Addr
  fd_Ring_whole : FuncData
  F_Ring_whole : Fun K "whole" "Ring.whole" s_Ring_whole f_Ring_whole fd_Ring_whole
  m_Ring_whole : Meth K c_Ring "whole" f_Ring_whole
  f_check_total : Addr
  fd_check_total : FuncData
  F_check_total : Fun K "check_total" "check_total" s_check_total f_check_total fd_check_total
  g_check_total : mg "check_total" = some (.ref f_check_total)
  f_running : Addr
  fd_running : FuncData
  F_running : Fun K "running" "running" s_running f_running fd_running
  g_running : mg "running" = some (.ref f_running)
  f_within : Addr
  fd_within : FuncData
  F_within : Fun K "within" "within" s_within f_within fd_within
  g_within : mg "within" = some (.ref f_within)
  f_widest : Addr
  fd_widest : FuncData
  F_widest : Fun K "widest" "widest" s_widest f_widest fd_widest
  g_widest : mg "widest" = some (.ref f_widest)
  f_law_cell_at : Addr
  fd_law_cell_at : FuncData
  F_law_cell_at : Fun K "_law_cell_at" "_law_cell_at" s_law_cell_at f_law_cell_at fd_law_cell_at
  g_law_cell_at : mg "_law_cell_at" = some (.ref f_law_cell_at)
  f_law_draw : Addr
  fd_law_draw : FuncData
  F_law_draw : Fun K "_law_draw" "_law_draw" s_law_draw f_law_draw fd_law_draw
  g_law_draw : mg "_law_draw" = some (.ref f_law_draw)
  f_law_houses : Addr
  fd_law_houses : FuncData
  F_law_houses : Fun K "_law_houses" "_law_houses" s_law_houses f_law_houses fd_law_houses
  g_law_houses : mg "_law_houses" = some (.ref f_law_houses)
  f_law_numbers : Addr
  fd_law_numbers : FuncData
  F_law_numbers : Fun K "_law_numbers" "_law_numbers" s_law_numbers f_law_numbers fd_law_numbers
  g_law_numbers : mg "_law_numbers" = some (.ref f_law_numbers)
  f_law_evened : Addr
  fd_law_evened : FuncData
  F_law_evened : Fun K "_law_evened" "_law_evened" s_law_evened f_law_evened fd_law_evened
  g_law_evened : mg "_law_evened" = some (.ref f_law_evened)
  f_law_stretched : Addr
  fd_law_stretched : FuncData
  F_law_stretched : Fun K "_law_stretched" "_law_stretched" s_law_stretched f_law_stretched fd_law_stretched
  g_law_stretched : mg "_law_stretched" = some (.ref f_law_stretched)
  f_law_due : Addr
  fd_law_due : FuncData
  F_law_due : Fun K "_law_due" "_law_due" s_law_due f_law_due fd_law_due
  g_law_due : mg "_law_due" = some (.ref f_law_due)
  f_law_right : Addr
  fd_law_right : FuncData
  F_law_right : Fun K "_law_right" "_law_right" s_law_right f_law_right fd_law_right
  g_law_right : mg "_law_right" = some (.ref f_law_right)
  f_law : Addr
  fd_law : FuncData
  F_law : Fun K "law" "law" s_law f_law fd_law
  g_law : mg "law" = some (.ref f_law)
section
variable {K : PySem.W.Frag} {mg : Str → Option Value}
theorem b_is_evening (T : Txt K mg) : Binds K T.fd_is_evening ["houses", "carried"] [] := T.F_is_evening.binds (ps := ["houses", "carried"]) fun _ _ _ _ _ _ us hl => match us, hl with | [_, _], _ => rfl
theorem b_Within_init (T : Txt K mg) : Binds K T.fd_Within_init ["self", "carried"] [] := T.F_Within_init.binds (ps := ["self", "carried"]) fun _ _ _ _ _ _ us hl => match us, hl with | [_, _], _ => rfl
theorem b_Within_shows (T : Txt K mg) : Binds K T.fd_Within_shows ["self", "ring", "most"] [] := T.F_Within_shows.binds (ps := ["self", "ring", "most"]) fun _ _ _ _ _ _ us hl => match us, hl with | [_, _, _], _ => rfl
theorem b_Stretch_init (T : Txt K mg) : Binds K T.fd_Stretch_init ["self", "first", "many"] [] := T.F_Stretch_init.binds (ps := ["self", "first", "many"]) fun _ _ _ _ _ _ us hl => match us, hl with | [_, _, _], _ => rfl
theorem b_Stretch_shows (T : Txt K mg) : Binds K T.fd_Stretch_shows ["self", "ring", "most"] [] := T.F_Stretch_shows.binds (ps := ["self", "ring", "most"]) fun _ _ _ _ _ _ us hl => match us, hl with | [_, _, _], _ => rfl
theorem b_is_whole (T : Txt K mg) : Binds K T.fd_is_whole ["thing"] [] := T.F_is_whole.binds (ps := ["thing"]) fun _ _ _ _ _ _ us hl => match us, hl with | [_], _ => rfl
theorem b_is_house (T : Txt K mg) : Binds K T.fd_is_house ["thing"] [] := T.F_is_house.binds (ps := ["thing"]) fun _ _ _ _ _ _ us hl => match us, hl with | [_], _ => rfl
theorem b_Ring_init (T : Txt K mg) : Binds K T.fd_Ring_init ["self", "houses"] [] := T.F_Ring_init.binds (ps := ["self", "houses"]) fun _ _ _ _ _ _ us hl => match us, hl with | [_, _], _ => rfl
theorem b_Ring_houses (T : Txt K mg) : Binds K T.fd_Ring_houses ["self"] [] := T.F_Ring_houses.binds (ps := ["self"]) fun _ _ _ _ _ _ us hl => match us, hl with | [_], _ => rfl
theorem b_Ring_whole (T : Txt K mg) : Binds K T.fd_Ring_whole ["self"] [] := T.F_Ring_whole.binds (ps := ["self"]) fun _ _ _ _ _ _ us hl => match us, hl with | [_], _ => rfl
theorem b_check_total (T : Txt K mg) : Binds K T.fd_check_total ["ring"] [] := T.F_check_total.binds (ps := ["ring"]) fun _ _ _ _ _ _ us hl => match us, hl with | [_], _ => rfl
theorem b_running (T : Txt K mg) : Binds K T.fd_running ["houses"] [] := T.F_running.binds (ps := ["houses"]) fun _ _ _ _ _ _ us hl => match us, hl with | [_], _ => rfl
theorem b_within (T : Txt K mg) : Binds K T.fd_within ["ring", "most"] [] := T.F_within.binds (ps := ["ring", "most"]) fun _ _ _ _ _ _ us hl => match us, hl with | [_, _], _ => rfl
theorem b_widest (T : Txt K mg) : Binds K T.fd_widest ["ring"] [] := T.F_widest.binds (ps := ["ring"]) fun _ _ _ _ _ _ us hl => match us, hl with | [_], _ => rfl
theorem b_law_cell_at (T : Txt K mg) : Binds K T.fd_law_cell_at ["_law_script", "_law_k"] [] := T.F_law_cell_at.binds (ps := ["_law_script", "_law_k"]) fun _ _ _ _ _ _ us hl => match us, hl with | [_, _], _ => rfl
theorem b_law_draw (T : Txt K mg) : Binds K T.fd_law_draw ["_law_cell", "_law_k", "_law_many"] [] := T.F_law_draw.binds (ps := ["_law_cell", "_law_k", "_law_many"]) fun _ _ _ _ _ _ us hl => match us, hl with | [_, _, _], _ => rfl
theorem b_law_houses (T : Txt K mg) : Binds K T.fd_law_houses ["_law_script", "_law_first"] [] := T.F_law_houses.binds (ps := ["_law_script", "_law_first"]) fun _ _ _ _ _ _ us hl => match us, hl with | [_, _], _ => rfl
theorem b_law_numbers (T : Txt K mg) : Binds K T.fd_law_numbers ["_law_found", "_law_many"] [] := T.F_law_numbers.binds (ps := ["_law_found", "_law_many"]) fun _ _ _ _ _ _ us hl => match us, hl with | [_, _], _ => rfl
theorem b_law_evened (T : Txt K mg) : Binds K T.fd_law_evened ["_law_houses_here", "_law_carried"] [] := T.F_law_evened.binds (ps := ["_law_houses_here", "_law_carried"]) fun _ _ _ _ _ _ us hl => match us, hl with | [_, _], _ => rfl
theorem b_law_stretched (T : Txt K mg) : Binds K T.fd_law_stretched ["_law_houses_here", "_law_first", "_law_many", "_law_most"] [] := T.F_law_stretched.binds (ps := ["_law_houses_here", "_law_first", "_law_many", "_law_most"]) fun _ _ _ _ _ _ us hl => match us, hl with | [_, _, _, _], _ => rfl
theorem b_law_due (T : Txt K mg) : Binds K T.fd_law_due ["_law_houses_here", "_law_found", "_law_most"] [] := T.F_law_due.binds (ps := ["_law_houses_here", "_law_found", "_law_most"]) fun _ _ _ _ _ _ us hl => match us, hl with | [_, _, _], _ => rfl
theorem b_law_right (T : Txt K mg) : Binds K T.fd_law_right ["_law_houses_here", "_law_ring", "_law_most"] [] := T.F_law_right.binds (ps := ["_law_houses_here", "_law_ring", "_law_most"]) fun _ _ _ _ _ _ us hl => match us, hl with | [_, _, _], _ => rfl
theorem b_law (T : Txt K mg) : Binds K T.fd_law ["_law_script"] [] := T.F_law.binds (ps := ["_law_script"]) fun _ _ _ _ _ _ us hl => match us, hl with | [_], _ => rfl
theorem isi_Within_Answer {T : Txt K mg} {H : Hp} {Q : VK} {p dx : Addr} {fs : List (Str × V)} (h : H p = some (.ins T.c_Within dx fs)) (k : Q (.bl true) H) : rIsi K [.ref p, .ref T.c_Answer] H Q := r_isiO h T.cl_Within T.in_Within T.kit_Within_Answer k
theorem isi_Within_Even {T : Txt K mg} {H : Hp} {Q : VK} {p dx : Addr} {fs : List (Str × V)} (h : H p = some (.ins T.c_Within dx fs)) (k : Q (.bl false) H) : rIsi K [.ref p, .ref T.c_Even] H Q := r_isiO h T.cl_Within T.in_Within T.kit_Within_Even k
theorem isi_Within_Stretch {T : Txt K mg} {H : Hp} {Q : VK} {p dx : Addr} {fs : List (Str × V)} (h : H p = some (.ins T.c_Within dx fs)) (k : Q (.bl false) H) : rIsi K [.ref p, .ref T.c_Stretch] H Q := r_isiO h T.cl_Within T.in_Within T.kit_Within_Stretch k
theorem isi_Within_Uneven {T : Txt K mg} {H : Hp} {Q : VK} {p dx : Addr} {fs : List (Str × V)} (h : H p = some (.ins T.c_Within dx fs)) (k : Q (.bl false) H) : rIsi K [.ref p, .ref T.c_Uneven] H Q := r_isiO h T.cl_Within T.in_Within T.kit_Within_Uneven k
theorem isi_Within_Within {T : Txt K mg} {H : Hp} {Q : VK} {p dx : Addr} {fs : List (Str × V)} (h : H p = some (.ins T.c_Within dx fs)) (k : Q (.bl true) H) : rIsi K [.ref p, .ref T.c_Within] H Q := r_isiO h T.cl_Within T.in_Within T.kit_Within_Within k
theorem isi_Stretch_Answer {T : Txt K mg} {H : Hp} {Q : VK} {p dx : Addr} {fs : List (Str × V)} (h : H p = some (.ins T.c_Stretch dx fs)) (k : Q (.bl true) H) : rIsi K [.ref p, .ref T.c_Answer] H Q := r_isiO h T.cl_Stretch T.in_Stretch T.kit_Stretch_Answer k
theorem isi_Stretch_Even {T : Txt K mg} {H : Hp} {Q : VK} {p dx : Addr} {fs : List (Str × V)} (h : H p = some (.ins T.c_Stretch dx fs)) (k : Q (.bl false) H) : rIsi K [.ref p, .ref T.c_Even] H Q := r_isiO h T.cl_Stretch T.in_Stretch T.kit_Stretch_Even k
theorem isi_Stretch_Stretch {T : Txt K mg} {H : Hp} {Q : VK} {p dx : Addr} {fs : List (Str × V)} (h : H p = some (.ins T.c_Stretch dx fs)) (k : Q (.bl true) H) : rIsi K [.ref p, .ref T.c_Stretch] H Q := r_isiO h T.cl_Stretch T.in_Stretch T.kit_Stretch_Stretch k
theorem isi_Stretch_Uneven {T : Txt K mg} {H : Hp} {Q : VK} {p dx : Addr} {fs : List (Str × V)} (h : H p = some (.ins T.c_Stretch dx fs)) (k : Q (.bl false) H) : rIsi K [.ref p, .ref T.c_Uneven] H Q := r_isiO h T.cl_Stretch T.in_Stretch T.kit_Stretch_Uneven k
theorem isi_Stretch_Within {T : Txt K mg} {H : Hp} {Q : VK} {p dx : Addr} {fs : List (Str × V)} (h : H p = some (.ins T.c_Stretch dx fs)) (k : Q (.bl false) H) : rIsi K [.ref p, .ref T.c_Within] H Q := r_isiO h T.cl_Stretch T.in_Stretch T.kit_Stretch_Within k
end
local macro_rules | `(tactic| walk_at "s") => `(tactic| ((with_reducible show rIsi _ [V.ref _, V.ref _] _ _); first | refine isi_Within_Answer (by walk_at "hp") ?_ | refine isi_Within_Even (by walk_at "hp") ?_ | refine isi_Within_Stretch (by walk_at "hp") ?_ | refine isi_Within_Uneven (by walk_at "hp") ?_ | refine isi_Within_Within (by walk_at "hp") ?_ | refine isi_Stretch_Answer (by walk_at "hp") ?_ | refine isi_Stretch_Even (by walk_at "hp") ?_ | refine isi_Stretch_Stretch (by walk_at "hp") ?_ | refine isi_Stretch_Uneven (by walk_at "hp") ?_ | refine isi_Stretch_Within (by walk_at "hp") ?_))
section
variable {P : Program} {w : World} {K : PySem.W.Frag} {mg : Str → Option Value} {base : Heap}
/-- a ring stands at p: the list of its houses is one of its own -/
def RingAt (T : Txt K mg) (H : Hp) (p : Addr) (hs : List Int) : Prop := ∃ dx l, H p = some (.ins T.c_Ring dx [("over", .ref l)]) ∧ H l = some (.lst (hs.map V.int))
theorem RingAt.mono {T : Txt K mg} {H H' : Hp} {p : Addr} {hs : List Int} (R : RingAt T H p hs) (s : Same H H') : RingAt T H' p hs := by
  obtain ⟨dx, l, h1, h2⟩ := R
  exact ⟨dx, l, s _ _ h1, s _ _ h2⟩
theorem r_over {T : Txt K mg} {H : Hp} {Q : VK} {p dx l : Addr} (h : H p = some (.ins T.c_Ring dx [("over", .ref l)])) (k : Q (.ref l) H) : fldK K "over" (.ref p) H Q := r_fldK h T.cl_Ring T.no_Ring_over rfl k
local macro_rules | `(tactic| walk_at "s") => `(tactic| ((with_reducible show fldK _ _ (V.ref _) _ _); refine r_over (by walk_at "hp") ?_))
def sp_is_whole (_ : Txt K mg) : Sp := fun vs H Q _ => ∃ i : Int, vs = [.int i] ∧ Q (.bl true) H
theorem ok_is_whole (T : Txt K mg) : FnOk P w K mg base CX0 1 T.f_is_whole T.fd_is_whole ["thing"] (sp_is_whole T) := by
  refine T.F_is_whole.ok sc_is_whole (fun vs H Q E h => ?_) (fun cdv A outer s H vs Q E hr h => ?_)
  · obtain ⟨_, rfl, _⟩ := h
    rfl
  · skip
    obtain ⟨i, rfl, k⟩ := h
    refine ⟨_, (pss_one (ps_ret (pe_and (pe_callB (kIsi (K := K)) (by rfl) T.n_isinstance EB.bt_isinstance (pa_cons (pv 0) (pa_cons (pe_bltn (v := .ty "int") (by rfl) T.n_int EB.bt_int rfl) pa_nil))) (pe_one (pe_not (pe_callB (kIsi (K := K)) (by rfl) T.n_isinstance EB.bt_isinstance (pa_cons (pv 0) (pa_cons (pe_bltn (v := .ty "bool") (by rfl) T.n_bool EB.bt_bool rfl) pa_nil)))))))), ?_⟩
    repeat walk_at "s"
    exact k
def sp_is_house (_ : Txt K mg) : Sp := fun vs H Q _ => ∃ i : Int, vs = [.int i] ∧ -1000000 ≤ i ∧ i ≤ 1000000 ∧ Q (.bl true) H
theorem ok_is_house (T : Txt K mg) : FnOk P w K mg base CX0 2 T.f_is_house T.fd_is_house ["thing"] (sp_is_house T) := by
  refine T.F_is_house.ok sc_is_house (fun vs H Q E h => ?_) (fun cdv A outer s H vs Q E hr h => ?_)
  · obtain ⟨_, rfl, _⟩ := h
    rfl
  · skip
    obtain ⟨i, rfl, h1, h2, k⟩ := h
    refine ⟨_, (pss_one (ps_ret (pe_and (pe_call (ok_is_whole T) (hr.mono (by decide)) (by rfl) T.g_is_whole T.F_is_whole.kp (b_is_whole T) .nil pass0 (pa_cons (pv 0) pa_nil)) (pe_one (pe_chain op_le op_le (pe_un un_neg (pe_glob (v := .int 1000000) (by rfl) T.k_GREATEST.2 ⟨_, rfl⟩)) (pv 0) (pe_glob (v := .int 1000000) (by rfl) T.k_GREATEST.2 ⟨_, rfl⟩)))))), ?_⟩
    repeat walk_at "s"
    refine ⟨i, rfl, ?_⟩
    repeat walk_at "s"
    rw [decide_eq_true h2]
    exact k
def sp_Ring_init (T : Txt K mg) : Sp := fun vs H Q _ => ∃ (p dx a : Addr) (hs : List Int), vs = [.ref p, .ref a] ∧ H p = some (.ins T.c_Ring dx []) ∧ SqL K H a (hs.map V.int) ∧ 2 ≤ hs.length ∧ hs.length ≤ 1000 ∧ (∀ x ∈ hs, -1000000 ≤ x ∧ x ≤ 1000000) ∧
  ∀ l H', H l = none → (∀ b o, H b = some o → b ≠ p → H' b = some o) → H' p = some (.ins T.c_Ring dx [("over", .ref l)]) → H' l = some (.lst (hs.map V.int)) → Q .non H'
theorem ok_Ring_init (T : Txt K mg) : FnOk P w K mg base CX0 3 T.f_Ring_init T.fd_Ring_init ["self", "houses"] (sp_Ring_init T) := by
  refine T.F_Ring_init.ok sc_Ring_init (fun vs H Q E h => ?_) (fun cdv A outer s H vs Q E hr h => ?_)
  · obtain ⟨_, _, _, _, rfl, _⟩ := h
    rfl
  · skip
    obtain ⟨p, dx, a, hs, rfl, hp, ha, h2, hl, hb, k⟩ := h
    have A := At.nil H
    refine ⟨_, (pss_cons (ps_if (PW.pt (pw_or (pt_not (pt_val (pe_callB (kIsi (K := K)) (by rfl) T.n_isinstance EB.bt_isinstance (pa_cons (pv 1) (pa_cons (pe_bltn (v := .ty "list") (by rfl) T.n_list EB.bt_list rfl) pa_nil))))) (pw_or (pt_cmpR op_lt (pe_callB (kLen (K := K)) (by rfl) T.n_len PySem.boot_len (pa_cons (pv 1) pa_nil)) pe_int (nomark _)) (pw_or1 (pt_not (pt_val (pe_callB (kAll (K := K)) (by rfl) T.n_all EB.bt_all (pa_cons (pe_lc (own := [("one", 2)]) (g := gName 2) rfl sc_Ring_init.nd (kPiL (K := K) (pv 1)) (blkOk_by (own := [("one", 2)]) (N := ["self", "houses", "one"]) (sc := defScope s_Ring_init) (by decide +kernel)) (fun _ _ _ _ _ => (pg_name (i := 2) sc_Ring_init.nd rfl (by first | exact Or.inl rfl | exact Or.inr rfl))) (fun _ _ _ _ _ => pts_nil) (fun _ _ _ _ _ => (pe_call (ok_is_house T) (hr.mono (by decide)) (by rfl) T.g_is_house T.F_is_house.kp (b_is_house T) .nil pass0 (pa_cons (pv 2) pa_nil)))) pa_nil)))))))) (pss_one ps_never) pss_nil)
      (pss_one (ps_fld (pv 0) (pe_callTy (kList (K := K)) (by rfl) T.n_list EB.bt_list (pa_cons (pv 1) pa_nil)) rfl))), ?_⟩
    repeat walk_at "s"
    refine r_lcLB (fun _ => true) A (.inl ha) (by omega) (fun _ => rfl) (fun i x D H' Q' hx A' q => ?_) (fun D H' A' => ?_)
    · repeat walk_at "s"
      refine ⟨x, rfl, (hb x (List.mem_of_getElem? hx)).1, (hb x (List.mem_of_getElem? hx)).2, ?_⟩
      exact q.t0 rfl A'
    · repeat walk_at "s"
      rw [show ((hs.map fun _ => true).all id) = true by simp]
      repeat walk_at "s"
      refine r_list A' (by walk_at "sq") (fun l H2 A2 => ?_)
      repeat walk_at "s"
      refine r_sfK (A2.ex _ _ hp) T.cl_Ring T.no_Ring_over (by decide) ?_
      have npl : l ≠ p := fun e => by
        have z := A2.new _ List.mem_cons_self
        rw [e] at z
        rw [z] at hp
        cases hp
      refine k l _ (A2.new _ List.mem_cons_self) (fun b o e hb => ?_) upd_same ?_
      · rw [upd_ne hb]
        exact A2.ex _ _ e
      · rw [upd_ne npl]
        exact A2.get List.mem_cons_self
/-- a ring made -/
theorem use_Ring {T : Txt K mg} {H : Hp} {Q : VK} {E : XK} {a : Addr} {hs : List Int} (ha : SqL K H a (hs.map V.int)) (h2 : 2 ≤ hs.length) (hl : hs.length ≤ 1000) (hb : ∀ x ∈ hs, -1000000 ≤ x ∧ x ≤ 1000000)
    (k : ∀ p H', Same H H' → H p = none → RingAt T H' p hs → Q (.ref p) H') : mkC T.c_Ring (sp_Ring_init T) [.ref a] H Q E := fun x dx nx nd ne =>
  ⟨x, dx, a, hs, rfl, upd_same, (same_mk nx nd).seq ha, h2, hl, hb, fun l H' _ keep hp hl' => ⟨rfl, k x H' (fun b o e => keep b o (same_mk nx nd b o e) (ne_of_none e nx)) nx ⟨dx, l, hp, hl'⟩⟩⟩
def sp_Ring_houses (T : Txt K mg) : Sp := fun vs H Q _ => ∃ (p : Addr) (hs : List Int), vs = [.ref p] ∧ RingAt T H p hs ∧ ∀ q H', Same H H' → H q = none → H' q = some (.lst (hs.map V.int)) → Q (.ref q) H'
theorem ok_Ring_houses (T : Txt K mg) : FnOk P w K mg base CX0 1 T.f_Ring_houses T.fd_Ring_houses ["self"] (sp_Ring_houses T) := by
  refine T.F_Ring_houses.ok sc_Ring_houses (fun vs H Q E h => ?_) (fun cdv A outer s H vs Q E hr h => ?_)
  · obtain ⟨_, _, rfl, _⟩ := h
    rfl
  · skip
    obtain ⟨p, hs, rfl, ⟨dx, l, hp, hl⟩, k⟩ := h
    have A := At.nil H
    refine ⟨_, (pss_one (ps_ret (pe_callTy (kList (K := K)) (by rfl) T.n_list EB.bt_list (pa_cons (kFld (K := K) (pv 0)) pa_nil)))), ?_⟩
    repeat walk_at "s"
    refine r_list A (SqL.of hl) (fun q H2 A2 => ?_)
    exact k q H2 A2.ex (A2.new _ List.mem_cons_self) (A2.get List.mem_cons_self)
def sp_Ring_whole (T : Txt K mg) : Sp := fun vs H Q _ => ∃ (p : Addr) (hs : List Int), vs = [.ref p] ∧ RingAt T H p hs ∧ Q (.int hs.sum) H
theorem ok_Ring_whole (T : Txt K mg) : FnOk P w K mg base CX0 1 T.f_Ring_whole T.fd_Ring_whole ["self"] (sp_Ring_whole T) := by
  refine T.F_Ring_whole.ok sc_Ring_whole (fun vs H Q E h => ?_) (fun cdv A outer s H vs Q E hr h => ?_)
  · obtain ⟨_, _, rfl, _⟩ := h
    rfl
  · skip
    obtain ⟨p, hs, rfl, ⟨dx, l, hp, hl⟩, k⟩ := h
    have hs' : SqL K H l (hs.map V.int) := SqL.of hl
    refine ⟨_, (pss_one (ps_ret (pe_callB (kSum (K := K)) (by rfl) T.n_sum EB.bt_sum (pa_cons (kFld (K := K) (pv 0)) pa_nil)))), ?_⟩
    repeat walk_at "s"
    exact k
/-- o.houses(), o.whole() of a ring -/
theorem use_houses {T : Txt K mg} {H : Hp} {Q : VK} {E : XK} {p : Addr} {hs : List Int} {σ : L2.St} (R : RingAt T H p hs) (k : ∀ q H', Same H H' → H q = none → H' q = some (.lst (hs.map V.int)) → Q (.ref q) H') : mthK T.c_Ring "houses" (sp_Ring_houses T) tNil σ (.ref p) H Q E := by
  obtain ⟨dx, l, hp, hl⟩ := id R
  exact r_mthK hp (look1 (by decide +kernel)) ⟨p, hs, rfl, R, k⟩
theorem use_whole {T : Txt K mg} {H : Hp} {Q : VK} {E : XK} {p : Addr} {hs : List Int} {σ : L2.St} (R : RingAt T H p hs) (k : Q (.int hs.sum) H) : mthK T.c_Ring "whole" (sp_Ring_whole T) tNil σ (.ref p) H Q E := by
  obtain ⟨dx, l, hp, hl⟩ := id R
  exact r_mthK hp (look1 (by decide +kernel)) ⟨p, hs, rfl, R, k⟩

def sp_law_cell_at (_ : Txt K mg) : Sp := fun vs H Q _ => ∃ (a : Addr) (ns : List Int) (k : Int), vs = [.ref a, .int k] ∧ SqL K H a (ns.map V.int) ∧ 0 ≤ k ∧ ∀ c : Int, Q (.int c) H
theorem ok_law_cell_at (T : Txt K mg) : FnOk P w K mg base CX0 1 T.f_law_cell_at T.fd_law_cell_at ["_law_script", "_law_k"] (sp_law_cell_at T) := by
  refine T.F_law_cell_at.ok sc_law_cell_at (fun vs H Q E h => ?_) (fun cdv A outer s H vs Q E hr h => ?_)
  · obtain ⟨_, _, _, rfl, _⟩ := h
    rfl
  · skip
    obtain ⟨a, ns, i, rfl, ha, hi, k⟩ := h
    refine ⟨_, (pss_cons (ps_if (pt_cmpR op_lt (pv 1) (pe_callB (kLen (K := K)) (by rfl) T.n_len PySem.boot_len (pa_cons (pv 0) pa_nil)) (nomark _)) (pss_one (ps_ret (pe_ix (kIxL (K := K)) (pv 0) (pv 1) (fun _ _ => rfl)))) pss_nil)
      (pss_one (ps_ret pe_int))), ?_⟩
    repeat walk_at "s"
    refine r_ifD (fun hlt => ?_) (fun _ => ?_)
    · repeat walk_at "s"
      exact k _
    · repeat walk_at "s"
      exact k _
theorem use_cell {T : Txt K mg} {H : Hp} {Q : VK} {E : XK} {a : Addr} {ns : List Int} {i : Int} (ha : SqL K H a (ns.map V.int)) (hi : 0 ≤ i) (k : ∀ c : Int, Q (.int c) H) : sp_law_cell_at T [.ref a, .int i] H Q E := ⟨a, ns, i, rfl, ha, hi, k⟩
def sp_law_draw (_ : Txt K mg) : Sp := fun vs H Q _ => ∃ c i m : Int, vs = [.int c, .int i, .int m] ∧ 0 < m ∧ ∀ d H', Same H H' → 0 ≤ d → d < m → Q (.int d) H'
def primes : List Int := [1000003, 1000033, 1000037, 1000039, 1000081, 1000099, 1000117, 1000121, 1000133, 1000151, 1000159, 1000171, 1000183, 1000187, 1000193, 1000199]
theorem primes_pos : ∀ x ∈ primes, 0 < x := by decide
theorem ok_law_draw (T : Txt K mg) : FnOk P w K mg base CX0 1 T.f_law_draw T.fd_law_draw ["_law_cell", "_law_k", "_law_many"] (sp_law_draw T) := by
  refine T.F_law_draw.ok sc_law_draw (fun vs H Q E h => ?_) (fun cdv A outer s H vs Q E hr h => ?_)
  · obtain ⟨_, _, _, rfl, _⟩ := h
    rfl
  · skip
    obtain ⟨c, i, m, rfl, hm, k⟩ := h
    have A := At.nil H
    refine ⟨_, (pss_cons (ps_set (i := 3) sc_law_draw.nd rfl (by first | exact Or.inl rfl | exact Or.inr rfl) (pe_tup (pa_cons pe_int (pa_cons pe_int (pa_cons pe_int (pa_cons pe_int (pa_cons pe_int (pa_cons pe_int (pa_cons pe_int (pa_cons pe_int (pa_cons pe_int (pa_cons pe_int (pa_cons pe_int (pa_cons pe_int (pa_cons pe_int (pa_cons pe_int (pa_cons pe_int (pa_cons pe_int pa_nil))))))))))))))))))
      (pss_one (ps_ret (pe_op op_mod (pe_op op_mod (pe_op op_add (pe_op op_mul (pv 0) pe_int) (pe_op op_mul (pv 1) pe_int)) (pe_ix (kIxT (K := K)) (pv 3) (pe_op op_mod (pv 1) pe_int) (fun _ _ => rfl))) (pv 2))))), ?_⟩
    repeat walk_at "s"
    refine r_mkT A (by decide) (fun t H' A' => ?_)
    repeat walk_at "s"
    have h1 : 0 ≤ i % 16 := Int.emod_nonneg _ (by decide)
    have h2 : i % 16 < 16 := Int.emod_lt_of_pos _ (by decide)
    refine r_ixT (xs := primes.map V.int) (v := .int (gz primes (i % 16))) (A'.sto (by walk_at "mem")) (atI_gz (by show -(16 : Int) ≤ _; omega) h2) ?_
    have h3 : 0 < gz primes (i % 16) := primes_pos _ (EM.gz_mem (by show -(16 : Int) ≤ _; omega) h2)
    repeat walk_at "s"
    exact k _ H' A'.ex (Int.emod_nonneg _ (by omega)) (Int.emod_lt_of_pos _ hm)
theorem use_draw {T : Txt K mg} {H0 H : Hp} {L : List (Addr × HO)} {Q : VK} {E : XK} {c i m : Int} (A : At H0 L H) (hm : 0 < m) (k : ∀ d H', At H0 L H' → 0 ≤ d → d < m → Q (.int d) H') : sp_law_draw T [.int c, .int i, .int m] H Q E :=
  ⟨c, i, m, rfl, hm, fun d H' s h0 h1 => k d H' (A.same s) h0 h1⟩
local macro_rules | `(tactic| walk_at "s") => `(tactic| ((with_reducible show sp_law_draw _ [_, _, _] _ _ _); refine use_draw (by assumption) (by omega) ?_; intro d H' A' h0 h1))
local macro_rules | `(tactic| walk_at "s") => `(tactic| ((with_reducible show sp_law_cell_at _ [_, _] _ _ _); refine use_cell (by walk_at "sq") (by omega) ?_; intro c))
def sp_law_houses (_ : Txt K mg) : Sp := fun vs H Q _ => ∃ (a : Addr) (ns : List Int) (f : Int), vs = [.ref a, .int f] ∧ SqL K H a (ns.map V.int) ∧ ns.length ≤ 63 ∧ -6 ≤ f ∧ f ≤ 6 ∧
  ∀ hs q H', EM.Houses ns.length hs → Same H H' → H q = none → H' q = some (.lst (hs.map V.int)) → Q (.ref q) H'
theorem ok_law_houses (T : Txt K mg) : FnOk P w K mg base CX0 2 T.f_law_houses T.fd_law_houses ["_law_script", "_law_first"] (sp_law_houses T) := by
  refine T.F_law_houses.ok sc_law_houses (fun vs H Q E h => ?_) (fun cdv A outer s H vs Q E hr h => ?_)
  · obtain ⟨_, _, _, rfl, _⟩ := h
    rfl
  · skip
    obtain ⟨a, ns, f, rfl, ha, hn, hf1, hf2, k⟩ := h
    have A := At.nil H
    refine ⟨_, (pss_cons (ps_set (i := 2) sc_law_houses.nd rfl (by first | exact Or.inl rfl | exact Or.inr rfl) (pe_ix (kIxT (K := K)) (pe_tup (pa_cons pe_int (pa_cons pe_int (pa_cons pe_int (pa_cons pe_int pa_nil))))) (pe_call (ok_law_draw T) (hr.mono (by decide)) (by rfl) T.g_law_draw T.F_law_draw.kp (b_law_draw T) .nil pass0 (pa_cons (pe_call (ok_law_cell_at T) (hr.mono (by decide)) (by rfl) T.g_law_cell_at T.F_law_cell_at.kp (b_law_cell_at T) .nil pass0 (pa_cons (pv 0) (pa_cons pe_int pa_nil))) (pa_cons pe_int (pa_cons pe_int pa_nil)))) (fun _ _ => rfl)))
      (pss_cons (ps_set (i := 3) sc_law_houses.nd rfl (by first | exact Or.inl rfl | exact Or.inr rfl) (pe_lst (pa_cons (pe_op op_sub (pe_call (ok_law_draw T) (hr.mono (by decide)) (by rfl) T.g_law_draw T.F_law_draw.kp (b_law_draw T) .nil pass0 (pa_cons (pe_call (ok_law_cell_at T) (hr.mono (by decide)) (by rfl) T.g_law_cell_at T.F_law_cell_at.kp (b_law_cell_at T) .nil pass0 (pa_cons (pv 0) (pa_cons pe_int pa_nil))) (pa_cons pe_int (pa_cons pe_int pa_nil)))) pe_int) (pa_cons (pv 1) pa_nil))))
      (pss_cons (ps_for PassesOwn.never rfl (pi_range1 (by rfl) T.n_range (pa_cons (pe_callB (kLen (K := K)) (by rfl) T.n_len PySem.boot_len (pa_cons (pv 0) pa_nil)) pa_nil)) (pg_name (i := 4) sc_law_houses.nd rfl (by first | exact Or.inl rfl | exact Or.inr rfl)) (pss_one (ps_expr (pe_bm PySem.F.plainAttrs_list PySem.F.slot_list_append PySem.F.type_list_append mt_append (pv 3) (pa_cons (pe_op op_sub (pe_call (ok_law_draw T) (hr.mono (by decide)) (by rfl) T.g_law_draw T.F_law_draw.kp (b_law_draw T) .nil pass0 (pa_cons (pe_ix (kIxL (K := K)) (pv 0) (pv 4) (fun _ _ => rfl)) (pa_cons (pe_op op_add (pe_op op_mod (pv 4) pe_int) pe_int) (pa_cons (pe_op op_add (pe_op op_mul pe_int (pv 2)) pe_int) pa_nil)))) (pv 2)) pa_nil)))))
      (pss_one (ps_ret (pe_lc (own := [("_law_k", 4)]) (g := gName 4) rfl sc_law_houses.nd (pi_range1 (by rfl) T.n_range (pa_cons (pe_callB (kLen (K := K)) (by rfl) T.n_len PySem.boot_len (pa_cons (pv 3) pa_nil)) pa_nil)) (blkOk_by (own := [("_law_k", 4)]) (N := ["_law_script", "_law_first", "_law_most", "_law_carried", "_law_k"]) (sc := defScope s_law_houses) (by decide +kernel)) (fun _ _ _ _ _ => (pg_name (i := 4) sc_law_houses.nd rfl (by first | exact Or.inl rfl | exact Or.inr rfl))) (fun _ _ _ _ _ => pts_nil) (fun _ _ _ _ _ => (pe_op op_sub (pe_ix (kIxL (K := K)) (pv 3) (pv 4) (fun _ _ => rfl)) (pe_ix (kIxL (K := K)) (pv 3) (pe_op op_sub (pv 4) pe_int) (fun _ _ => rfl)))))))))), ?_⟩
    repeat walk_at "s"
    refine r_mkT A (by decide) (fun t H1 A1 => ?_)
    repeat walk_at "s"
    rename_i d Hd Ad hd0 hd3
    refine r_ixTI (ns := [2, 9, 400, 499999]) (Ad.sto (by walk_at "mem")) (by show -(4 : Int) ≤ _; omega) (by show _ < (4 : Int); omega) ?_
    have hm : 2 ≤ gz [2, 9, 400, 499999] d ∧ gz [2, 9, 400, 499999] d ≤ 499999 := (by decide : ∀ x ∈ ([2, 9, 400, 499999] : List Int), 2 ≤ x ∧ x ≤ 499999) _ (EM.gz_mem (by show -(4 : Int) ≤ _; omega) (by show _ < (4 : Int); omega))
    generalize gz [2, 9, 400, 499999] d = m at hm ⊢
    repeat walk_at "s"
    rename_i c0 d0 H0 A0 h00 h03
    refine r_mkL A0 (by show 2 ≤ 10000000; decide) (fun l H2 A2 => ?_)
    repeat walk_at "s"
    refine r_rng1 rfl (by omega) ?_
    have A3 : At H [(l, .lst (([d0 - 1, f] : List Int).map V.int))] H2 := A2.sub (by simp)
    refine r_forItr (fun i σ H' => ∃ (cs : List Int) (v : Option V), σ = [some (.ref a), some (.int f), some (.int m), some (.ref l), v] ∧ At H [(l, .lst (cs.map V.int))] H' ∧ cs.length = i + 2 ∧ (∀ c ∈ cs, -499999 ≤ c ∧ c ≤ 499999) ∧ -1 ≤ EM.fz cs 0 ∧ EM.fz cs 0 ≤ 1)
      ⟨[d0 - 1, f], none, rfl, A3, rfl, ?_, ?_, ?_⟩ ?_ ?_
    · intro c hc
      simp at hc
      rcases hc with rfl | rfl <;> omega
    · show -1 ≤ d0 - 1; omega
    · show d0 - 1 ≤ 1; omega
    · rintro i σ H3 N hi ⟨cs, v, rfl, A4, hl, hb, hz1, hz2⟩ hN
      repeat walk_at "s"
      rename_i c d H4 A5 hd0 hd1
      refine r_append A5 (by rw [List.length_map]; omega) (fun H5 A6 => ?_)
      refine hN _ _ ⟨cs ++ [d - m], some (.int i), rfl, by rw [← EM.map_app]; exact A6, by rw [List.length_append, hl]; rfl, ?_, ?_⟩
      · intro c hc
        rcases List.mem_append.mp hc with hc | hc
        · exact hb c hc
        · rw [List.mem_singleton] at hc
          omega
      · rw [EM.fz_app (fun e => by rw [e] at hl; simp at hl)]
        exact ⟨hz1, hz2⟩
    · rintro σ H3 ⟨cs, v, rfl, A4, hl, hb, hz1, hz2⟩
      repeat walk_at "s"
      refine r_rng1 (n := cs.length) rfl (by omega) ?_
      refine r_lcRI (fun k => gz cs (k : Int) - gz cs ((k : Int) - 1)) A4 (by omega) (fun _ => rfl) (fun i D H' Q' hi A' q => ?_) (fun D H' A' => ?_)
      · repeat walk_at "s"
        exact q.t0 rfl A'
      · exact k (EM.cyc cs) D H' (EM.houses_of hl hb ⟨hz1, hz2⟩) A'.ex (A'.new _ List.mem_cons_self) (A'.get List.mem_cons_self)

def sp_law_numbers (_ : Txt K mg) : Sp := fun vs H Q _ => ∃ (a : Addr) (ns : List Int) (m : Int), vs = [.ref a, .int m] ∧ SqL K H a (ns.map V.int) ∧ ns.length ≤ 1000 ∧ ∀ H', Same H H' → Q (.bl (decide ((ns.length : Int) = m))) H'
theorem ok_law_numbers (T : Txt K mg) : FnOk P w K mg base CX0 1 T.f_law_numbers T.fd_law_numbers ["_law_found", "_law_many"] (sp_law_numbers T) := by
  refine T.F_law_numbers.ok sc_law_numbers (fun vs H Q E h => ?_) (fun cdv A outer s H vs Q E hr h => ?_)
  · obtain ⟨_, _, _, rfl, _⟩ := h
    rfl
  · skip
    obtain ⟨a, ns, m, rfl, ha, hl, k⟩ := h
    have A := At.nil H
    refine ⟨_, (pss_cons (ps_if (PW.pt (pw_or (pt_not (pt_val (pe_callB (kIsi (K := K)) (by rfl) T.n_isinstance EB.bt_isinstance (pa_cons (pv 0) (pa_cons (pe_bltn (v := .ty "list") (by rfl) T.n_list EB.bt_list rfl) pa_nil))))) (pw_or1 (pt_cmpR op_ne (pe_callB (kLen (K := K)) (by rfl) T.n_len PySem.boot_len (pa_cons (pv 0) pa_nil)) (pv 1) (nomark _))))) (pss_one (ps_ret pe_bl)) pss_nil)
      (pss_one (ps_ret (pe_not (pe_callB (kAny (K := K)) (by rfl) T.n_any EB.bt_any (pa_cons (pe_lc (own := [("_law_one", 2)]) (g := gName 2) rfl sc_law_numbers.nd (kPiL (K := K) (pv 0)) (blkOk_by (own := [("_law_one", 2)]) (N := ["_law_found", "_law_many", "_law_one"]) (sc := defScope s_law_numbers) (by decide +kernel)) (fun _ _ _ _ _ => (pg_name (i := 2) sc_law_numbers.nd rfl (by first | exact Or.inl rfl | exact Or.inr rfl))) (fun _ _ _ _ _ => pts_nil) (fun _ _ _ _ _ => (pe_or (pe_callB (kIsi (K := K)) (by rfl) T.n_isinstance EB.bt_isinstance (pa_cons (pv 2) (pa_cons (pe_bltn (v := .ty "bool") (by rfl) T.n_bool EB.bt_bool rfl) pa_nil))) (pe_one (pe_not (pe_callB (kIsi (K := K)) (by rfl) T.n_isinstance EB.bt_isinstance (pa_cons (pv 2) (pa_cons (pe_bltn (v := .ty "int") (by rfl) T.n_int EB.bt_int rfl) pa_nil)))))))) pa_nil)))))), ?_⟩
    repeat walk_at "s"
    refine r_ifND (fun h => ?_) (fun h => ?_)
    · repeat walk_at "s"
      have z := k H A.ex
      rw [decide_eq_false h] at z
      exact z
    repeat walk_at "s"
    refine r_lcLB (fun _ => false) A (.inl ha) (by omega) (fun _ => rfl) (fun i x D H' Q' hx A' q => ?_) (fun D H' A' => ?_)
    · repeat walk_at "s"
      exact q.t0 rfl A'
    · repeat walk_at "s"
      rw [show ((ns.map fun _ => false).any id) = false by simp]
      have z := k H' A'.ex
      rw [decide_eq_true h] at z
      exact z
theorem use_numbers {T : Txt K mg} {H0 H : Hp} {L : List (Addr × HO)} {Q : VK} {E : XK} {a : Addr} {ns : List Int} {m : Int} (A : At H0 L H) (ha : SqL K H a (ns.map V.int)) (hl : ns.length ≤ 1000) (k : ∀ H', At H0 L H' → Q (.bl (decide ((ns.length : Int) = m))) H') : sp_law_numbers T [.ref a, .int m] H Q E :=
  ⟨a, ns, m, rfl, ha, hl, fun H' s => k H' (A.same s)⟩
def sp_law_evened (_ : Txt K mg) : Sp := fun vs H Q _ => ∃ (a b : Addr) (hs cs : List Int), vs = [.ref a, .ref b] ∧ SqL K H a (hs.map V.int) ∧ SqL K H b (cs.map V.int) ∧ cs.length ≤ 1000 ∧ ∀ H', Same H H' → Q (.bl (decide (EM.cyc cs = hs))) H'
theorem ok_law_evened (T : Txt K mg) : FnOk P w K mg base CX0 1 T.f_law_evened T.fd_law_evened ["_law_houses_here", "_law_carried"] (sp_law_evened T) := by
  refine T.F_law_evened.ok sc_law_evened (fun vs H Q E h => ?_) (fun cdv A outer s H vs Q E hr h => ?_)
  · obtain ⟨_, _, _, _, rfl, _⟩ := h
    rfl
  · skip
    obtain ⟨a, b, hs, cs, rfl, ha, hb, hl, k⟩ := h
    have A := At.nil H
    refine ⟨_, (pss_one (ps_ret (pe_cmpR (kEqD (K := K) hr.units) (pe_lc (own := [("_law_k", 2)]) (g := gName 2) rfl sc_law_evened.nd (pi_range1 (by rfl) T.n_range (pa_cons (pe_callB (kLen (K := K)) (by rfl) T.n_len PySem.boot_len (pa_cons (pv 1) pa_nil)) pa_nil)) (blkOk_by (own := [("_law_k", 2)]) (N := ["_law_houses_here", "_law_carried", "_law_k"]) (sc := defScope s_law_evened) (by decide +kernel)) (fun _ _ _ _ _ => (pg_name (i := 2) sc_law_evened.nd rfl (by first | exact Or.inl rfl | exact Or.inr rfl))) (fun _ _ _ _ _ => pts_nil) (fun _ _ _ _ _ => (pe_op op_sub (pe_ix (kIxL (K := K)) (pv 1) (pv 2) (fun _ _ => rfl)) (pe_ix (kIxL (K := K)) (pv 1) (pe_op op_sub (pv 2) pe_int) (fun _ _ => rfl))))) (pv 0) (nomark _)))), ?_⟩
    repeat walk_at "s"
    refine r_rng1 (n := cs.length) rfl (by omega) ?_
    refine r_lcRI (fun k => gz cs (k : Int) - gz cs ((k : Int) - 1)) A (by omega) (fun _ => rfl) (fun i D H' Q' hi A' q => ?_) (fun D H' A' => ?_)
    · repeat walk_at "s"
      exact q.t0 rfl A'
    · repeat walk_at "s"
      exact k H' A'.ex
theorem use_evened {T : Txt K mg} {H0 H : Hp} {L : List (Addr × HO)} {Q : VK} {E : XK} {a b : Addr} {hs cs : List Int} (A : At H0 L H) (ha : SqL K H a (hs.map V.int)) (hb : SqL K H b (cs.map V.int)) (hl : cs.length ≤ 1000) (k : ∀ H', At H0 L H' → Q (.bl (decide (EM.cyc cs = hs))) H') : sp_law_evened T [.ref a, .ref b] H Q E :=
  ⟨a, b, hs, cs, rfl, ha, hb, hl, fun H' s => k H' (A.same s)⟩
def sp_is_evening (_ : Txt K mg) : Sp := fun vs H Q _ => ∃ (a b : Addr) (hs cs : List Int), vs = [.ref a, .ref b] ∧ SqL K H a (hs.map V.int) ∧ SqL K H b (cs.map V.int) ∧ hs.length ≤ 1000 ∧ ∀ H', Same H H' → Q (.bl (decide (EM.cyc cs = hs))) H'
theorem ok_is_evening (T : Txt K mg) : FnOk P w K mg base CX0 1 T.f_is_evening T.fd_is_evening ["houses", "carried"] (sp_is_evening T) := by
  refine T.F_is_evening.ok sc_is_evening (fun vs H Q E h => ?_) (fun cdv A outer s H vs Q E hr h => ?_)
  · obtain ⟨_, _, _, _, rfl, _⟩ := h
    rfl
  · skip
    obtain ⟨a, b, hs, cs, rfl, ha, hb, hl, k⟩ := h
    have A := At.nil H
    refine ⟨_, (pss_cons (ps_if (pt_cmpR op_ne (pe_callB (kLen (K := K)) (by rfl) T.n_len PySem.boot_len (pa_cons (pv 1) pa_nil)) (pe_callB (kLen (K := K)) (by rfl) T.n_len PySem.boot_len (pa_cons (pv 0) pa_nil)) (nomark _)) (pss_one (ps_ret pe_bl)) pss_nil)
      (pss_one (ps_ret (pe_callB (kAll (K := K)) (by rfl) T.n_all EB.bt_all (pa_cons (pe_lc (own := [("k", 2)]) (g := gName 2) rfl sc_is_evening.nd (pi_range1 (by rfl) T.n_range (pa_cons (pe_callB (kLen (K := K)) (by rfl) T.n_len PySem.boot_len (pa_cons (pv 0) pa_nil)) pa_nil)) (blkOk_by (own := [("k", 2)]) (N := ["houses", "carried", "k"]) (sc := defScope s_is_evening) (by decide +kernel)) (fun _ _ _ _ _ => (pg_name (i := 2) sc_is_evening.nd rfl (by first | exact Or.inl rfl | exact Or.inr rfl))) (fun _ _ _ _ _ => pts_nil) (fun _ _ _ _ _ => (pe_cmpR op_eq (pe_op op_sub (pe_ix (kIxL (K := K)) (pv 1) (pv 2) (fun _ _ => rfl)) (pe_ix (kIxL (K := K)) (pv 1) (pe_op op_sub (pv 2) pe_int) (fun _ _ => rfl))) (pe_ix (kIxL (K := K)) (pv 0) (pv 2) (fun _ _ => rfl)) (nomark _)))) pa_nil))))), ?_⟩
    repeat walk_at "s"
    refine r_ifND (fun h => ?_) (fun h => ?_)
    · repeat walk_at "s"
      have z := k H A.ex
      rw [decide_eq_false (fun e => h (by rw [← e, EM.cyc_len]))] at z
      exact z
    repeat walk_at "s"
    refine r_rng1 (n := hs.length) rfl (by omega) ?_
    refine r_lcRB (fun k => decide (gz cs (k : Int) - gz cs ((k : Int) - 1) = gz hs (k : Int))) A (by omega) (fun _ => rfl) (fun i D H' Q' hi A' q => ?_) (fun D H' A' => ?_)
    · repeat walk_at "s"
      exact q.t0 rfl A'
    · repeat walk_at "s"
      rw [EM.all_cyc (by omega)]
      exact k H' A'.ex
theorem use_is_evening {T : Txt K mg} {H0 H : Hp} {L : List (Addr × HO)} {Q : VK} {E : XK} {a b : Addr} {hs cs : List Int} (A : At H0 L H) (ha : SqL K H a (hs.map V.int)) (hb : SqL K H b (cs.map V.int)) (hl : hs.length ≤ 1000) (k : ∀ H', At H0 L H' → Q (.bl (decide (EM.cyc cs = hs))) H') : sp_is_evening T [.ref a, .ref b] H Q E :=
  ⟨a, b, hs, cs, rfl, ha, hb, hl, fun H' s => k H' (A.same s)⟩
local macro_rules | `(tactic| walk_at "s") => `(tactic| ((with_reducible show sp_is_evening _ [_, _] _ _ _); refine use_is_evening (by assumption) (by walk_at "sq") (by walk_at "sq") (by omega) ?_; intro H' A'))
local macro_rules | `(tactic| walk_at "s") => `(tactic| ((with_reducible show sp_law_evened _ [_, _] _ _ _); refine use_evened (by assumption) (by walk_at "sq") (by walk_at "sq") (by omega) ?_; intro H' A'))
local macro_rules | `(tactic| walk_at "s") => `(tactic| ((with_reducible show sp_law_numbers _ [_, _] _ _ _); refine use_numbers (by assumption) (by walk_at "sq") (by omega) ?_; intro H' A'))

def sp_check_total (T : Txt K mg) : Sp := fun vs H Q _ => ∃ (p : Addr) (hs : List Int), vs = [.ref p] ∧ RingAt T H p hs ∧ hs.sum = 0 ∧ Q .non H
theorem ok_check_total (T : Txt K mg) : FnOk P w K mg base CX0 2 T.f_check_total T.fd_check_total ["ring"] (sp_check_total T) := by
  refine T.F_check_total.ok sc_check_total (fun vs H Q E h => ?_) (fun cdv A outer s H vs Q E hr h => ?_)
  · obtain ⟨_, _, rfl, _⟩ := h
    rfl
  · skip
    obtain ⟨p, hs, rfl, R, h0, k⟩ := h
    refine ⟨_, (pss_one (ps_if (pt_cmpR op_ne (pe_meth0 (pv 0) T.cl_Ring T.m_Ring_whole (ok_Ring_whole T) (hr.mono (by decide)) (b_Ring_whole T) .nil pass0) pe_int (nomark _)) (pss_one ps_never) pss_nil)), ?_⟩
    repeat walk_at "s"
    refine use_whole R ?_
    repeat walk_at "s"
    exact k
def sp_running (_ : Txt K mg) : Sp := fun vs H Q _ => ∃ (a : Addr) (hs : List Int), vs = [.ref a] ∧ SqL K H a (hs.map V.int) ∧ hs.length ≤ 1000 ∧ ∀ q H', Same H H' → H q = none → H' q = some (.lst ((EM.runs hs).map V.int)) → Q (.ref q) H'
theorem ok_running (T : Txt K mg) : FnOk P w K mg base CX0 1 T.f_running T.fd_running ["houses"] (sp_running T) := by
  refine T.F_running.ok sc_running (fun vs H Q E h => ?_) (fun cdv A outer s H vs Q E hr h => ?_)
  · obtain ⟨_, _, rfl, _⟩ := h
    rfl
  · skip
    obtain ⟨a, hs, rfl, ha, hl, k⟩ := h
    have A := At.nil H
    refine ⟨_, (pss_cons (ps_set (i := 1) sc_running.nd rfl (by first | exact Or.inl rfl | exact Or.inr rfl) (pe_lst pa_nil))
      (pss_cons (ps_set (i := 2) sc_running.nd rfl (by first | exact Or.inl rfl | exact Or.inr rfl) pe_int)
      (pss_cons (ps_for PassesOwn.never rfl (kPiL (K := K) (pv 0)) (pg_name (i := 3) sc_running.nd rfl (by first | exact Or.inl rfl | exact Or.inr rfl)) (pss_cons (ps_aug (i := 2) sc_running.nd rfl (by first | exact Or.inl rfl | exact Or.inr rfl) (pv 3) ip_add)
      (pss_one (ps_expr (pe_bm PySem.F.plainAttrs_list PySem.F.slot_list_append PySem.F.type_list_append mt_append (pv 1) (pa_cons (pv 2) pa_nil))))))
      (pss_one (ps_ret (pv 1)))))), ?_⟩
    repeat walk_at "s"
    refine r_mkL A (by decide) (fun l H1 A1 => ?_)
    repeat walk_at "s"
    refine r_forItlI hs (fun i σ H' => ∃ (v : Option V), σ = [some (.ref a), some (.ref l), some (.int (hs.take i).sum), v] ∧ At H [(l, .lst (((EM.runs hs).take i).map V.int))] H') ⟨none, rfl, A1⟩ (fun i σ H' _ ⟨v, _, A'⟩ => A'.sq ha) ?_ ?_
    · rintro i x σ H2 N hx ⟨v, rfl, A2⟩ hN
      repeat walk_at "s"
      have hrl := EM.runs_len hs
      refine r_append A2 (by rw [List.length_map, List.length_take]; omega) (fun H3 A3 => ?_)
      have e : (hs.take i).sum + x = (hs.take (i + 1)).sum := (sum_take hx).symm
      rw [e] at A3 ⊢
      refine hN _ _ ⟨_, rfl, ?_⟩
      rw [EM.runs_take hx, ← EM.map_app]
      exact A3
    · rintro σ H2 ⟨v, rfl, A2⟩
      repeat walk_at "s"
      have e : (EM.runs hs).take hs.length = EM.runs hs := List.take_of_length_le (by rw [EM.runs_len]; omega)
      rw [e] at A2
      exact k l H2 A2.ex (A2.new _ List.mem_cons_self) (A2.get List.mem_cons_self)
theorem use_running {T : Txt K mg} {H0 H : Hp} {L : List (Addr × HO)} {Q : VK} {E : XK} {a : Addr} {hs : List Int} (A : At H0 L H) (ha : SqL K H a (hs.map V.int)) (hl : hs.length ≤ 1000) (k : ∀ q H', At H0 ((q, .lst ((EM.runs hs).map V.int)) :: L) H' → Q (.ref q) H') : sp_running T [.ref a] H Q E :=
  ⟨a, hs, rfl, ha, hl, fun q H' s h0 h1 => k q H' (A.made s h0 h1)⟩

/-! Within, Stretch -/
def WithinAt (T : Txt K mg) (H : Hp) (p l : Addr) (cs : List Int) : Prop := ∃ dx, H p = some (.ins T.c_Within dx [("carried", .ref l)]) ∧ H l = some (.lst (cs.map V.int))
theorem WithinAt.mono {T : Txt K mg} {H H' : Hp} {p l : Addr} {cs : List Int} (R : WithinAt T H p l cs) (s : Same H H') : WithinAt T H' p l cs := by
  obtain ⟨dx, h1, h2⟩ := R
  exact ⟨dx, s _ _ h1, s _ _ h2⟩
theorem fm_ne : ¬ (("first" : Str) = "many") := by decide +kernel
def sfl (f m : Int) : List (Str × V) := [("first", .int f), ("many", .int m)]
theorem sfl_put (f m : Int) : putF "many" (.int m) (putF "first" (.int f) []) = sfl f m := by
  show (if ("first" : Str) = "many" then [(("first" : Str), V.int m)] else (("first" : Str), V.int f) :: putF "many" (V.int m) []) = _
  rw [if_neg fm_ne]
  rfl
theorem sfl_first (f m : Int) : (sfl f m).lookup ("first" : Str) = some (V.int f) := by simp [sfl, List.lookup]
theorem sfl_many (f m : Int) : (sfl f m).lookup ("many" : Str) = some (V.int m) := by
  have : (("many" : Str) == "first") = false := by decide +kernel
  simp [sfl, List.lookup, this]
theorem sfl_no (f m : Int) {g : Str} (h1 : (g == "first") = false) (h2 : (g == "many") = false) : (sfl f m).lookup g = none := by simp [sfl, List.lookup, h1, h2]
def StretchAt (T : Txt K mg) (H : Hp) (p : Addr) (f m : Int) : Prop := ∃ dx, H p = some (.ins T.c_Stretch dx (sfl f m))
theorem StretchAt.mono {T : Txt K mg} {H H' : Hp} {p : Addr} {f m : Int} (R : StretchAt T H p f m) (s : Same H H') : StretchAt T H' p f m := by
  obtain ⟨dx, h1⟩ := R
  exact ⟨dx, s _ _ h1⟩
theorem r_carriedW {T : Txt K mg} {H : Hp} {Q : VK} {p dx l : Addr} (h : H p = some (.ins T.c_Within dx [("carried", .ref l)])) (k : Q (.ref l) H) : fldK K "carried" (.ref p) H Q := r_fldK h T.cl_Within T.no_Within_carried rfl k
theorem r_firstS {T : Txt K mg} {H : Hp} {Q : VK} {p dx : Addr} {f m : Int} (h : H p = some (.ins T.c_Stretch dx (sfl f m))) (k : Q (.int f) H) : fldK K "first" (.ref p) H Q := r_fldK h T.cl_Stretch T.no_Stretch_first (sfl_first f m) k
theorem r_manyS {T : Txt K mg} {H : Hp} {Q : VK} {p dx : Addr} {f m : Int} (h : H p = some (.ins T.c_Stretch dx (sfl f m))) (k : Q (.int m) H) : fldK K "many" (.ref p) H Q := r_fldK h T.cl_Stretch T.no_Stretch_many (sfl_many f m) k
local macro_rules | `(tactic| walk_at "s") => `(tactic| ((with_reducible show fldK _ _ (V.ref _) _ _); first | refine r_carriedW (by walk_at "hp") ?_ | refine r_firstS (by walk_at "hp") ?_ | refine r_manyS (by walk_at "hp") ?_))
def sp_Within_init (T : Txt K mg) : Sp := fun vs H Q _ => ∃ (p dx a : Addr) (cs : List Int), vs = [.ref p, .ref a] ∧ H p = some (.ins T.c_Within dx []) ∧ SqL K H a (cs.map V.int) ∧
  ∀ l H', H l = none → (∀ b o, H b = some o → b ≠ p → H' b = some o) → H' p = some (.ins T.c_Within dx [("carried", .ref l)]) → H' l = some (.lst (cs.map V.int)) → Q .non H'
theorem ok_Within_init (T : Txt K mg) : FnOk P w K mg base CX0 1 T.f_Within_init T.fd_Within_init ["self", "carried"] (sp_Within_init T) := by
  refine T.F_Within_init.ok sc_Within_init (fun vs H Q E h => ?_) (fun cdv A outer s H vs Q E hr h => ?_)
  · obtain ⟨_, _, _, _, rfl, _⟩ := h
    rfl
  · skip
    obtain ⟨p, dx, a, cs, rfl, hp, ha, k⟩ := h
    have A := At.nil H
    refine ⟨_, (pss_one (ps_fld (pv 0) (pe_callTy (kList (K := K)) (by rfl) T.n_list EB.bt_list (pa_cons (pv 1) pa_nil)) rfl)), ?_⟩
    repeat walk_at "s"
    refine r_list A ha (fun l H2 A2 => ?_)
    repeat walk_at "s"
    refine r_sfK (A2.ex _ _ hp) T.cl_Within T.no_Within_carried (by decide) ?_
    have npl : l ≠ p := fun e => by
      have z := A2.new _ List.mem_cons_self
      rw [e] at z
      rw [z] at hp
      cases hp
    refine k l _ (A2.new _ List.mem_cons_self) (fun b o e hb => ?_) upd_same ?_
    · rw [upd_ne hb]
      exact A2.ex _ _ e
    · rw [upd_ne npl]
      exact A2.get List.mem_cons_self
theorem use_Within {T : Txt K mg} {H : Hp} {Q : VK} {E : XK} {a : Addr} {cs : List Int} (ha : SqL K H a (cs.map V.int))
    (k : ∀ p l H', Same H H' → H p = none → H l = none → WithinAt T H' p l cs → Q (.ref p) H') : mkC T.c_Within (sp_Within_init T) [.ref a] H Q E := fun x dx nx nd _ =>
  ⟨x, dx, a, cs, rfl, upd_same, (same_mk nx nd).seq ha, fun l H' h0 keep hp hl' => ⟨rfl, k x l H' (fun b o e => keep b o (same_mk nx nd b o e) (ne_of_none e nx)) nx ((same_mk nx nd).free h0) ⟨dx, hp, hl'⟩⟩⟩
def sp_Within_shows (T : Txt K mg) : Sp := fun vs H Q _ => ∃ (p r l : Addr) (hs cs : List Int) (most : Int), vs = [.ref p, .ref r, .int most] ∧ WithinAt T H p l cs ∧ RingAt T H r hs ∧ hs.length ≤ 1000 ∧ cs.length ≤ 1000 ∧
  ∀ H', Same H H' → Q (.bl (decide (EM.cyc cs = hs) && cs.all fun c => decide ((c.natAbs : Int) ≤ most))) H'
theorem ok_Within_shows (T : Txt K mg) : FnOk P w K mg base CX0 2 T.f_Within_shows T.fd_Within_shows ["self", "ring", "most"] (sp_Within_shows T) := by
  refine T.F_Within_shows.ok sc_Within_shows (fun vs H Q E h => ?_) (fun cdv A outer s H vs Q E hr h => ?_)
  · obtain ⟨_, _, _, _, _, _, rfl, _⟩ := h
    rfl
  · skip
    obtain ⟨p, r, l, hs, cs, most, rfl, ⟨dx, hp, hl⟩, ⟨dr, lr, hr1, hr2⟩, hn, hn2, k⟩ := h
    have A := At.nil H
    have h1 : SqL K H l (cs.map V.int) := SqL.of hl
    have h2 : SqL K H lr (hs.map V.int) := SqL.of hr2
    refine ⟨_, (pss_one (ps_ret (pe_and (pe_call (ok_is_evening T) (hr.mono (by decide)) (by rfl) T.g_is_evening T.F_is_evening.kp (b_is_evening T) .nil pass0 (pa_cons (kFld (K := K) (pv 1)) (pa_cons (kFld (K := K) (pv 0)) pa_nil))) (pe_one (pe_callB (kAll (K := K)) (by rfl) T.n_all EB.bt_all (pa_cons (pe_lc (own := [("one", 3)]) (g := gName 3) rfl sc_Within_shows.nd (kPiL (K := K) (kFld (K := K) (pv 0))) (blkOk_by (own := [("one", 3)]) (N := ["self", "ring", "most", "one"]) (sc := defScope s_Within_shows) (by decide +kernel)) (fun _ _ _ _ _ => (pg_name (i := 3) sc_Within_shows.nd rfl (by first | exact Or.inl rfl | exact Or.inr rfl))) (fun _ _ _ _ _ => pts_nil) (fun _ _ _ _ _ => (pe_cmpR op_le (pe_callB cr_abs (by rfl) T.n_abs EB.bt_abs (pa_cons (pv 3) pa_nil)) (pv 2) (nomark _)))) pa_nil)))))), ?_⟩
    repeat walk_at "s"
    rename_i H1 A1
    refine r_if2 (fun e => ?_) (fun e => ?_)
    · repeat walk_at "s"
      refine r_lcLB (fun c => decide ((c.natAbs : Int) ≤ most)) A1 (.inl h1) (by omega) (fun _ => rfl) (fun i x D H' Q' hx A' q => ?_) (fun D H' A' => ?_)
      · repeat walk_at "s"
        exact q.t0 rfl A'
      · repeat walk_at "s"
        rw [EM.all_map_id]
        have z := k H' A'.ex
        rw [e, Bool.true_and] at z
        exact z
    · have z := k H1 A1.ex
      rw [e] at z
      exact z
def sp_Stretch_init (T : Txt K mg) : Sp := fun vs H Q _ => ∃ (p dx : Addr) (f m : Int), vs = [.ref p, .int f, .int m] ∧ H p = some (.ins T.c_Stretch dx []) ∧
  ∀ H', (∀ b o, H b = some o → b ≠ p → H' b = some o) → H' p = some (.ins T.c_Stretch dx (sfl f m)) → Q .non H'
theorem ok_Stretch_init (T : Txt K mg) : FnOk P w K mg base CX0 1 T.f_Stretch_init T.fd_Stretch_init ["self", "first", "many"] (sp_Stretch_init T) := by
  refine T.F_Stretch_init.ok sc_Stretch_init (fun vs H Q E h => ?_) (fun cdv A outer s H vs Q E hr h => ?_)
  · obtain ⟨_, _, _, _, rfl, _⟩ := h
    rfl
  · skip
    obtain ⟨p, dx, f, m, rfl, hp, k⟩ := h
    refine ⟨_, (pss_cons (ps_fld (pv 0) (pv 1) rfl)
      (pss_one (ps_fld (pv 0) (pv 2) rfl))), ?_⟩
    repeat walk_at "s"
    refine r_sfK hp T.cl_Stretch T.no_Stretch_first (by decide) ?_
    repeat walk_at "s"
    refine r_sfK upd_same T.cl_Stretch T.no_Stretch_many (by show 1 < 1000; decide) ?_
    refine k _ (fun b o e hb => ?_) ?_
    · rw [upd_ne hb, upd_ne hb]
      exact e
    · rw [upd_same, sfl_put]
theorem use_Stretch {T : Txt K mg} {H : Hp} {Q : VK} {E : XK} {f m : Int} (k : ∀ p H', Same H H' → H p = none → StretchAt T H' p f m → Q (.ref p) H') : mkC T.c_Stretch (sp_Stretch_init T) [.int f, .int m] H Q E := fun x dx nx nd _ =>
  ⟨x, dx, f, m, rfl, upd_same, fun H' keep hp => ⟨rfl, k x H' (fun b o e => keep b o (same_mk nx nd b o e) (ne_of_none e nx)) nx ⟨dx, hp⟩⟩⟩
def sp_Stretch_shows (T : Txt K mg) : Sp := fun vs H Q _ => ∃ (p r : Addr) (hs : List Int) (f m most : Int), vs = [.ref p, .ref r, .int most] ∧ StretchAt T H p f m ∧ RingAt T H r hs ∧ hs.length ≤ 1000 ∧
  ∀ H', Same H H' → Q (.bl (EM.strB hs f m most)) H'
theorem ok_Stretch_shows (T : Txt K mg) : FnOk P w K mg base CX0 2 T.f_Stretch_shows T.fd_Stretch_shows ["self", "ring", "most"] (sp_Stretch_shows T) := by
  refine T.F_Stretch_shows.ok sc_Stretch_shows (fun vs H Q E h => ?_) (fun cdv A outer s H vs Q E hr h => ?_)
  · obtain ⟨_, _, _, _, _, _, rfl, _⟩ := h
    rfl
  · skip
    obtain ⟨p, r, hs, f, m, most, rfl, ⟨dx, hp⟩, R, hn, k⟩ := h
    obtain ⟨dr, lr, hr1, hr2⟩ := id R
    have A := At.nil H
    have h2 : SqL K H lr (hs.map V.int) := SqL.of hr2
    have kf : EM.strB hs f m most = false → Q (.bl false) H := fun e => by
      have z := k H A.ex
      rw [e] at z
      exact z
    refine ⟨_, (pss_cons (ps_set (i := 3) sc_Stretch_shows.nd rfl (by first | exact Or.inl rfl | exact Or.inr rfl) (kFld (K := K) (pv 1)))
      (pss_cons (ps_if (PW.pt (pw_or (pt_cmpR op_ne (pe_meth0 (pv 1) T.cl_Ring T.m_Ring_whole (ok_Ring_whole T) (hr.mono (by decide)) (b_Ring_whole T) .nil pass0) pe_int (nomark _)) (pw_or (pt_not (pt_chain op_le op_lt pe_int (kFld (K := K) (pv 0)) (pe_callB (kLen (K := K)) (by rfl) T.n_len PySem.boot_len (pa_cons (pv 3) pa_nil)))) (pw_or1 (pt_not (pt_chain op_le op_lt pe_int (kFld (K := K) (pv 0)) (pe_callB (kLen (K := K)) (by rfl) T.n_len PySem.boot_len (pa_cons (pv 3) pa_nil)))))))) (pss_one (ps_ret pe_bl)) pss_nil)
      (pss_one (ps_ret (pe_cmpR op_gt (pe_callB cr_abs (by rfl) T.n_abs EB.bt_abs (pa_cons (pe_callB (kSum (K := K)) (by rfl) T.n_sum EB.bt_sum (pa_cons (pe_slice (kSlL (K := K)) (pe_op op_cat (pv 3) (pv 3)) (po_some (kFld (K := K) (pv 0))) (po_some (pe_op op_add (kFld (K := K) (pv 0)) (kFld (K := K) (pv 0))))) pa_nil)) pa_nil)) (pe_op op_mul pe_int (pv 2)) (nomark _)))))), ?_⟩
    repeat walk_at "s"
    refine use_whole R ?_
    repeat walk_at "s"
    refine r_ifND (fun h0 => ?_) (fun h0 => ?_)
    · repeat walk_at "s"
      exact kf (by unfold EM.strB; rw [decide_eq_false h0]; rfl)
    repeat walk_at "s"
    refine r_ifD (fun h1 => ?_) (fun h1 => ?_)
    · repeat walk_at "s"
      refine r_ifND (fun h3 => ?_) (fun h3 => ?_)
      · repeat walk_at "s"
        exact kf (by unfold EM.strB; rw [decide_eq_false (fun z : 0 ≤ f ∧ f < hs.length => h3 z.2)]; simp)
      repeat walk_at "s"
      refine r_ifD (fun h4 => ?_) (fun h4 => ?_)
      · repeat walk_at "s"
        refine r_ifND (fun h5 => ?_) (fun h5 => ?_)
        · repeat walk_at "s"
          exact kf (by unfold EM.strB; rw [decide_eq_false (fun z : 1 ≤ m ∧ m < hs.length => h5 z.2)]; simp)
        repeat walk_at "s"
        refine r_cat A hr2 hr2 (by rw [List.length_map]; omega) (fun l2 H2 A2 => ?_)
        repeat walk_at "s"
        refine r_slL A2 (A2.sqo (by walk_at "mem")) (fun l3 H3 A3 => ?_)
        have ec : cutV (hs.map V.int ++ hs.map V.int) (some f) (some (f + m)) = (((hs ++ hs).drop f.toNat).take m.toNat).map V.int := EM.cut_str h1 (by omega) (by omega) h5
        rw [ec] at A3
        repeat walk_at "s"
        have z := k H3 A3.ex
        rw [EM.strB_true h0 ⟨h1, h3⟩ ⟨h4, h5⟩] at z
        exact z
      · repeat walk_at "s"
        exact kf (by unfold EM.strB; rw [decide_eq_false (fun z : 1 ≤ m ∧ m < hs.length => h4 z.1)]; simp)
    · repeat walk_at "s"
      exact kf (by unfold EM.strB; rw [decide_eq_false (fun z : 0 ≤ f ∧ f < hs.length => h1 z.1)]; simp)

theorem use_Wshows {T : Txt K mg} {H0 H : Hp} {L : List (Addr × HO)} {Q : VK} {E : XK} {p r l : Addr} {hs cs : List Int} {most : Int} (A : At H0 L H) (R : WithinAt T H p l cs) (R2 : RingAt T H r hs) (hn : hs.length ≤ 1000) (hc : cs.length ≤ 1000)
    (k : ∀ H', At H0 L H' → Q (.bl (decide (EM.cyc cs = hs) && cs.all fun c => decide ((c.natAbs : Int) ≤ most))) H') : sp_Within_shows T [.ref p, .ref r, .int most] H Q E := ⟨p, r, l, hs, cs, most, rfl, R, R2, hn, hc, fun H' s => k H' (A.same s)⟩
theorem use_Sshows {T : Txt K mg} {H0 H : Hp} {L : List (Addr × HO)} {Q : VK} {E : XK} {p r : Addr} {hs : List Int} {f m most : Int} (A : At H0 L H) (R : StretchAt T H p f m) (R2 : RingAt T H r hs) (hn : hs.length ≤ 1000)
    (k : ∀ H', At H0 L H' → Q (.bl (EM.strB hs f m most)) H') : sp_Stretch_shows T [.ref p, .ref r, .int most] H Q E := ⟨p, r, hs, f, m, most, rfl, R, R2, hn, fun H' s => k H' (A.same s)⟩
local macro_rules | `(tactic| walk_at "ra") => `(tactic| first | assumption | exact RingAt.mono (by assumption) (At.ex (by assumption)))
local macro_rules | `(tactic| walk_at "wa") => `(tactic| first | assumption | exact WithinAt.mono (by assumption) (At.ex (by assumption)) | exact ⟨_, At.get (by assumption) (by walk_at "mem"), At.get (by assumption) (by walk_at "mem")⟩)
local macro_rules | `(tactic| walk_at "sa") => `(tactic| first | assumption | exact StretchAt.mono (by assumption) (At.ex (by assumption)))
local macro_rules | `(tactic| walk_at "s") => `(tactic| ((with_reducible show mth2K _ _ _ _ _ _ _ (V.ref _) _ _ _ _); first | refine r_m2l (by walk_at "hp") (look1 (by decide +kernel)) ?_ | refine r_m2r (by walk_at "hp") (sfl_no _ _ (by decide +kernel) (by decide +kernel)) ?_))
local macro_rules | `(tactic| walk_at "s") => `(tactic| ((with_reducible show sp_Within_shows _ [_, _, _] _ _ _); refine use_Wshows (by assumption) (by walk_at "wa") (by walk_at "ra") (by omega) (by omega) ?_; intro H' A'))
local macro_rules | `(tactic| walk_at "s") => `(tactic| ((with_reducible show sp_Stretch_shows _ [_, _, _] _ _ _); refine use_Sshows (by assumption) (by walk_at "sa") (by walk_at "ra") (by omega) ?_; intro H' A'))
def sp_within (T : Txt K mg) : Sp := fun vs H Q _ => ∃ (p : Addr) (hs : List Int) (most : Int), vs = [.ref p, .int most] ∧ RingAt T H p hs ∧ 0 ≤ most ∧ hs.sum = 0 ∧ 2 ≤ hs.length ∧ hs.length ≤ 1000 ∧
  (∀ lo hi q l H', EM.Ext (EM.runs hs) lo hi → hi - lo ≤ 2 * most → Same H H' → H q = none → H l = none → WithinAt T H' q l ((EM.runs hs).map fun r => r - (lo + hi) / 2) → Q (.ref q) H') ∧
  (∀ (lo hi : Int) (q : Addr) (f m : Int) H', EM.Ext (EM.runs hs) lo hi → 2 * most < hi - lo → (0 ≤ f ∧ f < (hs.length : Int)) → (1 ≤ m ∧ m < (hs.length : Int)) → ((EM.str hs f.toNat m.toNat).natAbs : Int) = hi - lo → Same H H' → H q = none → StretchAt T H' q f m → Q (.ref q) H')
theorem ok_within (T : Txt K mg) : FnOk P w K mg base CX0 3 T.f_within T.fd_within ["ring", "most"] (sp_within T) := by
  refine T.F_within.ok sc_within (fun vs H Q E h => ?_) (fun cdv A outer s H vs Q E hr h => ?_)
  · obtain ⟨_, _, _, rfl, _⟩ := h
    rfl
  · skip
    obtain ⟨p, hs, most, rfl, R, hm, h0, hl2, hl, k1, k2⟩ := h
    obtain ⟨dx, lp, hp, hlp⟩ := id R
    have A := At.nil H
    have h1 : SqL K H lp (hs.map V.int) := SqL.of hlp
    have hrl := EM.runs_len hs
    refine ⟨_, (pss_cons (ps_if (PW.pt (pw_or (pt_not (pt_val (pe_call (ok_is_whole T) (hr.mono (by decide)) (by rfl) T.g_is_whole T.F_is_whole.kp (b_is_whole T) .nil pass0 (pa_cons (pv 1) pa_nil)))) (pw_or1 (pt_cmpR op_lt (pv 1) pe_int (nomark _))))) (pss_one ps_never) pss_nil)
      (pss_cons (ps_expr (pe_call (ok_check_total T) (hr.mono (by decide)) (by rfl) T.g_check_total T.F_check_total.kp (b_check_total T) .nil pass0 (pa_cons (pv 0) pa_nil)))
      (pss_cons (ps_set (i := 2) sc_within.nd rfl (by first | exact Or.inl rfl | exact Or.inr rfl) (pe_call (ok_running T) (hr.mono (by decide)) (by rfl) T.g_running T.F_running.kp (b_running T) .nil pass0 (pa_cons (kFld (K := K) (pv 0)) pa_nil)))
      (pss_cons (ps_set (i := 3) sc_within.nd rfl (by first | exact Or.inl rfl | exact Or.inr rfl) (pe_callB (kMin (K := K)) (by rfl) T.n_min EB.bt_min (pa_cons (pv 2) pa_nil)))
      (pss_cons (ps_set (i := 4) sc_within.nd rfl (by first | exact Or.inl rfl | exact Or.inr rfl) (pe_callB (kMax (K := K)) (by rfl) T.n_max EB.bt_max (pa_cons (pv 2) pa_nil)))
      (pss_cons (ps_if (pt_cmpR op_le (pe_op op_sub (pv 4) (pv 3)) (pe_op op_mul pe_int (pv 1)) (nomark _)) (pss_cons (ps_set (i := 5) sc_within.nd rfl (by first | exact Or.inl rfl | exact Or.inr rfl) (pe_op op_fdiv (pe_op op_add (pv 3) (pv 4)) pe_int))
      (pss_one (ps_ret (pe_make T.mk_Within (ok_Within_init T) (hr.mono (by decide)) (by rfl) T.g_Within (b_Within_init T) .nil pass0 (pa_cons (pe_lc (own := [("one", 6)]) (g := gName 6) rfl sc_within.nd (kPiL (K := K) (pv 2)) (blkOk_by (own := [("one", 6)]) (N := ["ring", "most", "sums", "low", "high", "middle", "one", "other", "first"]) (sc := defScope s_within) (by decide +kernel)) (fun _ _ _ _ _ => (pg_name (i := 6) sc_within.nd rfl (by first | exact Or.inl rfl | exact Or.inr rfl))) (fun _ _ _ _ _ => pts_nil) (fun _ _ _ _ _ => (pe_op op_sub (pv 6) (pv 5)))) pa_nil))))) pss_nil)
      (pss_cons (ps_set (i := 6) sc_within.nd rfl (by first | exact Or.inl rfl | exact Or.inr rfl) (pe_bm PySem.F.plainAttrs_list PySem.F.slot_list_index PySem.F.type_list_index (kIdx (K := K)) (pv 2) (pa_cons (pv 3) pa_nil)))
      (pss_cons (ps_set (i := 7) sc_within.nd rfl (by first | exact Or.inl rfl | exact Or.inr rfl) (pe_bm PySem.F.plainAttrs_list PySem.F.slot_list_index PySem.F.type_list_index (kIdx (K := K)) (pv 2) (pa_cons (pv 4) pa_nil)))
      (pss_cons (ps_set (i := 8) sc_within.nd rfl (by first | exact Or.inl rfl | exact Or.inr rfl) (pe_callB (EB.cr_min2 rfl) (by rfl) T.n_min EB.bt_min (pa_cons (pv 6) (pa_cons (pv 7) pa_nil))))
      (pss_one (ps_ret (pe_make T.mk_Stretch (ok_Stretch_init T) (hr.mono (by decide)) (by rfl) T.g_Stretch (b_Stretch_init T) .nil pass0 (pa_cons (pe_op op_add (pv 8) pe_int) (pa_cons (pe_callB cr_abs (by rfl) T.n_abs EB.bt_abs (pa_cons (pe_op op_sub (pv 6) (pv 7)) pa_nil)) pa_nil)))))))))))))), ?_⟩
    repeat walk_at "s"
    refine ⟨most, rfl, ?_⟩
    repeat walk_at "s"
    refine ⟨p, hs, rfl, R, h0, ?_⟩
    repeat walk_at "s"
    refine use_running A h1 hl (fun q H1 A1 => ?_)
    repeat walk_at "s"
    refine r_min (A1.sqo (by walk_at "mem")) (by omega) (fun lo l1 l2 => ?_)
    repeat walk_at "s"
    refine r_max (A1.sqo (by walk_at "mem")) (by omega) (fun hi u1 u2 => ?_)
    have X : EM.Ext (EM.runs hs) lo hi := ⟨l1, u1, fun y hy => ⟨l2 y hy, u2 y hy⟩⟩
    repeat walk_at "s"
    refine r_ifD (fun hle => ?_) (fun hgt => ?_)
    · repeat walk_at "s"
      refine r_lcLI (fun r => r - (lo + hi) / 2) A1 (.inr (by walk_at "mem")) (by omega) (fun _ => rfl) (fun i x D H' Q' hx A' q' => ?_) (fun D H' A' => ?_)
      · repeat walk_at "s"
        exact q'.t0 rfl A'
      · repeat walk_at "s"
        refine use_Within (A'.sqo (by walk_at "mem")) (fun w l H2 s2 n1 n2 W => ?_)
        exact k1 lo hi w l H2 X hle (A'.ex.trans s2) (A'.ex.free n1) (A'.ex.free n2) W
    · repeat walk_at "s"
      refine r_index (A1.sqo (by walk_at "mem")) l1 (fun i hi' => ?_)
      repeat walk_at "s"
      refine r_index (A1.sqo (by walk_at "mem")) u1 (fun j hj => ?_)
      repeat walk_at "s"
      obtain ⟨s1, s2, s3, s4, s5⟩ := EM.str_runs hm hi' hj (by omega)
      refine use_Stretch (fun w H2 s n1 S => ?_)
      exact k2 lo hi w _ _ H2 X (by omega) ⟨s1, s2⟩ ⟨s3, s4⟩ s5 (A1.ex.trans s) (A1.ex.free n1) S
def sp_widest (T : Txt K mg) : Sp := fun vs H Q _ => ∃ (p : Addr) (hs : List Int), vs = [.ref p] ∧ RingAt T H p hs ∧ hs.sum = 0 ∧ 2 ≤ hs.length ∧ hs.length ≤ 1000 ∧ ∀ lo hi H', EM.Ext (EM.runs hs) lo hi → Same H H' → Q (.int ((hi - lo + 1) / 2)) H'
theorem ok_widest (T : Txt K mg) : FnOk P w K mg base CX0 3 T.f_widest T.fd_widest ["ring"] (sp_widest T) := by
  refine T.F_widest.ok sc_widest (fun vs H Q E h => ?_) (fun cdv A outer s H vs Q E hr h => ?_)
  · obtain ⟨_, _, rfl, _⟩ := h
    rfl
  · skip
    obtain ⟨p, hs, rfl, R, h0, hl2, hl, k⟩ := h
    obtain ⟨dx, lp, hp, hlp⟩ := id R
    have A := At.nil H
    have h1 : SqL K H lp (hs.map V.int) := SqL.of hlp
    have hrl := EM.runs_len hs
    refine ⟨_, (pss_cons (ps_expr (pe_call (ok_check_total T) (hr.mono (by decide)) (by rfl) T.g_check_total T.F_check_total.kp (b_check_total T) .nil pass0 (pa_cons (pv 0) pa_nil)))
      (pss_cons (ps_set (i := 1) sc_widest.nd rfl (by first | exact Or.inl rfl | exact Or.inr rfl) (pe_call (ok_running T) (hr.mono (by decide)) (by rfl) T.g_running T.F_running.kp (b_running T) .nil pass0 (pa_cons (kFld (K := K) (pv 0)) pa_nil)))
      (pss_one (ps_ret (pe_op op_fdiv (pe_op op_add (pe_op op_sub (pe_callB (kMax (K := K)) (by rfl) T.n_max EB.bt_max (pa_cons (pv 1) pa_nil)) (pe_callB (kMin (K := K)) (by rfl) T.n_min EB.bt_min (pa_cons (pv 1) pa_nil))) pe_int) pe_int))))), ?_⟩
    repeat walk_at "s"
    refine ⟨p, hs, rfl, R, h0, ?_⟩
    repeat walk_at "s"
    refine use_running A h1 hl (fun q H1 A1 => ?_)
    repeat walk_at "s"
    refine r_max (A1.sqo (by walk_at "mem")) (by omega) (fun hi u1 u2 => ?_)
    repeat walk_at "s"
    refine r_min (A1.sqo (by walk_at "mem")) (by omega) (fun lo l1 l2 => ?_)
    repeat walk_at "s"
    exact k lo hi H1 ⟨l1, u1, fun y hy => ⟨l2 y hy, u2 y hy⟩⟩ A1.ex

def sp_law_stretched (_ : Txt K mg) : Sp := fun vs H Q _ => ∃ (a : Addr) (hs : List Int) (f m most : Int), vs = [.ref a, .int f, .int m, .int most] ∧ SqL K H a (hs.map V.int) ∧ hs.length ≤ 1000 ∧ (0 ≤ f ∧ f < hs.length) ∧ (1 ≤ m ∧ m < hs.length) ∧
  ∀ H', Same H H' → Q (.bl (decide (2 * most < ((EM.str hs f.toNat m.toNat).natAbs : Int)))) H'
theorem ok_law_stretched (T : Txt K mg) : FnOk P w K mg base CX0 1 T.f_law_stretched T.fd_law_stretched ["_law_houses_here", "_law_first", "_law_many", "_law_most"] (sp_law_stretched T) := by
  refine T.F_law_stretched.ok sc_law_stretched (fun vs H Q E h => ?_) (fun cdv A outer s H vs Q E hr h => ?_)
  · obtain ⟨_, _, _, _, _, rfl, _⟩ := h
    rfl
  · skip
    obtain ⟨a, hs, f, m, most, rfl, ha, hl, hf, hm, k⟩ := h
    have A := At.nil H
    refine ⟨_, (pss_cons (ps_for PassesOwn.never rfl (kPiT (K := K) (pe_tup (pa_cons (pv 1) (pa_cons (pv 2) pa_nil)))) (pg_name (i := 4) sc_law_stretched.nd rfl (by first | exact Or.inl rfl | exact Or.inr rfl)) (pss_one (ps_if (PW.pt (pw_or (pt_val (pe_callB (kIsi (K := K)) (by rfl) T.n_isinstance EB.bt_isinstance (pa_cons (pv 4) (pa_cons (pe_bltn (v := .ty "bool") (by rfl) T.n_bool EB.bt_bool rfl) pa_nil)))) (pw_or1 (pt_not (pt_val (pe_callB (kIsi (K := K)) (by rfl) T.n_isinstance EB.bt_isinstance (pa_cons (pv 4) (pa_cons (pe_bltn (v := .ty "int") (by rfl) T.n_int EB.bt_int rfl) pa_nil)))))))) (pss_one (ps_ret pe_bl)) pss_nil)))
      (pss_cons (ps_if (PW.pt (pw_or (pt_not (pt_chain op_le op_lt pe_int (pv 1) (pe_callB (kLen (K := K)) (by rfl) T.n_len PySem.boot_len (pa_cons (pv 0) pa_nil)))) (pw_or1 (pt_not (pt_chain op_lt op_lt pe_int (pv 2) (pe_callB (kLen (K := K)) (by rfl) T.n_len PySem.boot_len (pa_cons (pv 0) pa_nil))))))) (pss_one (ps_ret pe_bl)) pss_nil)
      (pss_one (ps_ret (pe_cmpR op_gt (pe_callB cr_abs (by rfl) T.n_abs EB.bt_abs (pa_cons (pe_callB (kSum (K := K)) (by rfl) T.n_sum EB.bt_sum (pa_cons (pe_lc (own := [("_law_k", 5)]) (g := gName 5) rfl sc_law_stretched.nd (pi_range1 (by rfl) T.n_range (pa_cons (pv 2) pa_nil)) (blkOk_by (own := [("_law_k", 5)]) (N := ["_law_houses_here", "_law_first", "_law_many", "_law_most", "_law_number", "_law_k"]) (sc := defScope s_law_stretched) (by decide +kernel)) (fun _ _ _ _ _ => (pg_name (i := 5) sc_law_stretched.nd rfl (by first | exact Or.inl rfl | exact Or.inr rfl))) (fun _ _ _ _ _ => pts_nil) (fun _ _ _ _ _ => (pe_ix (kIxL (K := K)) (pv 0) (pe_op op_mod (pe_op op_add (pv 1) (pv 5)) (pe_callB (kLen (K := K)) (by rfl) T.n_len PySem.boot_len (pa_cons (pv 0) pa_nil))) (fun _ _ => rfl)))) pa_nil)) pa_nil)) (pe_op op_mul pe_int (pv 3)) (nomark _)))))), ?_⟩
    repeat walk_at "s"
    refine r_mkT A (by show 2 ≤ 10000000; decide) (fun t H1 A1 => ?_)
    repeat walk_at "s"
    refine r_forItt [.int f, .int m] (fun i σ H' => ∃ (v : Option V) , σ = [some (.ref a), some (.int f), some (.int m), some (.int most), v, none] ∧ At H [(t, .tup [.int f, .int m])] H') ⟨none, rfl, A1⟩ (fun i σ H' _ ⟨v, _, A'⟩ => A'.sto (by walk_at "mem")) ?_ ?_
    · rintro i x σ H2 N hx ⟨v, rfl, A2⟩ hN
      obtain ⟨z, rfl⟩ : ∃ z, x = V.int z := by
        match i, hx with
        | 0, h => exact ⟨f, (Option.some.inj h).symm⟩
        | 1, h => exact ⟨m, (Option.some.inj h).symm⟩
        | i + 2, h => simp at h
      repeat walk_at "s"
      exact hN _ _ ⟨_, rfl, A2⟩
    · rintro σ H2 ⟨v, rfl, A2⟩
      repeat walk_at "s"
      refine r_rng1 (n := m.toNat) (by omega) (by omega) ?_
      have hmod : ∀ z : Int, 0 ≤ z % (hs.length : Int) ∧ z % (hs.length : Int) < hs.length := fun z => ⟨Int.emod_nonneg _ (by omega), Int.emod_lt_of_pos _ (by omega)⟩
      refine r_lcRI (fun k => gz hs ((f + (k : Int)) % (hs.length : Int))) A2 (by omega) (fun _ => rfl) (fun i D H' Q' hi A' q => ?_) (fun D H' A' => ?_)
      · have hz := hmod (f + (i : Int))
        repeat walk_at "s"
        exact q.t0 rfl A'
      · repeat walk_at "s"
        have z := k H' A'.ex
        rw [EM.str_cyc (by omega) (by omega), show ((f.toNat : Nat) : Int) = f by omega] at z
        exact z
def sp_law_due (T : Txt K mg) : Sp := fun vs H Q _ => ∃ (a o : Addr) (hs : List Int) (most : Int), vs = [.ref a, .ref o, .int most] ∧ SqL K H a (hs.map V.int) ∧ hs.length ≤ 1000 ∧
  ((∃ f m, StretchAt T H o f m ∧ (0 ≤ f ∧ f < hs.length) ∧ (1 ≤ m ∧ m < hs.length) ∧ ∀ H', Same H H' → Q (.bl (decide (2 * most < ((EM.str hs f.toNat m.toNat).natAbs : Int)))) H') ∨
   (∃ l cs, WithinAt T H o l cs ∧ 0 < cs.length ∧ cs.length ≤ 1000 ∧ ∀ H', Same H H' → Q (.bl (decide (EM.cyc cs = hs) && cs.all fun c => decide ((c.natAbs : Int) ≤ most))) H'))
theorem ok_law_due (T : Txt K mg) : FnOk P w K mg base CX0 2 T.f_law_due T.fd_law_due ["_law_houses_here", "_law_found", "_law_most"] (sp_law_due T) := by
  refine T.F_law_due.ok sc_law_due (fun vs H Q E h => ?_) (fun cdv A outer s H vs Q E hr h => ?_)
  · obtain ⟨_, _, _, _, rfl, _⟩ := h
    rfl
  · skip
    obtain ⟨a, o, hs, most, rfl, ha, hl, k⟩ := h
    have A := At.nil H
    refine ⟨_, (pss_cons (ps_if (pt_val (pe_callB (kIsi (K := K)) (by rfl) T.n_isinstance EB.bt_isinstance (pa_cons (pv 1) (pa_cons (pe_glob (v := .ref T.c_Stretch) (by rfl) T.g_Stretch rfl) pa_nil)))) (pss_one (ps_ret (pe_call (ok_law_stretched T) (hr.mono (by decide)) (by rfl) T.g_law_stretched T.F_law_stretched.kp (b_law_stretched T) .nil pass0 (pa_cons (pv 0) (pa_cons (kFld (K := K) (pv 1)) (pa_cons (kFld (K := K) (pv 1)) (pa_cons (pv 2) pa_nil))))))) pss_nil)
      (pss_one (ps_ret (pe_and (pe_call (ok_law_evened T) (hr.mono (by decide)) (by rfl) T.g_law_evened T.F_law_evened.kp (b_law_evened T) .nil pass0 (pa_cons (pv 0) (pa_cons (kFld (K := K) (pv 1)) pa_nil))) (pe_one (pe_cmpR op_le (pe_callB (kMax (K := K)) (by rfl) T.n_max EB.bt_max (pa_cons (pe_lc (own := [("_law_one", 3)]) (g := gName 3) rfl sc_law_due.nd (kPiL (K := K) (kFld (K := K) (pv 1))) (blkOk_by (own := [("_law_one", 3)]) (N := ["_law_houses_here", "_law_found", "_law_most", "_law_one"]) (sc := defScope s_law_due) (by decide +kernel)) (fun _ _ _ _ _ => (pg_name (i := 3) sc_law_due.nd rfl (by first | exact Or.inl rfl | exact Or.inr rfl))) (fun _ _ _ _ _ => pts_nil) (fun _ _ _ _ _ => (pe_callB cr_abs (by rfl) T.n_abs EB.bt_abs (pa_cons (pv 3) pa_nil)))) pa_nil)) (pv 2) (nomark _))))))), ?_⟩
    rcases k with ⟨f, m, ⟨dx, hp⟩, hf, hm, k⟩ | ⟨l, cs, ⟨dx, hp, hlc⟩, hc1, hc2, k⟩
    · repeat walk_at "s"
      exact ⟨a, hs, f, m, most, rfl, ha, hl, hf, hm, k⟩
    · have h1 : SqL K H l (cs.map V.int) := SqL.of hlc
      repeat walk_at "s"
      rename_i H1 A1
      refine r_if2 (fun e => ?_) (fun e => ?_)
      · repeat walk_at "s"
        refine r_lcLI (fun c => (c.natAbs : Int)) A1 (.inl h1) (by omega) (fun _ => rfl) (fun i x D H' Q' hx A' q => ?_) (fun D H' A' => ?_)
        · repeat walk_at "s"
          exact q.t0 rfl A'
        · repeat walk_at "s"
          refine r_max (A'.sqo (by walk_at "mem")) (by rw [List.length_map]; omega) (fun mx m1 m2 => ?_)
          repeat walk_at "s"
          have z := k H' A'.ex
          rw [e, Bool.true_and] at z
          rw [EM.max_all m1 m2, List.all_map]
          exact z
      · have z := k H1 A1.ex
        rw [e] at z
        exact z
theorem use_dueS {T : Txt K mg} {H0 H : Hp} {L : List (Addr × HO)} {Q : VK} {E : XK} {a o : Addr} {hs : List Int} {f m most : Int} (A : At H0 L H) (ha : SqL K H a (hs.map V.int)) (hl : hs.length ≤ 1000) (S : StretchAt T H o f m) (hf : 0 ≤ f ∧ f < hs.length) (hm : 1 ≤ m ∧ m < hs.length)
    (k : ∀ H', At H0 L H' → Q (.bl (decide (2 * most < ((EM.str hs f.toNat m.toNat).natAbs : Int)))) H') : sp_law_due T [.ref a, .ref o, .int most] H Q E := ⟨a, o, hs, most, rfl, ha, hl, .inl ⟨f, m, S, hf, hm, fun H' s => k H' (A.same s)⟩⟩
theorem use_dueW {T : Txt K mg} {H0 H : Hp} {L : List (Addr × HO)} {Q : VK} {E : XK} {a o l : Addr} {hs cs : List Int} {most : Int} (A : At H0 L H) (ha : SqL K H a (hs.map V.int)) (hl : hs.length ≤ 1000) (W : WithinAt T H o l cs) (h1 : 0 < cs.length) (h2 : cs.length ≤ 1000)
    (k : ∀ H', At H0 L H' → Q (.bl (decide (EM.cyc cs = hs) && cs.all fun c => decide ((c.natAbs : Int) ≤ most))) H') : sp_law_due T [.ref a, .ref o, .int most] H Q E := ⟨a, o, hs, most, rfl, ha, hl, .inr ⟨l, cs, W, h1, h2, fun H' s => k H' (A.same s)⟩⟩
local macro_rules | `(tactic| walk_at "s") => `(tactic| ((with_reducible show sp_law_due _ [_, _, _] _ _ _); first | (refine use_dueS (by assumption) (by walk_at "sq") (by omega) (by walk_at "sa") (by assumption) (by assumption) ?_; intro H' A') | (refine use_dueW (by assumption) (by walk_at "sq") (by omega) (by walk_at "wa") (by omega) (by omega) ?_; intro H' A')))
def sp_law_right (T : Txt K mg) : Sp := fun vs H Q _ => ∃ (a p : Addr) (hs : List Int) (most : Int), vs = [.ref a, .ref p, .int most] ∧ SqL K H a (hs.map V.int) ∧ RingAt T H p hs ∧ 0 ≤ most ∧ hs.sum = 0 ∧ 2 ≤ hs.length ∧ hs.length ≤ 1000 ∧ ∀ H', Same H H' → Q (.bl true) H'
theorem ok_law_right (T : Txt K mg) : FnOk P w K mg base CX0 4 T.f_law_right T.fd_law_right ["_law_houses_here", "_law_ring", "_law_most"] (sp_law_right T) := by
  refine T.F_law_right.ok sc_law_right (fun vs H Q E h => ?_) (fun cdv A outer s H vs Q E hr h => ?_)
  · obtain ⟨_, _, _, _, rfl, _⟩ := h
    rfl
  · skip
    obtain ⟨a, p, hs, most, rfl, ha, R, hm, h0, hl2, hl, k⟩ := h
    have hrl := EM.runs_len hs
    refine ⟨_, (pss_cons (ps_set (i := 3) sc_law_right.nd rfl (by first | exact Or.inl rfl | exact Or.inr rfl) (pe_call (ok_within T) (hr.mono (by decide)) (by rfl) T.g_within T.F_within.kp (b_within T) .nil pass0 (pa_cons (pv 1) (pa_cons (pv 2) pa_nil))))
      (pss_cons (ps_if (PW.pt (pw_or (pt_not (pt_val (pe_callB (kIsi (K := K)) (by rfl) T.n_isinstance EB.bt_isinstance (pa_cons (pv 3) (pa_cons (pe_glob (v := .ref T.c_Answer) (by rfl) T.g_Answer rfl) pa_nil))))) (pw_or1 (pt_cmpR op_eq (pe_callB (kIsi (K := K)) (by rfl) T.n_isinstance EB.bt_isinstance (pa_cons (pv 3) (pa_cons (pe_glob (v := .ref T.c_Within) (by rfl) T.g_Within rfl) pa_nil))) (pe_callB (kIsi (K := K)) (by rfl) T.n_isinstance EB.bt_isinstance (pa_cons (pv 3) (pa_cons (pe_glob (v := .ref T.c_Stretch) (by rfl) T.g_Stretch rfl) pa_nil))) (nomark _))))) (pss_one (ps_ret pe_bl)) pss_nil)
      (pss_cons (ps_if (PW.pt (pw_or (pt_val (pe_callB (kIsi (K := K)) (by rfl) T.n_isinstance EB.bt_isinstance (pa_cons (pv 3) (pa_cons (pe_glob (v := .ref T.c_Even) (by rfl) T.g_Even rfl) pa_nil)))) (pw_or (pt_val (pe_callB (kIsi (K := K)) (by rfl) T.n_isinstance EB.bt_isinstance (pa_cons (pv 3) (pa_cons (pe_glob (v := .ref T.c_Uneven) (by rfl) T.g_Uneven rfl) pa_nil)))) (pw_or1 (pt_cmpR op_notBl (EB.pe_meth2 (pv 3) T.cl_Within T.m_Within_shows (ok_Within_shows T) (hr.mono (by decide)) (b_Within_shows T) T.cl_Stretch T.m_Stretch_shows (ok_Stretch_shows T) (hr.mono (by decide)) (b_Stretch_shows T) pass0 pass0 (pa_cons (pv 1) (pa_cons (pv 2) pa_nil))) pe_bl (nomark _)))))) (pss_one (ps_ret pe_bl)) pss_nil)
      (pss_cons (ps_if (PW.pt (pw_and (pt_val (pe_callB (kIsi (K := K)) (by rfl) T.n_isinstance EB.bt_isinstance (pa_cons (pv 3) (pa_cons (pe_glob (v := .ref T.c_Within) (by rfl) T.g_Within rfl) pa_nil)))) (pw_and1 (pt_not (pt_val (pe_call (ok_law_numbers T) (hr.mono (by decide)) (by rfl) T.g_law_numbers T.F_law_numbers.kp (b_law_numbers T) .nil pass0 (pa_cons (kFld (K := K) (pv 3)) (pa_cons (pe_callB (kLen (K := K)) (by rfl) T.n_len PySem.boot_len (pa_cons (pv 0) pa_nil)) pa_nil)))))))) (pss_one (ps_ret pe_bl)) pss_nil)
      (pss_cons (ps_for PassesOwn.never rfl (kPiT (K := K) (pe_tup (pa_cons (pv 2) (pa_cons (pe_op op_add (pv 2) pe_int) (pa_cons (pe_callB (EB.cr_max2 rfl) (by rfl) T.n_max EB.bt_max (pa_cons pe_int (pa_cons (pe_op op_sub (pv 2) pe_int) pa_nil))) pa_nil))))) (pg_name (i := 4) sc_law_right.nd rfl (by first | exact Or.inl rfl | exact Or.inr rfl)) (pss_one (ps_if (pt_cmpR op_ne (EB.pe_meth2 (pv 3) T.cl_Within T.m_Within_shows (ok_Within_shows T) (hr.mono (by decide)) (b_Within_shows T) T.cl_Stretch T.m_Stretch_shows (ok_Stretch_shows T) (hr.mono (by decide)) (b_Stretch_shows T) pass0 pass0 (pa_cons (pv 1) (pa_cons (pv 4) pa_nil))) (pe_call (ok_law_due T) (hr.mono (by decide)) (by rfl) T.g_law_due T.F_law_due.kp (b_law_due T) .nil pass0 (pa_cons (pv 0) (pa_cons (pv 3) (pa_cons (pv 4) pa_nil)))) (nomark _)) (pss_one (ps_ret pe_bl)) pss_nil)))
      (pss_cons (ps_if (pt_not (pt_val (pe_call (ok_law_due T) (hr.mono (by decide)) (by rfl) T.g_law_due T.F_law_due.kp (b_law_due T) .nil pass0 (pa_cons (pv 0) (pa_cons (pv 3) (pa_cons (pv 2) pa_nil)))))) (pss_one (ps_ret pe_bl)) pss_nil)
      (pss_cons (ps_if (pt_val (pe_callB (kIsi (K := K)) (by rfl) T.n_isinstance EB.bt_isinstance (pa_cons (pv 3) (pa_cons (pe_glob (v := .ref T.c_Within) (by rfl) T.g_Within rfl) pa_nil)))) (pss_cons (ps_asg (pe_op op_add (pe_ix (kIxL (K := K)) (kFld (K := K) (pv 3)) pe_int (fun _ _ => rfl)) pe_int) (pg_sub (kFld (K := K) (pv 3)) pe_int set_list))
      (pss_one (ps_ret (pe_cmpR op_isBl (EB.pe_meth2 (pv 3) T.cl_Within T.m_Within_shows (ok_Within_shows T) (hr.mono (by decide)) (b_Within_shows T) T.cl_Stretch T.m_Stretch_shows (ok_Stretch_shows T) (hr.mono (by decide)) (b_Stretch_shows T) pass0 pass0 (pa_cons (pv 1) (pa_cons (pv 2) pa_nil))) pe_bl (nomark _))))) pss_nil)
      (pss_one (ps_ret pe_bl))))))))), ?_⟩
    repeat walk_at "s"
    refine ⟨p, hs, most, rfl, R, hm, h0, hl2, hl, fun lo hi q l H1 X hle s1 n1 n2 W => ?_, fun lo hi q f m H1 X hgt hf hmm hst s1 n1 S => ?_⟩
    · have ecs := EM.cyc_runs ((lo + hi) / 2) h0
      have hcl : ((EM.runs hs).map fun r => r - (lo + hi) / 2).length = hs.length := by rw [List.length_map, hrl]
      have hab : ((EM.runs hs).map fun r => r - (lo + hi) / 2).all (fun c => decide ((c.natAbs : Int) ≤ most)) = true := by
        rw [List.all_map, List.all_eq_true]
        intro r hr
        exact decide_eq_true (EM.mid_ok (X.bd r hr).1 (X.bd r hr).2 hle)
      generalize ((EM.runs hs).map fun r => r - (lo + hi) / 2) = cs at W ecs hcl hab
      obtain ⟨dx, hq, hlc⟩ := id W
      have A : At H [(l, .lst (cs.map V.int)), (q, .ins T.c_Within dx [("carried", .ref l)])] H1 := At.two s1 n2 n1 hlc hq (by intro z; cases z)
      clear W hq hlc
      repeat walk_at "s"
      rw [hab, ecs, decide_eq_true (rfl : hs = hs)]
      repeat walk_at "s"
      refine r_mkT (by assumption) (by show 3 ≤ 10000000; decide) (fun t H3 A3 => ?_)
      repeat walk_at "s"
      refine r_forItt [.int most, .int (most + 1), .int (max 0 (most - 1))] (fun i σ H' => ∃ (v : Option V) , σ = [some (.ref a), some (.ref p), some (.int most), some (.ref q), v] ∧ At H [(l, .lst (cs.map V.int)), (q, .ins T.c_Within dx [("carried", .ref l)]), (t, .tup [.int most, .int (most + 1), .int (max 0 (most - 1))])] H') ⟨none, rfl, A3.perm (List.perm_append_comm (l₁ := [_, _]) (l₂ := [_]))⟩ (fun i σ H' _ ⟨v, _, A'⟩ => A'.sto (by walk_at "mem")) ?_ ?_
      · rintro i x σ H2 N hx ⟨v, rfl, A2⟩ hN
        obtain ⟨z, rfl⟩ : ∃ z, x = V.int z := by
          match i, hx with
          | 0, h => exact ⟨_, (Option.some.inj h).symm⟩
          | 1, h => exact ⟨_, (Option.some.inj h).symm⟩
          | 2, h => exact ⟨_, (Option.some.inj h).symm⟩
          | i + 3, h => simp at h
        repeat walk_at "s"
        exact hN _ _ ⟨_, rfl, by assumption⟩
      · rintro σ H2 ⟨v, rfl, A2⟩
        repeat walk_at "s"
        rw [hab, ecs, decide_eq_true (rfl : hs = hs)]
        repeat walk_at "s"
        refine r_setLI (by assumption) (by decide) (by omega) (fun H4 A4 => ?_)
        have e0 : cs.set (0 : Int).toNat (gz cs 0 + 1) = cs.set 0 (EM.fz cs 0 + 1) := by
          rw [show gz cs 0 = EM.fz cs 0 from gz_nat (k := 0)]
          rfl
        have hbent := EM.cyc_bent (by omega) ecs
        rw [e0] at A4
        have hcl2 : (cs.set 0 (EM.fz cs 0 + 1)).length = hs.length := by rw [List.length_set, hcl]
        generalize cs.set 0 (EM.fz cs 0 + 1) = cs2 at A4 hbent hcl2
        repeat walk_at "s"
        rw [decide_eq_false hbent, Bool.false_and]
        exact k _ (At.ex (by assumption))
    · have hst1 : EM.strB hs f m most = true := by
        rw [EM.strB_true h0 hf hmm]
        exact decide_eq_true (by omega)
      have hall : ∀ z, EM.strB hs f m z = decide (2 * z < ((EM.str hs f.toNat m.toNat).natAbs : Int)) := fun z => EM.strB_true h0 hf hmm
      have R1 := R.mono s1
      have ha1 := s1.seq ha
      have A : At H1 [] H1 := At.nil H1
      obtain ⟨dx, hq⟩ := id S
      repeat walk_at "s"
      refine r_mkT (by assumption) (by show 3 ≤ 10000000; decide) (fun t H3 A3 => ?_)
      repeat walk_at "s"
      refine r_forItt [.int most, .int (most + 1), .int (max 0 (most - 1))] (fun i σ H' => ∃ (v : Option V) , σ = [some (.ref a), some (.ref p), some (.int most), some (.ref q), v] ∧ At H1 [(t, .tup [.int most, .int (most + 1), .int (max 0 (most - 1))])] H') ⟨none, rfl, A3⟩ (fun i σ H' _ ⟨v, _, A'⟩ => A'.sto (by walk_at "mem")) ?_ ?_
      · rintro i x σ H2 N hx ⟨v, rfl, A2⟩ hN
        obtain ⟨z, rfl⟩ : ∃ z, x = V.int z := by
          match i, hx with
          | 0, h => exact ⟨_, (Option.some.inj h).symm⟩
          | 1, h => exact ⟨_, (Option.some.inj h).symm⟩
          | 2, h => exact ⟨_, (Option.some.inj h).symm⟩
          | i + 3, h => simp at h
        repeat walk_at "s"
        refine r_ifND_F (hall z) ?_
        repeat walk_at "s"
        exact hN _ _ ⟨_, rfl, by assumption⟩
      · rintro σ H2 ⟨v, rfl, A2⟩
        repeat walk_at "s"
        exact k _ (s1.trans (At.ex (by assumption)))
def sp_law0 (K : PySem.W.Frag) : Sp := fun vs H Q _ => ∃ (a : Addr) (ns : List Int), vs = [.ref a] ∧ SqL K H a (ns.map V.int) ∧ ns.length ≤ 63 ∧ ∀ H', Q (.bl true) H'
def sp_law (_ : Txt K mg) : Sp := sp_law0 K
theorem ok_law (T : Txt K mg) : FnOk P w K mg base CX0 5 T.f_law T.fd_law ["_law_script"] (sp_law T) := by
  refine T.F_law.ok sc_law (fun vs H Q E h => ?_) (fun cdv A outer s H vs Q E hr h => ?_)
  · obtain ⟨_, _, rfl, _⟩ := h
    rfl
  · skip
    obtain ⟨a, ns, rfl, ha, hn, k⟩ := h
    have A := At.nil H
    refine ⟨_, (pss_cons (ps_set (i := 1) sc_law.nd rfl (by first | exact Or.inl rfl | exact Or.inr rfl) (pe_call (ok_law_houses T) (hr.mono (by decide)) (by rfl) T.g_law_houses T.F_law_houses.kp (b_law_houses T) .nil pass0 (pa_cons (pv 0) (pa_cons pe_int pa_nil))))
      (pss_cons (ps_set (i := 2) sc_law.nd rfl (by first | exact Or.inl rfl | exact Or.inr rfl) (pe_make T.mk_Ring (ok_Ring_init T) (hr.mono (by decide)) (by rfl) T.g_Ring (b_Ring_init T) .nil pass0 (pa_cons (pv 1) pa_nil)))
      (pss_cons (ps_set (i := 3) sc_law.nd rfl (by first | exact Or.inl rfl | exact Or.inr rfl) (pe_call (ok_widest T) (hr.mono (by decide)) (by rfl) T.g_widest T.F_widest.kp (b_widest T) .nil pass0 (pa_cons (pv 2) pa_nil)))
      (pss_cons (ps_if (PW.pt (pw_or (pt_val (pe_callB (kIsi (K := K)) (by rfl) T.n_isinstance EB.bt_isinstance (pa_cons (pv 3) (pa_cons (pe_bltn (v := .ty "bool") (by rfl) T.n_bool EB.bt_bool rfl) pa_nil)))) (pw_or (pt_not (pt_val (pe_callB (kIsi (K := K)) (by rfl) T.n_isinstance EB.bt_isinstance (pa_cons (pv 3) (pa_cons (pe_bltn (v := .ty "int") (by rfl) T.n_int EB.bt_int rfl) pa_nil))))) (pw_or1 (pt_cmpR op_lt (pv 3) pe_int (nomark _)))))) (pss_one (ps_ret pe_bl)) pss_nil)
      (pss_cons (ps_set (i := 4) sc_law.nd rfl (by first | exact Or.inl rfl | exact Or.inr rfl) (pe_call (ok_law_draw T) (hr.mono (by decide)) (by rfl) T.g_law_draw T.F_law_draw.kp (b_law_draw T) .nil pass0 (pa_cons (pe_call (ok_law_cell_at T) (hr.mono (by decide)) (by rfl) T.g_law_cell_at T.F_law_cell_at.kp (b_law_cell_at T) .nil pass0 (pa_cons (pv 0) (pa_cons pe_int pa_nil))) (pa_cons pe_int (pa_cons (pe_ix (kIxT (K := K)) (pe_tup (pa_cons pe_int (pa_cons pe_int (pa_cons pe_int pa_nil)))) (pe_call (ok_law_draw T) (hr.mono (by decide)) (by rfl) T.g_law_draw T.F_law_draw.kp (b_law_draw T) .nil pass0 (pa_cons (pe_call (ok_law_cell_at T) (hr.mono (by decide)) (by rfl) T.g_law_cell_at T.F_law_cell_at.kp (b_law_cell_at T) .nil pass0 (pa_cons (pv 0) (pa_cons pe_int pa_nil))) (pa_cons pe_int (pa_cons pe_int pa_nil)))) (fun _ _ => rfl)) pa_nil)))))
      (pss_cons (ps_for PassesOwn.never rfl (kPiT (K := K) (pe_tup (pa_cons pe_int (pa_cons (pv 4) (pa_cons (pv 3) (pa_cons (pe_callB (EB.cr_max2 rfl) (by rfl) T.n_max EB.bt_max (pa_cons pe_int (pa_cons (pe_op op_sub (pv 3) pe_int) pa_nil))) pa_nil)))))) (pg_name (i := 5) sc_law.nd rfl (by first | exact Or.inl rfl | exact Or.inr rfl)) (pss_cons (ps_if (pt_not (pt_val (pe_call (ok_law_right T) (hr.mono (by decide)) (by rfl) T.g_law_right T.F_law_right.kp (b_law_right T) .nil pass0 (pa_cons (pv 1) (pa_cons (pv 2) (pa_cons (pv 5) pa_nil)))))) (pss_one (ps_ret pe_bl)) pss_nil)
      (pss_one (ps_if (pt_cmpR op_ne (pe_callB (kIsi (K := K)) (by rfl) T.n_isinstance EB.bt_isinstance (pa_cons (pe_call (ok_within T) (hr.mono (by decide)) (by rfl) T.g_within T.F_within.kp (b_within T) .nil pass0 (pa_cons (pv 2) (pa_cons (pv 5) pa_nil))) (pa_cons (pe_glob (v := .ref T.c_Within) (by rfl) T.g_Within rfl) pa_nil))) (pe_cmpR op_ge (pv 5) (pv 3) (nomark _)) (nomark _)) (pss_one (ps_ret pe_bl)) pss_nil))))
      (pss_one (ps_ret (pe_cmpR (kEqD (K := K) hr.units) (pe_meth0 (pv 2) T.cl_Ring T.m_Ring_houses (ok_Ring_houses T) (hr.mono (by decide)) (b_Ring_houses T) .nil pass0) (pv 1) (nomark _)))))))))), ?_⟩
    repeat walk_at "s"
    refine ⟨a, ns, 1, rfl, ha, hn, by decide, by decide, fun hs h H1 HH s1 n1 hh => ?_⟩
    have hl := HH.len
    have h0 := HH.sum
    have ha1 := s1.seq ha
    have hh1 : SqL K H1 h (hs.map V.int) := SqL.of hh
    repeat walk_at "s"
    refine use_Ring hh1 (by omega) (by omega) (fun x hx => by have := HH.bd x hx; omega) (fun r H2 s2 n2 R => ?_)
    have ha2 := s2.seq ha1
    have hh2 := s2.seq hh1
    have A2 : At H2 [] H2 := At.nil H2
    clear A hh1 ha1 ha hh
    repeat walk_at "s"
    refine ⟨r, hs, rfl, R, h0, by omega, by omega, fun lo hi H3 X s3 => ?_⟩
    have A3 := A2.same s3
    have hlh := (X.bd lo X.lm).2
    generalize hbd : (hi - lo + 1) / 2 = bd
    repeat walk_at "s"
    refine r_mkT (by assumption) (by decide) (fun t H4 A4 => ?_)
    repeat walk_at "s"
    rename_i d H5 A5 hd0 hd1
    refine r_ixTI (ns := [3, 20, 1000000]) (A5.sto (by walk_at "mem")) (by show -(3 : Int) ≤ _; omega) (by show _ < (3 : Int); omega) ?_
    have hm : 3 ≤ gz [3, 20, 1000000] d := (by decide : ∀ x ∈ ([3, 20, 1000000] : List Int), 3 ≤ x) _ (EM.gz_mem (by show -(3 : Int) ≤ _; omega) (by show _ < (3 : Int); omega))
    generalize gz [3, 20, 1000000] d = m at hm ⊢
    repeat walk_at "s"
    rename_i dr H6 A6 hdr0 hdr1
    refine r_mkT A6 (by show 4 ≤ 10000000; decide) (fun t2 H7 A7 => ?_)
    have A8 := A7.sub (L' := [(t2, .tup [.int 0, .int dr, .int bd, .int (max 0 (bd - 1))])]) (by simp)
    repeat walk_at "s"
    refine r_forItt [.int 0, .int dr, .int bd, .int (max 0 (bd - 1))] (fun i σ H' => ∃ (v : Option V) , σ = [some (.ref a), some (.ref h), some (.ref r), some (.int bd), some (.int dr), v] ∧ At H2 [(t2, .tup [.int 0, .int dr, .int bd, .int (max 0 (bd - 1))])] H') ⟨none, rfl, A8⟩ (fun i σ H' _ ⟨v, _, A'⟩ => A'.sto (by walk_at "mem")) ?_ ?_
    · rintro i x σ H8 N hx ⟨v, rfl, A9⟩ hN
      obtain ⟨z, rfl, hz⟩ : ∃ z, x = V.int z ∧ 0 ≤ z := by
        match i, hx with
        | 0, h => exact ⟨_, (Option.some.inj h).symm, by omega⟩
        | 1, h => exact ⟨_, (Option.some.inj h).symm, by omega⟩
        | 2, h => exact ⟨_, (Option.some.inj h).symm, by omega⟩
        | 3, h => exact ⟨_, (Option.some.inj h).symm, by omega⟩
        | i + 4, h => simp at h
      repeat walk_at "s"
      refine ⟨h, r, hs, z, rfl, by walk_at "sq", by walk_at "ra", hz, h0, by omega, by omega, fun H9 s9 => ?_⟩
      have A10 := A9.same s9
      repeat walk_at "s"
      refine ⟨r, hs, z, rfl, by walk_at "ra", hz, h0, by omega, by omega, fun lo' hi' q l H11 X' hle s11 n1 n2 W => ?_, fun lo' hi' q f m H11 X' hgt hf hmm hst s11 n1 S => ?_⟩
      · obtain ⟨dx, hq, _⟩ := W
        obtain ⟨e1, e2⟩ := X.uniq X'
        have A12 := A10.same s11
        repeat walk_at "s"
        refine r_ifND_F (by rw [decide_eq_true (by omega)]) ?_
        repeat walk_at "s"
        exact hN _ _ ⟨_, rfl, A12⟩
      · obtain ⟨dx, hq⟩ := S
        obtain ⟨e1, e2⟩ := X.uniq X'
        have A12 := A10.same s11
        repeat walk_at "s"
        refine r_ifND_F (by rw [decide_eq_false (by omega)]) ?_
        repeat walk_at "s"
        exact hN _ _ ⟨_, rfl, A12⟩
    · rintro σ H8 ⟨v, rfl, A9⟩
      repeat walk_at "s"
      refine use_houses (by walk_at "ra") (fun q H9 s9 n9 hq => ?_)
      have hq' : SqL K H9 q (hs.map V.int) := SqL.of hq
      have A10 := A9.same s9
      repeat walk_at "s"
      rw [decide_eq_true rfl]
      exact k _

end
theorem all_mk {l : PySem.W.OpenLaw} {w : World} {K : PySem.W.Frag} {h : Heap} {mg : Str → Option Value} {fa : Addr} (X : K.In h) (G : h.Ns mainGlobals mg) (hfa : mg "law" = some (.ref fa))
    {tk_GREATEST : Tok}
    {c_Answer : Addr}
    {c_Even : Addr}
    {c_Uneven : Addr}
    {c_Within : Addr}
    {c_Stretch : Addr}
    {c_RingError : Addr}
    {c_BadRing : Addr}
    {c_BadMost : Addr}
    {c_Lacking : Addr}
    {c_Ring : Addr}
    {f_is_evening : Addr} {od_is_evening an_is_evening : Option Addr} {sl_is_evening : Array (Option Value)} {oc_is_evening kV_is_evening dc_is_evening pm_is_evening cd_is_evening ct_is_evening : Value}
    {f_Within_init : Addr} {od_Within_init an_Within_init : Option Addr} {sl_Within_init : Array (Option Value)} {oc_Within_init kV_Within_init dc_Within_init pm_Within_init cd_Within_init ct_Within_init : Value}
    {f_Within_shows : Addr} {od_Within_shows an_Within_shows : Option Addr} {sl_Within_shows : Array (Option Value)} {oc_Within_shows kV_Within_shows dc_Within_shows pm_Within_shows cd_Within_shows ct_Within_shows : Value}
    {f_Stretch_init : Addr} {od_Stretch_init an_Stretch_init : Option Addr} {sl_Stretch_init : Array (Option Value)} {oc_Stretch_init kV_Stretch_init dc_Stretch_init pm_Stretch_init cd_Stretch_init ct_Stretch_init : Value}
    {f_Stretch_shows : Addr} {od_Stretch_shows an_Stretch_shows : Option Addr} {sl_Stretch_shows : Array (Option Value)} {oc_Stretch_shows kV_Stretch_shows dc_Stretch_shows pm_Stretch_shows cd_Stretch_shows ct_Stretch_shows : Value}
    {f_is_whole : Addr} {od_is_whole an_is_whole : Option Addr} {sl_is_whole : Array (Option Value)} {oc_is_whole kV_is_whole dc_is_whole pm_is_whole cd_is_whole ct_is_whole : Value}
    {f_is_house : Addr} {od_is_house an_is_house : Option Addr} {sl_is_house : Array (Option Value)} {oc_is_house kV_is_house dc_is_house pm_is_house cd_is_house ct_is_house : Value}
    {f_Ring_init : Addr} {od_Ring_init an_Ring_init : Option Addr} {sl_Ring_init : Array (Option Value)} {oc_Ring_init kV_Ring_init dc_Ring_init pm_Ring_init cd_Ring_init ct_Ring_init : Value}
    {f_Ring_houses : Addr} {od_Ring_houses an_Ring_houses : Option Addr} {sl_Ring_houses : Array (Option Value)} {oc_Ring_houses kV_Ring_houses dc_Ring_houses pm_Ring_houses cd_Ring_houses ct_Ring_houses : Value}
    {f_Ring_whole : Addr} {od_Ring_whole an_Ring_whole : Option Addr} {sl_Ring_whole : Array (Option Value)} {oc_Ring_whole kV_Ring_whole dc_Ring_whole pm_Ring_whole cd_Ring_whole ct_Ring_whole : Value}
    {f_check_total : Addr} {od_check_total an_check_total : Option Addr} {sl_check_total : Array (Option Value)} {oc_check_total kV_check_total dc_check_total pm_check_total cd_check_total ct_check_total : Value}
    {f_running : Addr} {od_running an_running : Option Addr} {sl_running : Array (Option Value)} {oc_running kV_running dc_running pm_running cd_running ct_running : Value}
    {f_within : Addr} {od_within an_within : Option Addr} {sl_within : Array (Option Value)} {oc_within kV_within dc_within pm_within cd_within ct_within : Value}
    {f_widest : Addr} {od_widest an_widest : Option Addr} {sl_widest : Array (Option Value)} {oc_widest kV_widest dc_widest pm_widest cd_widest ct_widest : Value}
    {f_law_cell_at : Addr} {od_law_cell_at an_law_cell_at : Option Addr} {sl_law_cell_at : Array (Option Value)} {oc_law_cell_at kV_law_cell_at dc_law_cell_at pm_law_cell_at cd_law_cell_at ct_law_cell_at : Value}
    {f_law_draw : Addr} {od_law_draw an_law_draw : Option Addr} {sl_law_draw : Array (Option Value)} {oc_law_draw kV_law_draw dc_law_draw pm_law_draw cd_law_draw ct_law_draw : Value}
    {f_law_houses : Addr} {od_law_houses an_law_houses : Option Addr} {sl_law_houses : Array (Option Value)} {oc_law_houses kV_law_houses dc_law_houses pm_law_houses cd_law_houses ct_law_houses : Value}
    {f_law_numbers : Addr} {od_law_numbers an_law_numbers : Option Addr} {sl_law_numbers : Array (Option Value)} {oc_law_numbers kV_law_numbers dc_law_numbers pm_law_numbers cd_law_numbers ct_law_numbers : Value}
    {f_law_evened : Addr} {od_law_evened an_law_evened : Option Addr} {sl_law_evened : Array (Option Value)} {oc_law_evened kV_law_evened dc_law_evened pm_law_evened cd_law_evened ct_law_evened : Value}
    {f_law_stretched : Addr} {od_law_stretched an_law_stretched : Option Addr} {sl_law_stretched : Array (Option Value)} {oc_law_stretched kV_law_stretched dc_law_stretched pm_law_stretched cd_law_stretched ct_law_stretched : Value}
    {f_law_due : Addr} {od_law_due an_law_due : Option Addr} {sl_law_due : Array (Option Value)} {oc_law_due kV_law_due dc_law_due pm_law_due cd_law_due ct_law_due : Value}
    {f_law_right : Addr} {od_law_right an_law_right : Option Addr} {sl_law_right : Array (Option Value)} {oc_law_right kV_law_right dc_law_right pm_law_right cd_law_right ct_law_right : Value}
    {f_law : Addr} {od_law an_law : Option Addr} {sl_law : Array (Option Value)} {oc_law kV_law dc_law pm_law cd_law ct_law : Value}
    (z_abs : PySem.W.nsIn K mainGlobals "abs" = some none)
    (z_all : PySem.W.nsIn K mainGlobals "all" = some none)
    (z_any : PySem.W.nsIn K mainGlobals "any" = some none)
    (z_bool : PySem.W.nsIn K mainGlobals "bool" = some none)
    (z_int : PySem.W.nsIn K mainGlobals "int" = some none)
    (z_isinstance : PySem.W.nsIn K mainGlobals "isinstance" = some none)
    (z_len : PySem.W.nsIn K mainGlobals "len" = some none)
    (z_list : PySem.W.nsIn K mainGlobals "list" = some none)
    (z_max : PySem.W.nsIn K mainGlobals "max" = some none)
    (z_min : PySem.W.nsIn K mainGlobals "min" = some none)
    (z_range : PySem.W.nsIn K mainGlobals "range" = some none)
    (z_sum : PySem.W.nsIn K mainGlobals "sum" = some none)
    (y_GREATEST : PySem.W.nsIn K mainGlobals "GREATEST" = some (some (.int 1000000 tk_GREATEST)))
    (a_Answer : PySem.W.nsIn K mainGlobals "Answer" = some (some (.ref c_Answer)))
    (pg_Answer : PySem.W.plainGet K c_Answer Str.empty = true)
    (hd_Answer : PySem.W.hasDictIn K c_Answer = true)
    (po_Answer : PySem.W.plainOver K c_Answer = true)
    (sa_Answer : PySem.W.findIn K (.ref c_Answer) "__setattr__" = some (some (.builtin "object.__setattr__")))
    (ia_Answer : PySem.W.findIn K (.ref c_Answer) "__class__" = some (some (.builtin "object.__class__")))
    (ib_Answer : PySem.W.specialIn K (.builtin "object.__class__") "__get__" = some (some (.builtin "getset_descriptor.__get__")))
    (ic_Answer : PySem.W.takesIn K (.builtin "object.__class__") = some true)
    (id_Answer : PySem.W.mroIn K c_Answer (.type "object") = some true)
    (a_Even : PySem.W.nsIn K mainGlobals "Even" = some (some (.ref c_Even)))
    (pg_Even : PySem.W.plainGet K c_Even Str.empty = true)
    (hd_Even : PySem.W.hasDictIn K c_Even = true)
    (po_Even : PySem.W.plainOver K c_Even = true)
    (sa_Even : PySem.W.findIn K (.ref c_Even) "__setattr__" = some (some (.builtin "object.__setattr__")))
    (no_Even_carried : PySem.W.findIn K (.ref c_Even) "carried" = some none)
    (no_Even_prices : PySem.W.findIn K (.ref c_Even) "prices" = some none)
    (ia_Even : PySem.W.findIn K (.ref c_Even) "__class__" = some (some (.builtin "object.__class__")))
    (ib_Even : PySem.W.specialIn K (.builtin "object.__class__") "__get__" = some (some (.builtin "getset_descriptor.__get__")))
    (ic_Even : PySem.W.takesIn K (.builtin "object.__class__") = some true)
    (id_Even : PySem.W.mroIn K c_Even (.type "object") = some true)
    (a_Uneven : PySem.W.nsIn K mainGlobals "Uneven" = some (some (.ref c_Uneven)))
    (pg_Uneven : PySem.W.plainGet K c_Uneven Str.empty = true)
    (hd_Uneven : PySem.W.hasDictIn K c_Uneven = true)
    (po_Uneven : PySem.W.plainOver K c_Uneven = true)
    (sa_Uneven : PySem.W.findIn K (.ref c_Uneven) "__setattr__" = some (some (.builtin "object.__setattr__")))
    (no_Uneven_total : PySem.W.findIn K (.ref c_Uneven) "total" = some none)
    (ia_Uneven : PySem.W.findIn K (.ref c_Uneven) "__class__" = some (some (.builtin "object.__class__")))
    (ib_Uneven : PySem.W.specialIn K (.builtin "object.__class__") "__get__" = some (some (.builtin "getset_descriptor.__get__")))
    (ic_Uneven : PySem.W.takesIn K (.builtin "object.__class__") = some true)
    (id_Uneven : PySem.W.mroIn K c_Uneven (.type "object") = some true)
    (a_Within : PySem.W.nsIn K mainGlobals "Within" = some (some (.ref c_Within)))
    (pg_Within : PySem.W.plainGet K c_Within Str.empty = true)
    (hd_Within : PySem.W.hasDictIn K c_Within = true)
    (po_Within : PySem.W.plainOver K c_Within = true)
    (sa_Within : PySem.W.findIn K (.ref c_Within) "__setattr__" = some (some (.builtin "object.__setattr__")))
    (no_Within_carried : PySem.W.findIn K (.ref c_Within) "carried" = some none)
    (ia_Within : PySem.W.findIn K (.ref c_Within) "__class__" = some (some (.builtin "object.__class__")))
    (ib_Within : PySem.W.specialIn K (.builtin "object.__class__") "__get__" = some (some (.builtin "getset_descriptor.__get__")))
    (ic_Within : PySem.W.takesIn K (.builtin "object.__class__") = some true)
    (id_Within : PySem.W.mroIn K c_Within (.type "object") = some true)
    (a_Stretch : PySem.W.nsIn K mainGlobals "Stretch" = some (some (.ref c_Stretch)))
    (pg_Stretch : PySem.W.plainGet K c_Stretch Str.empty = true)
    (hd_Stretch : PySem.W.hasDictIn K c_Stretch = true)
    (po_Stretch : PySem.W.plainOver K c_Stretch = true)
    (sa_Stretch : PySem.W.findIn K (.ref c_Stretch) "__setattr__" = some (some (.builtin "object.__setattr__")))
    (no_Stretch_first : PySem.W.findIn K (.ref c_Stretch) "first" = some none)
    (no_Stretch_many : PySem.W.findIn K (.ref c_Stretch) "many" = some none)
    (ia_Stretch : PySem.W.findIn K (.ref c_Stretch) "__class__" = some (some (.builtin "object.__class__")))
    (ib_Stretch : PySem.W.specialIn K (.builtin "object.__class__") "__get__" = some (some (.builtin "getset_descriptor.__get__")))
    (ic_Stretch : PySem.W.takesIn K (.builtin "object.__class__") = some true)
    (id_Stretch : PySem.W.mroIn K c_Stretch (.type "object") = some true)
    (a_RingError : PySem.W.nsIn K mainGlobals "RingError" = some (some (.ref c_RingError)))
    (a_BadRing : PySem.W.nsIn K mainGlobals "BadRing" = some (some (.ref c_BadRing)))
    (a_BadMost : PySem.W.nsIn K mainGlobals "BadMost" = some (some (.ref c_BadMost)))
    (a_Lacking : PySem.W.nsIn K mainGlobals "Lacking" = some (some (.ref c_Lacking)))
    (a_Ring : PySem.W.nsIn K mainGlobals "Ring" = some (some (.ref c_Ring)))
    (pg_Ring : PySem.W.plainGet K c_Ring Str.empty = true)
    (hd_Ring : PySem.W.hasDictIn K c_Ring = true)
    (po_Ring : PySem.W.plainOver K c_Ring = true)
    (sa_Ring : PySem.W.findIn K (.ref c_Ring) "__setattr__" = some (some (.builtin "object.__setattr__")))
    (no_Ring_over : PySem.W.findIn K (.ref c_Ring) "over" = some none)
    (ia_Ring : PySem.W.findIn K (.ref c_Ring) "__class__" = some (some (.builtin "object.__class__")))
    (ib_Ring : PySem.W.specialIn K (.builtin "object.__class__") "__get__" = some (some (.builtin "getset_descriptor.__get__")))
    (ic_Ring : PySem.W.takesIn K (.builtin "object.__class__") = some true)
    (id_Ring : PySem.W.mroIn K c_Ring (.type "object") = some true)
    (kit_Within_Answer : PySem.W.kitOne K (.ref c_Within) (.ref c_Answer) = some true)
    (kit_Within_Even : PySem.W.kitOne K (.ref c_Within) (.ref c_Even) = some false)
    (kit_Within_Stretch : PySem.W.kitOne K (.ref c_Within) (.ref c_Stretch) = some false)
    (kit_Within_Uneven : PySem.W.kitOne K (.ref c_Within) (.ref c_Uneven) = some false)
    (kit_Within_Within : PySem.W.kitOne K (.ref c_Within) (.ref c_Within) = some true)
    (kit_Stretch_Answer : PySem.W.kitOne K (.ref c_Stretch) (.ref c_Answer) = some true)
    (kit_Stretch_Even : PySem.W.kitOne K (.ref c_Stretch) (.ref c_Even) = some false)
    (kit_Stretch_Stretch : PySem.W.kitOne K (.ref c_Stretch) (.ref c_Stretch) = some true)
    (kit_Stretch_Uneven : PySem.W.kitOne K (.ref c_Stretch) (.ref c_Uneven) = some false)
    (kit_Stretch_Within : PySem.W.kitOne K (.ref c_Stretch) (.ref c_Within) = some false)
    (a_is_evening : PySem.W.nsIn K mainGlobals "is_evening" = some (some (.ref f_is_evening)))
    (l_is_evening : K.lookup f_is_evening = some ⟨oc_is_evening, od_is_evening, .func (PySem.W.fnOf "is_evening" "is_evening" (defArgs s_is_evening) (defBody s_is_evening) (defScope s_is_evening) .none kV_is_evening dc_is_evening pm_is_evening an_is_evening cd_is_evening ct_is_evening), sl_is_evening⟩)
    (c_is_evening_ : PySem.W.codeIn K cd_is_evening "is_evening" = true)
    (k_is_evening_ : PySem.W.keepIn K (.ref f_is_evening) = true)
    (a_Within_init : PySem.W.findIn K (.ref c_Within) "__init__" = some (some (.ref f_Within_init)))
    (i_Within_init : PySem.W.isFn K (.ref f_Within_init) = true)
    (l_Within_init : K.lookup f_Within_init = some ⟨oc_Within_init, od_Within_init, .func (PySem.W.fnOf "__init__" "Within.__init__" (defArgs s_Within_init) (defBody s_Within_init) (defScope s_Within_init) .none kV_Within_init dc_Within_init pm_Within_init an_Within_init cd_Within_init ct_Within_init), sl_Within_init⟩)
    (c_Within_init_ : PySem.W.codeIn K cd_Within_init "Within.__init__" = true)
    (k_Within_init_ : PySem.W.keepIn K (.ref f_Within_init) = true)
    (mk_Within : PySem.W.makesIn K c_Within = true)
    (kp_Within : PySem.W.keepIn K (.ref c_Within) = true)
    (a_Within_shows : PySem.W.findIn K (.ref c_Within) "shows" = some (some (.ref f_Within_shows)))
    (i_Within_shows : PySem.W.isFn K (.ref f_Within_shows) = true)
    (l_Within_shows : K.lookup f_Within_shows = some ⟨oc_Within_shows, od_Within_shows, .func (PySem.W.fnOf "shows" "Within.shows" (defArgs s_Within_shows) (defBody s_Within_shows) (defScope s_Within_shows) .none kV_Within_shows dc_Within_shows pm_Within_shows an_Within_shows cd_Within_shows ct_Within_shows), sl_Within_shows⟩)
    (c_Within_shows_ : PySem.W.codeIn K cd_Within_shows "Within.shows" = true)
    (k_Within_shows_ : PySem.W.keepIn K (.ref f_Within_shows) = true)
    (a_Stretch_init : PySem.W.findIn K (.ref c_Stretch) "__init__" = some (some (.ref f_Stretch_init)))
    (i_Stretch_init : PySem.W.isFn K (.ref f_Stretch_init) = true)
    (l_Stretch_init : K.lookup f_Stretch_init = some ⟨oc_Stretch_init, od_Stretch_init, .func (PySem.W.fnOf "__init__" "Stretch.__init__" (defArgs s_Stretch_init) (defBody s_Stretch_init) (defScope s_Stretch_init) .none kV_Stretch_init dc_Stretch_init pm_Stretch_init an_Stretch_init cd_Stretch_init ct_Stretch_init), sl_Stretch_init⟩)
    (c_Stretch_init_ : PySem.W.codeIn K cd_Stretch_init "Stretch.__init__" = true)
    (k_Stretch_init_ : PySem.W.keepIn K (.ref f_Stretch_init) = true)
    (mk_Stretch : PySem.W.makesIn K c_Stretch = true)
    (kp_Stretch : PySem.W.keepIn K (.ref c_Stretch) = true)
    (a_Stretch_shows : PySem.W.findIn K (.ref c_Stretch) "shows" = some (some (.ref f_Stretch_shows)))
    (i_Stretch_shows : PySem.W.isFn K (.ref f_Stretch_shows) = true)
    (l_Stretch_shows : K.lookup f_Stretch_shows = some ⟨oc_Stretch_shows, od_Stretch_shows, .func (PySem.W.fnOf "shows" "Stretch.shows" (defArgs s_Stretch_shows) (defBody s_Stretch_shows) (defScope s_Stretch_shows) .none kV_Stretch_shows dc_Stretch_shows pm_Stretch_shows an_Stretch_shows cd_Stretch_shows ct_Stretch_shows), sl_Stretch_shows⟩)
    (c_Stretch_shows_ : PySem.W.codeIn K cd_Stretch_shows "Stretch.shows" = true)
    (k_Stretch_shows_ : PySem.W.keepIn K (.ref f_Stretch_shows) = true)
    (a_is_whole : PySem.W.nsIn K mainGlobals "is_whole" = some (some (.ref f_is_whole)))
    (l_is_whole : K.lookup f_is_whole = some ⟨oc_is_whole, od_is_whole, .func (PySem.W.fnOf "is_whole" "is_whole" (defArgs s_is_whole) (defBody s_is_whole) (defScope s_is_whole) .none kV_is_whole dc_is_whole pm_is_whole an_is_whole cd_is_whole ct_is_whole), sl_is_whole⟩)
    (c_is_whole_ : PySem.W.codeIn K cd_is_whole "is_whole" = true)
    (k_is_whole_ : PySem.W.keepIn K (.ref f_is_whole) = true)
    (a_is_house : PySem.W.nsIn K mainGlobals "is_house" = some (some (.ref f_is_house)))
    (l_is_house : K.lookup f_is_house = some ⟨oc_is_house, od_is_house, .func (PySem.W.fnOf "is_house" "is_house" (defArgs s_is_house) (defBody s_is_house) (defScope s_is_house) .none kV_is_house dc_is_house pm_is_house an_is_house cd_is_house ct_is_house), sl_is_house⟩)
    (c_is_house_ : PySem.W.codeIn K cd_is_house "is_house" = true)
    (k_is_house_ : PySem.W.keepIn K (.ref f_is_house) = true)
    (a_Ring_init : PySem.W.findIn K (.ref c_Ring) "__init__" = some (some (.ref f_Ring_init)))
    (i_Ring_init : PySem.W.isFn K (.ref f_Ring_init) = true)
    (l_Ring_init : K.lookup f_Ring_init = some ⟨oc_Ring_init, od_Ring_init, .func (PySem.W.fnOf "__init__" "Ring.__init__" (defArgs s_Ring_init) (defBody s_Ring_init) (defScope s_Ring_init) .none kV_Ring_init dc_Ring_init pm_Ring_init an_Ring_init cd_Ring_init ct_Ring_init), sl_Ring_init⟩)
    (c_Ring_init_ : PySem.W.codeIn K cd_Ring_init "Ring.__init__" = true)
    (k_Ring_init_ : PySem.W.keepIn K (.ref f_Ring_init) = true)
    (mk_Ring : PySem.W.makesIn K c_Ring = true)
    (kp_Ring : PySem.W.keepIn K (.ref c_Ring) = true)
    (a_Ring_houses : PySem.W.findIn K (.ref c_Ring) "houses" = some (some (.ref f_Ring_houses)))
    (i_Ring_houses : PySem.W.isFn K (.ref f_Ring_houses) = true)
    (l_Ring_houses : K.lookup f_Ring_houses = some ⟨oc_Ring_houses, od_Ring_houses, .func (PySem.W.fnOf "houses" "Ring.houses" (defArgs s_Ring_houses) (defBody s_Ring_houses) (defScope s_Ring_houses) .none kV_Ring_houses dc_Ring_houses pm_Ring_houses an_Ring_houses cd_Ring_houses ct_Ring_houses), sl_Ring_houses⟩)
    (c_Ring_houses_ : PySem.W.codeIn K cd_Ring_houses "Ring.houses" = true)
    (k_Ring_houses_ : PySem.W.keepIn K (.ref f_Ring_houses) = true)
    (a_Ring_whole : PySem.W.findIn K (.ref c_Ring) "whole" = some (some (.ref f_Ring_whole)))
    (i_Ring_whole : PySem.W.isFn K (.ref f_Ring_whole) = true)
    (l_Ring_whole : K.lookup f_Ring_whole = some ⟨oc_Ring_whole, od_Ring_whole, .func (PySem.W.fnOf "whole" "Ring.whole" (defArgs s_Ring_whole) (defBody s_Ring_whole) (defScope s_Ring_whole) .none kV_Ring_whole dc_Ring_whole pm_Ring_whole an_Ring_whole cd_Ring_whole ct_Ring_whole), sl_Ring_whole⟩)
    (c_Ring_whole_ : PySem.W.codeIn K cd_Ring_whole "Ring.whole" = true)
    (k_Ring_whole_ : PySem.W.keepIn K (.ref f_Ring_whole) = true)
    (a_check_total : PySem.W.nsIn K mainGlobals "check_total" = some (some (.ref f_check_total)))
    (l_check_total : K.lookup f_check_total = some ⟨oc_check_total, od_check_total, .func (PySem.W.fnOf "check_total" "check_total" (defArgs s_check_total) (defBody s_check_total) (defScope s_check_total) .none kV_check_total dc_check_total pm_check_total an_check_total cd_check_total ct_check_total), sl_check_total⟩)
    (c_check_total_ : PySem.W.codeIn K cd_check_total "check_total" = true)
    (k_check_total_ : PySem.W.keepIn K (.ref f_check_total) = true)
    (a_running : PySem.W.nsIn K mainGlobals "running" = some (some (.ref f_running)))
    (l_running : K.lookup f_running = some ⟨oc_running, od_running, .func (PySem.W.fnOf "running" "running" (defArgs s_running) (defBody s_running) (defScope s_running) .none kV_running dc_running pm_running an_running cd_running ct_running), sl_running⟩)
    (c_running_ : PySem.W.codeIn K cd_running "running" = true)
    (k_running_ : PySem.W.keepIn K (.ref f_running) = true)
    (a_within : PySem.W.nsIn K mainGlobals "within" = some (some (.ref f_within)))
    (l_within : K.lookup f_within = some ⟨oc_within, od_within, .func (PySem.W.fnOf "within" "within" (defArgs s_within) (defBody s_within) (defScope s_within) .none kV_within dc_within pm_within an_within cd_within ct_within), sl_within⟩)
    (c_within_ : PySem.W.codeIn K cd_within "within" = true)
    (k_within_ : PySem.W.keepIn K (.ref f_within) = true)
    (a_widest : PySem.W.nsIn K mainGlobals "widest" = some (some (.ref f_widest)))
    (l_widest : K.lookup f_widest = some ⟨oc_widest, od_widest, .func (PySem.W.fnOf "widest" "widest" (defArgs s_widest) (defBody s_widest) (defScope s_widest) .none kV_widest dc_widest pm_widest an_widest cd_widest ct_widest), sl_widest⟩)
    (c_widest_ : PySem.W.codeIn K cd_widest "widest" = true)
    (k_widest_ : PySem.W.keepIn K (.ref f_widest) = true)
    (a_law_cell_at : PySem.W.nsIn K mainGlobals "_law_cell_at" = some (some (.ref f_law_cell_at)))
    (l_law_cell_at : K.lookup f_law_cell_at = some ⟨oc_law_cell_at, od_law_cell_at, .func (PySem.W.fnOf "_law_cell_at" "_law_cell_at" (defArgs s_law_cell_at) (defBody s_law_cell_at) (defScope s_law_cell_at) .none kV_law_cell_at dc_law_cell_at pm_law_cell_at an_law_cell_at cd_law_cell_at ct_law_cell_at), sl_law_cell_at⟩)
    (c_law_cell_at_ : PySem.W.codeIn K cd_law_cell_at "_law_cell_at" = true)
    (k_law_cell_at_ : PySem.W.keepIn K (.ref f_law_cell_at) = true)
    (a_law_draw : PySem.W.nsIn K mainGlobals "_law_draw" = some (some (.ref f_law_draw)))
    (l_law_draw : K.lookup f_law_draw = some ⟨oc_law_draw, od_law_draw, .func (PySem.W.fnOf "_law_draw" "_law_draw" (defArgs s_law_draw) (defBody s_law_draw) (defScope s_law_draw) .none kV_law_draw dc_law_draw pm_law_draw an_law_draw cd_law_draw ct_law_draw), sl_law_draw⟩)
    (c_law_draw_ : PySem.W.codeIn K cd_law_draw "_law_draw" = true)
    (k_law_draw_ : PySem.W.keepIn K (.ref f_law_draw) = true)
    (a_law_houses : PySem.W.nsIn K mainGlobals "_law_houses" = some (some (.ref f_law_houses)))
    (l_law_houses : K.lookup f_law_houses = some ⟨oc_law_houses, od_law_houses, .func (PySem.W.fnOf "_law_houses" "_law_houses" (defArgs s_law_houses) (defBody s_law_houses) (defScope s_law_houses) .none kV_law_houses dc_law_houses pm_law_houses an_law_houses cd_law_houses ct_law_houses), sl_law_houses⟩)
    (c_law_houses_ : PySem.W.codeIn K cd_law_houses "_law_houses" = true)
    (k_law_houses_ : PySem.W.keepIn K (.ref f_law_houses) = true)
    (a_law_numbers : PySem.W.nsIn K mainGlobals "_law_numbers" = some (some (.ref f_law_numbers)))
    (l_law_numbers : K.lookup f_law_numbers = some ⟨oc_law_numbers, od_law_numbers, .func (PySem.W.fnOf "_law_numbers" "_law_numbers" (defArgs s_law_numbers) (defBody s_law_numbers) (defScope s_law_numbers) .none kV_law_numbers dc_law_numbers pm_law_numbers an_law_numbers cd_law_numbers ct_law_numbers), sl_law_numbers⟩)
    (c_law_numbers_ : PySem.W.codeIn K cd_law_numbers "_law_numbers" = true)
    (k_law_numbers_ : PySem.W.keepIn K (.ref f_law_numbers) = true)
    (a_law_evened : PySem.W.nsIn K mainGlobals "_law_evened" = some (some (.ref f_law_evened)))
    (l_law_evened : K.lookup f_law_evened = some ⟨oc_law_evened, od_law_evened, .func (PySem.W.fnOf "_law_evened" "_law_evened" (defArgs s_law_evened) (defBody s_law_evened) (defScope s_law_evened) .none kV_law_evened dc_law_evened pm_law_evened an_law_evened cd_law_evened ct_law_evened), sl_law_evened⟩)
    (c_law_evened_ : PySem.W.codeIn K cd_law_evened "_law_evened" = true)
    (k_law_evened_ : PySem.W.keepIn K (.ref f_law_evened) = true)
    (a_law_stretched : PySem.W.nsIn K mainGlobals "_law_stretched" = some (some (.ref f_law_stretched)))
    (l_law_stretched : K.lookup f_law_stretched = some ⟨oc_law_stretched, od_law_stretched, .func (PySem.W.fnOf "_law_stretched" "_law_stretched" (defArgs s_law_stretched) (defBody s_law_stretched) (defScope s_law_stretched) .none kV_law_stretched dc_law_stretched pm_law_stretched an_law_stretched cd_law_stretched ct_law_stretched), sl_law_stretched⟩)
    (c_law_stretched_ : PySem.W.codeIn K cd_law_stretched "_law_stretched" = true)
    (k_law_stretched_ : PySem.W.keepIn K (.ref f_law_stretched) = true)
    (a_law_due : PySem.W.nsIn K mainGlobals "_law_due" = some (some (.ref f_law_due)))
    (l_law_due : K.lookup f_law_due = some ⟨oc_law_due, od_law_due, .func (PySem.W.fnOf "_law_due" "_law_due" (defArgs s_law_due) (defBody s_law_due) (defScope s_law_due) .none kV_law_due dc_law_due pm_law_due an_law_due cd_law_due ct_law_due), sl_law_due⟩)
    (c_law_due_ : PySem.W.codeIn K cd_law_due "_law_due" = true)
    (k_law_due_ : PySem.W.keepIn K (.ref f_law_due) = true)
    (a_law_right : PySem.W.nsIn K mainGlobals "_law_right" = some (some (.ref f_law_right)))
    (l_law_right : K.lookup f_law_right = some ⟨oc_law_right, od_law_right, .func (PySem.W.fnOf "_law_right" "_law_right" (defArgs s_law_right) (defBody s_law_right) (defScope s_law_right) .none kV_law_right dc_law_right pm_law_right an_law_right cd_law_right ct_law_right), sl_law_right⟩)
    (c_law_right_ : PySem.W.codeIn K cd_law_right "_law_right" = true)
    (k_law_right_ : PySem.W.keepIn K (.ref f_law_right) = true)
    (a_law : PySem.W.nsIn K mainGlobals "law" = some (some (.ref f_law)))
    (l_law : K.lookup f_law = some ⟨oc_law, od_law, .func (PySem.W.fnOf "law" "law" (defArgs s_law) (defBody s_law) (defScope s_law) .none kV_law dc_law pm_law an_law cd_law ct_law), sl_law⟩)
    (c_law_ : PySem.W.codeIn K cd_law "law" = true)
    (k_law_ : PySem.W.keepIn K (.ref f_law) = true)
    : ∃ fd : FuncData, (∀ (s : Shared) (v : Value), BindsTo s fd ⟨[v], []⟩ [("_law_script", v)]) ∧ ∀ base : Heap, K.In base → base.Ns mainGlobals mg → FnOk l.prog w K mg base CX0 5 fa fd ["_law_script"] (sp_law0 K) := by
  have e := hfa.symm.trans (PySem.W.mg_of X G a_law)
  cases e
  exact ⟨PySem.W.fnOf "law" "law" (defArgs s_law) (defBody s_law) (defScope s_law) .none kV_law dc_law pm_law an_law cd_law ct_law, fun s v => .of_eq rfl, fun base _ _ => ok_law (K := K) (mg := mg) { n_abs := PySem.W.mg_none_of X G z_abs, n_all := PySem.W.mg_none_of X G z_all, n_any := PySem.W.mg_none_of X G z_any, n_bool := PySem.W.mg_none_of X G z_bool, n_int := PySem.W.mg_none_of X G z_int, n_isinstance := PySem.W.mg_none_of X G z_isinstance, n_len := PySem.W.mg_none_of X G z_len, n_list := PySem.W.mg_none_of X G z_list, n_max := PySem.W.mg_none_of X G z_max, n_min := PySem.W.mg_none_of X G z_min, n_range := PySem.W.mg_none_of X G z_range, n_sum := PySem.W.mg_none_of X G z_sum, k_GREATEST := ⟨tk_GREATEST, PySem.W.mg_of X G y_GREATEST⟩, c_Answer := c_Answer, g_Answer := PySem.W.mg_of X G a_Answer, cl_Answer := ⟨pg_Answer, hd_Answer, po_Answer, sa_Answer⟩, in_Answer := ⟨ia_Answer, ib_Answer, ic_Answer, id_Answer⟩, c_Even := c_Even, g_Even := PySem.W.mg_of X G a_Even, cl_Even := ⟨pg_Even, hd_Even, po_Even, sa_Even⟩, no_Even_carried := no_Even_carried, no_Even_prices := no_Even_prices, in_Even := ⟨ia_Even, ib_Even, ic_Even, id_Even⟩, c_Uneven := c_Uneven, g_Uneven := PySem.W.mg_of X G a_Uneven, cl_Uneven := ⟨pg_Uneven, hd_Uneven, po_Uneven, sa_Uneven⟩, no_Uneven_total := no_Uneven_total, in_Uneven := ⟨ia_Uneven, ib_Uneven, ic_Uneven, id_Uneven⟩, c_Within := c_Within, g_Within := PySem.W.mg_of X G a_Within, cl_Within := ⟨pg_Within, hd_Within, po_Within, sa_Within⟩, no_Within_carried := no_Within_carried, in_Within := ⟨ia_Within, ib_Within, ic_Within, id_Within⟩, c_Stretch := c_Stretch, g_Stretch := PySem.W.mg_of X G a_Stretch, cl_Stretch := ⟨pg_Stretch, hd_Stretch, po_Stretch, sa_Stretch⟩, no_Stretch_first := no_Stretch_first, no_Stretch_many := no_Stretch_many, in_Stretch := ⟨ia_Stretch, ib_Stretch, ic_Stretch, id_Stretch⟩, c_RingError := c_RingError, g_RingError := PySem.W.mg_of X G a_RingError, c_BadRing := c_BadRing, g_BadRing := PySem.W.mg_of X G a_BadRing, c_BadMost := c_BadMost, g_BadMost := PySem.W.mg_of X G a_BadMost, c_Lacking := c_Lacking, g_Lacking := PySem.W.mg_of X G a_Lacking, c_Ring := c_Ring, g_Ring := PySem.W.mg_of X G a_Ring, cl_Ring := ⟨pg_Ring, hd_Ring, po_Ring, sa_Ring⟩, no_Ring_over := no_Ring_over, in_Ring := ⟨ia_Ring, ib_Ring, ic_Ring, id_Ring⟩, kit_Within_Answer := kit_Within_Answer, kit_Within_Even := kit_Within_Even, kit_Within_Stretch := kit_Within_Stretch, kit_Within_Uneven := kit_Within_Uneven, kit_Within_Within := kit_Within_Within, kit_Stretch_Answer := kit_Stretch_Answer, kit_Stretch_Even := kit_Stretch_Even, kit_Stretch_Stretch := kit_Stretch_Stretch, kit_Stretch_Uneven := kit_Stretch_Uneven, kit_Stretch_Within := kit_Stretch_Within, f_is_evening := f_is_evening, fd_is_evening := _, F_is_evening := fun_mk (st := s_is_evening) l_is_evening c_is_evening_ k_is_evening_, g_is_evening := PySem.W.mg_of X G a_is_evening, f_Within_init := f_Within_init, fd_Within_init := _, F_Within_init := fun_mk (st := s_Within_init) l_Within_init c_Within_init_ k_Within_init_, mk_Within := ⟨mk_Within, a_Within_init, i_Within_init, kp_Within⟩, f_Within_shows := f_Within_shows, fd_Within_shows := _, F_Within_shows := fun_mk (st := s_Within_shows) l_Within_shows c_Within_shows_ k_Within_shows_, m_Within_shows := ⟨a_Within_shows, i_Within_shows, k_Within_shows_⟩, f_Stretch_init := f_Stretch_init, fd_Stretch_init := _, F_Stretch_init := fun_mk (st := s_Stretch_init) l_Stretch_init c_Stretch_init_ k_Stretch_init_, mk_Stretch := ⟨mk_Stretch, a_Stretch_init, i_Stretch_init, kp_Stretch⟩, f_Stretch_shows := f_Stretch_shows, fd_Stretch_shows := _, F_Stretch_shows := fun_mk (st := s_Stretch_shows) l_Stretch_shows c_Stretch_shows_ k_Stretch_shows_, m_Stretch_shows := ⟨a_Stretch_shows, i_Stretch_shows, k_Stretch_shows_⟩, f_is_whole := f_is_whole, fd_is_whole := _, F_is_whole := fun_mk (st := s_is_whole) l_is_whole c_is_whole_ k_is_whole_, g_is_whole := PySem.W.mg_of X G a_is_whole, f_is_house := f_is_house, fd_is_house := _, F_is_house := fun_mk (st := s_is_house) l_is_house c_is_house_ k_is_house_, g_is_house := PySem.W.mg_of X G a_is_house, f_Ring_init := f_Ring_init, fd_Ring_init := _, F_Ring_init := fun_mk (st := s_Ring_init) l_Ring_init c_Ring_init_ k_Ring_init_, mk_Ring := ⟨mk_Ring, a_Ring_init, i_Ring_init, kp_Ring⟩, f_Ring_houses := f_Ring_houses, fd_Ring_houses := _, F_Ring_houses := fun_mk (st := s_Ring_houses) l_Ring_houses c_Ring_houses_ k_Ring_houses_, m_Ring_houses := ⟨a_Ring_houses, i_Ring_houses, k_Ring_houses_⟩, f_Ring_whole := f_Ring_whole, fd_Ring_whole := _, F_Ring_whole := fun_mk (st := s_Ring_whole) l_Ring_whole c_Ring_whole_ k_Ring_whole_, m_Ring_whole := ⟨a_Ring_whole, i_Ring_whole, k_Ring_whole_⟩, f_check_total := f_check_total, fd_check_total := _, F_check_total := fun_mk (st := s_check_total) l_check_total c_check_total_ k_check_total_, g_check_total := PySem.W.mg_of X G a_check_total, f_running := f_running, fd_running := _, F_running := fun_mk (st := s_running) l_running c_running_ k_running_, g_running := PySem.W.mg_of X G a_running, f_within := f_within, fd_within := _, F_within := fun_mk (st := s_within) l_within c_within_ k_within_, g_within := PySem.W.mg_of X G a_within, f_widest := f_widest, fd_widest := _, F_widest := fun_mk (st := s_widest) l_widest c_widest_ k_widest_, g_widest := PySem.W.mg_of X G a_widest, f_law_cell_at := f_law_cell_at, fd_law_cell_at := _, F_law_cell_at := fun_mk (st := s_law_cell_at) l_law_cell_at c_law_cell_at_ k_law_cell_at_, g_law_cell_at := PySem.W.mg_of X G a_law_cell_at, f_law_draw := f_law_draw, fd_law_draw := _, F_law_draw := fun_mk (st := s_law_draw) l_law_draw c_law_draw_ k_law_draw_, g_law_draw := PySem.W.mg_of X G a_law_draw, f_law_houses := f_law_houses, fd_law_houses := _, F_law_houses := fun_mk (st := s_law_houses) l_law_houses c_law_houses_ k_law_houses_, g_law_houses := PySem.W.mg_of X G a_law_houses, f_law_numbers := f_law_numbers, fd_law_numbers := _, F_law_numbers := fun_mk (st := s_law_numbers) l_law_numbers c_law_numbers_ k_law_numbers_, g_law_numbers := PySem.W.mg_of X G a_law_numbers, f_law_evened := f_law_evened, fd_law_evened := _, F_law_evened := fun_mk (st := s_law_evened) l_law_evened c_law_evened_ k_law_evened_, g_law_evened := PySem.W.mg_of X G a_law_evened, f_law_stretched := f_law_stretched, fd_law_stretched := _, F_law_stretched := fun_mk (st := s_law_stretched) l_law_stretched c_law_stretched_ k_law_stretched_, g_law_stretched := PySem.W.mg_of X G a_law_stretched, f_law_due := f_law_due, fd_law_due := _, F_law_due := fun_mk (st := s_law_due) l_law_due c_law_due_ k_law_due_, g_law_due := PySem.W.mg_of X G a_law_due, f_law_right := f_law_right, fd_law_right := _, F_law_right := fun_mk (st := s_law_right) l_law_right c_law_right_ k_law_right_, g_law_right := PySem.W.mg_of X G a_law_right, f_law := fa, fd_law := _, F_law := fun_mk (st := s_law) l_law c_law_ k_law_, g_law := PySem.W.mg_of X G a_law }⟩
end K3
open PySem PySem.W PyProof.Rows
set_option maxRecDepth 100000 in
set_option maxHeartbeats 0 in
theorem PySem.Challenge.cw_evenring_k03_whole_within_holds : PySem.Challenge.rw_evenring_k03_whole_within.Holds := by
  w_on; o_law; k_head; (case hw => w_witness2)
  k_fill
  refine L2.walk_of (l := PySem.Challenge.rw_evenring_k03_whole_within) (n := 63) (k := 5) (x := "_law_script") (CX := fun _ => L2.CX0) (sp := fun w => K3.sp_law0 _) rfl (by decide) rfl ⟨rfl, by decide, by decide⟩ (fun w h Y => PySem.W.kIn_of Y) ?F (fun _ _ a ns hl _ hS => ⟨a, ns, rfl, hS, hl, fun _ => rfl⟩) (fun _ _ _ _ _ h => h)
  case F =>
    intro w mg fa h KX G hmg
    refine' K3.all_mk KX G hmg ?z_abs ?z_all ?z_any ?z_bool ?z_int ?z_isinstance ?z_len ?z_list ?z_max ?z_min ?z_range ?z_sum ?y_GREATEST ?a_Answer ?pg_Answer ?hd_Answer ?po_Answer ?sa_Answer ?ia_Answer ?ib_Answer ?ic_Answer ?id_Answer ?a_Even ?pg_Even ?hd_Even ?po_Even ?sa_Even ?no_Even_carried ?no_Even_prices ?ia_Even ?ib_Even ?ic_Even ?id_Even ?a_Uneven ?pg_Uneven ?hd_Uneven ?po_Uneven ?sa_Uneven ?no_Uneven_total ?ia_Uneven ?ib_Uneven ?ic_Uneven ?id_Uneven ?a_Within ?pg_Within ?hd_Within ?po_Within ?sa_Within ?no_Within_carried ?ia_Within ?ib_Within ?ic_Within ?id_Within ?a_Stretch ?pg_Stretch ?hd_Stretch ?po_Stretch ?sa_Stretch ?no_Stretch_first ?no_Stretch_many ?ia_Stretch ?ib_Stretch ?ic_Stretch ?id_Stretch ?a_RingError ?a_BadRing ?a_BadMost ?a_Lacking ?a_Ring ?pg_Ring ?hd_Ring ?po_Ring ?sa_Ring ?no_Ring_over ?ia_Ring ?ib_Ring ?ic_Ring ?id_Ring ?kit_Within_Answer ?kit_Within_Even ?kit_Within_Stretch ?kit_Within_Uneven ?kit_Within_Within ?kit_Stretch_Answer ?kit_Stretch_Even ?kit_Stretch_Stretch ?kit_Stretch_Uneven ?kit_Stretch_Within ?a_is_evening ?l_is_evening ?c_is_evening_ ?k_is_evening_ ?a_Within_init ?i_Within_init ?l_Within_init ?c_Within_init_ ?k_Within_init_ ?mk_Within ?kp_Within ?a_Within_shows ?i_Within_shows ?l_Within_shows ?c_Within_shows_ ?k_Within_shows_ ?a_Stretch_init ?i_Stretch_init ?l_Stretch_init ?c_Stretch_init_ ?k_Stretch_init_ ?mk_Stretch ?kp_Stretch ?a_Stretch_shows ?i_Stretch_shows ?l_Stretch_shows ?c_Stretch_shows_ ?k_Stretch_shows_ ?a_is_whole ?l_is_whole ?c_is_whole_ ?k_is_whole_ ?a_is_house ?l_is_house ?c_is_house_ ?k_is_house_ ?a_Ring_init ?i_Ring_init ?l_Ring_init ?c_Ring_init_ ?k_Ring_init_ ?mk_Ring ?kp_Ring ?a_Ring_houses ?i_Ring_houses ?l_Ring_houses ?c_Ring_houses_ ?k_Ring_houses_ ?a_Ring_whole ?i_Ring_whole ?l_Ring_whole ?c_Ring_whole_ ?k_Ring_whole_ ?a_check_total ?l_check_total ?c_check_total_ ?k_check_total_ ?a_running ?l_running ?c_running_ ?k_running_ ?a_within ?l_within ?c_within_ ?k_within_ ?a_widest ?l_widest ?c_widest_ ?k_widest_ ?a_law_cell_at ?l_law_cell_at ?c_law_cell_at_ ?k_law_cell_at_ ?a_law_draw ?l_law_draw ?c_law_draw_ ?k_law_draw_ ?a_law_houses ?l_law_houses ?c_law_houses_ ?k_law_houses_ ?a_law_numbers ?l_law_numbers ?c_law_numbers_ ?k_law_numbers_ ?a_law_evened ?l_law_evened ?c_law_evened_ ?k_law_evened_ ?a_law_stretched ?l_law_stretched ?c_law_stretched_ ?k_law_stretched_ ?a_law_due ?l_law_due ?c_law_due_ ?k_law_due_ ?a_law_right ?l_law_right ?c_law_right_ ?k_law_right_ ?a_law ?l_law ?c_law_ ?k_law_
    (case z_abs => k_is)
    (case z_all => k_is)
    (case z_any => k_is)
    (case z_bool => k_is)
    (case z_int => k_is)
    (case z_isinstance => k_is)
    (case z_len => k_is)
    (case z_list => k_is)
    (case z_max => k_is)
    (case z_min => k_is)
    (case z_range => k_is)
    (case z_sum => k_is)
    (case y_GREATEST => k_is)
    (case a_Answer => k_is)
    (case pg_Answer => k_is)
    (case hd_Answer => k_is)
    (case po_Answer => k_is)
    (case sa_Answer => k_is)
    (case ia_Answer => k_is)
    (case ib_Answer => k_is)
    (case ic_Answer => k_is)
    (case id_Answer => k_is)
    (case a_Even => k_is)
    (case pg_Even => k_is)
    (case hd_Even => k_is)
    (case po_Even => k_is)
    (case sa_Even => k_is)
    (case no_Even_carried => k_is)
    (case no_Even_prices => k_is)
    (case ia_Even => k_is)
    (case ib_Even => k_is)
    (case ic_Even => k_is)
    (case id_Even => k_is)
    (case a_Uneven => k_is)
    (case pg_Uneven => k_is)
    (case hd_Uneven => k_is)
    (case po_Uneven => k_is)
    (case sa_Uneven => k_is)
    (case no_Uneven_total => k_is)
    (case ia_Uneven => k_is)
    (case ib_Uneven => k_is)
    (case ic_Uneven => k_is)
    (case id_Uneven => k_is)
    (case a_Within => k_is)
    (case pg_Within => k_is)
    (case hd_Within => k_is)
    (case po_Within => k_is)
    (case sa_Within => k_is)
    (case no_Within_carried => k_is)
    (case ia_Within => k_is)
    (case ib_Within => k_is)
    (case ic_Within => k_is)
    (case id_Within => k_is)
    (case a_Stretch => k_is)
    (case pg_Stretch => k_is)
    (case hd_Stretch => k_is)
    (case po_Stretch => k_is)
    (case sa_Stretch => k_is)
    (case no_Stretch_first => k_is)
    (case no_Stretch_many => k_is)
    (case ia_Stretch => k_is)
    (case ib_Stretch => k_is)
    (case ic_Stretch => k_is)
    (case id_Stretch => k_is)
    (case a_RingError => k_is)
    (case a_BadRing => k_is)
    (case a_BadMost => k_is)
    (case a_Lacking => k_is)
    (case a_Ring => k_is)
    (case pg_Ring => k_is)
    (case hd_Ring => k_is)
    (case po_Ring => k_is)
    (case sa_Ring => k_is)
    (case no_Ring_over => k_is)
    (case ia_Ring => k_is)
    (case ib_Ring => k_is)
    (case ic_Ring => k_is)
    (case id_Ring => k_is)
    (case kit_Within_Answer => kit_is)
    (case kit_Within_Even => kit_is)
    (case kit_Within_Stretch => kit_is)
    (case kit_Within_Uneven => kit_is)
    (case kit_Within_Within => kit_is)
    (case kit_Stretch_Answer => kit_is)
    (case kit_Stretch_Even => kit_is)
    (case kit_Stretch_Stretch => kit_is)
    (case kit_Stretch_Uneven => kit_is)
    (case kit_Stretch_Within => kit_is)
    (case a_is_evening => k_is)
    (case l_is_evening => k_is)
    (case c_is_evening_ => k_is)
    (case k_is_evening_ => k_is)
    (case a_Within_init => k_is)
    (case i_Within_init => k_is)
    (case l_Within_init => k_is)
    (case c_Within_init_ => k_is)
    (case k_Within_init_ => k_is)
    (case mk_Within => k_is)
    (case kp_Within => k_is)
    (case a_Within_shows => k_is)
    (case i_Within_shows => k_is)
    (case l_Within_shows => k_is)
    (case c_Within_shows_ => k_is)
    (case k_Within_shows_ => k_is)
    (case a_Stretch_init => k_is)
    (case i_Stretch_init => k_is)
    (case l_Stretch_init => k_is)
    (case c_Stretch_init_ => k_is)
    (case k_Stretch_init_ => k_is)
    (case mk_Stretch => k_is)
    (case kp_Stretch => k_is)
    (case a_Stretch_shows => k_is)
    (case i_Stretch_shows => k_is)
    (case l_Stretch_shows => k_is)
    (case c_Stretch_shows_ => k_is)
    (case k_Stretch_shows_ => k_is)
    (case a_is_whole => k_is)
    (case l_is_whole => k_is)
    (case c_is_whole_ => k_is)
    (case k_is_whole_ => k_is)
    (case a_is_house => k_is)
    (case l_is_house => k_is)
    (case c_is_house_ => k_is)
    (case k_is_house_ => k_is)
    (case a_Ring_init => k_is)
    (case i_Ring_init => k_is)
    (case l_Ring_init => k_is)
    (case c_Ring_init_ => k_is)
    (case k_Ring_init_ => k_is)
    (case mk_Ring => k_is)
    (case kp_Ring => k_is)
    (case a_Ring_houses => k_is)
    (case i_Ring_houses => k_is)
    (case l_Ring_houses => k_is)
    (case c_Ring_houses_ => k_is)
    (case k_Ring_houses_ => k_is)
    (case a_Ring_whole => k_is)
    (case i_Ring_whole => k_is)
    (case l_Ring_whole => k_is)
    (case c_Ring_whole_ => k_is)
    (case k_Ring_whole_ => k_is)
    (case a_check_total => k_is)
    (case l_check_total => k_is)
    (case c_check_total_ => k_is)
    (case k_check_total_ => k_is)
    (case a_running => k_is)
    (case l_running => k_is)
    (case c_running_ => k_is)
    (case k_running_ => k_is)
    (case a_within => k_is)
    (case l_within => k_is)
    (case c_within_ => k_is)
    (case k_within_ => k_is)
    (case a_widest => k_is)
    (case l_widest => k_is)
    (case c_widest_ => k_is)
    (case k_widest_ => k_is)
    (case a_law_cell_at => k_is)
    (case l_law_cell_at => k_is)
    (case c_law_cell_at_ => k_is)
    (case k_law_cell_at_ => k_is)
    (case a_law_draw => k_is)
    (case l_law_draw => k_is)
    (case c_law_draw_ => k_is)
    (case k_law_draw_ => k_is)
    (case a_law_houses => k_is)
    (case l_law_houses => k_is)
    (case c_law_houses_ => k_is)
    (case k_law_houses_ => k_is)
    (case a_law_numbers => k_is)
    (case l_law_numbers => k_is)
    (case c_law_numbers_ => k_is)
    (case k_law_numbers_ => k_is)
    (case a_law_evened => k_is)
    (case l_law_evened => k_is)
    (case c_law_evened_ => k_is)
    (case k_law_evened_ => k_is)
    (case a_law_stretched => k_is)
    (case l_law_stretched => k_is)
    (case c_law_stretched_ => k_is)
    (case k_law_stretched_ => k_is)
    (case a_law_due => k_is)
    (case l_law_due => k_is)
    (case c_law_due_ => k_is)
    (case k_law_due_ => k_is)
    (case a_law_right => k_is)
    (case l_law_right => k_is)
    (case c_law_right_ => k_is)
    (case k_law_right_ => k_is)
    (case a_law => k_is)
    (case l_law => k_is)
    (case c_law_ => k_is)
    (case k_law_ => k_is)
#print axioms PySem.Challenge.cw_evenring_k03_whole_within_holds
