import PyProof.Rows.All
import Wide.All
import OpenK.AllK
import Wide.FinOn
import HandS.ForMost
import HandS.ForExc
import HandS.IsInst
import HandS.SortRule
import HandS.Walk
import HandS.Style
import HandS.Flow
import HandS.Evl

import HandS.Exc
import HandS.ExcOwn
import HandS.ExcInit
import HandS.ExcField
import HandS.ExcIs
import HandS.HotCalls
import HandS.CallLocal
import HandS.WordsExc
import HandS.TupMul
import HandS.TryOnly
import KE.KExcIs
import PySem.Challenge.RW_evenring_k07_refused
set_option Elab.async false
set_option maxRecDepth 100000
set_option maxHeartbeats 4000000
/-! EvB: a ledger of what a def has made (At), and rules that run a reading forward, one a construct -/
namespace EB
open PySem L2

/-! ### the ledger -/
structure At (H0 : Hp) (L : List (Addr × HO)) (H : Hp) : Prop where
  ex : Same H0 H
  own : ∀ x ∈ L, H x.1 = some x.2
  new : ∀ x ∈ L, H0 x.1 = none
  nd : (L.map Prod.fst).Nodup
section
variable {H0 H H' : Hp} {L : List (Addr × HO)} {p q : Addr} {o o' u : HO} {K : PySem.W.Frag} {xs : List V}
theorem At.nil (H : Hp) : At H [] H := ⟨Same.refl H, (fun _ h => nomatch h), (fun _ h => nomatch h), List.nodup_nil⟩
theorem At.get (A : At H0 L H) (m : (p, o) ∈ L) : H p = some o := A.own _ m
theorem At.fresh (A : At H0 L H) (hp : H p = none) : H0 p = none := A.ex.free hp
theorem At.alloc (A : At H0 L H) (hp : H p = none) (o : HO) : At H0 ((p, o) :: L) (upd H p o) := by
  refine ⟨fun b x e => ?_, fun x hx => ?_, fun x hx => ?_, ?_⟩
  · rw [upd_ne (ne_of_none (A.ex b x e) hp)]
    exact A.ex b x e
  · rcases List.mem_cons.mp hx with rfl | hx
    · exact upd_same
    · rw [upd_ne (ne_of_none (A.own x hx) hp)]
      exact A.own x hx
  · rcases List.mem_cons.mp hx with rfl | hx
    · exact A.fresh hp
    · exact A.new x hx
  · refine List.nodup_cons.mpr ⟨fun h => ?_, A.nd⟩
    obtain ⟨x, hx, e⟩ := List.mem_map.mp h
    have := A.own x hx
    rw [e] at this
    rw [show (p, o).1 = p from rfl] at this
    rw [hp] at this
    cases this
theorem At.same (A : At H0 L H) (s : Same H H') : At H0 L H' := ⟨A.ex.trans s, fun x hx => s _ _ (A.own x hx), A.new, A.nd⟩
theorem At.made (A : At H0 L H) (s : Same H H') (hp : H p = none) (h : H' p = some o) : At H0 ((p, o) :: L) H' := by
  have B := A.alloc hp o
  refine ⟨A.ex.trans s, fun x hx => ?_, B.new, B.nd⟩
  rcases List.mem_cons.mp hx with rfl | hx
  · exact h
  · exact s _ _ (A.own x hx)
theorem At.tl {x : Addr × HO} (A : At H0 (x :: L) H) : At H0 L H :=
  ⟨A.ex, fun y hy => A.own y (List.mem_cons_of_mem _ hy), fun y hy => A.new y (List.mem_cons_of_mem _ hy), (List.nodup_cons.mp A.nd).2⟩
theorem At.perm {L' : List (Addr × HO)} (A : At H0 L H) (h : L'.Perm L) : At H0 L' H :=
  ⟨A.ex, fun y hy => A.own y (h.mem_iff.mp hy), fun y hy => A.new y (h.mem_iff.mp hy), ((h.map Prod.fst).nodup_iff).mpr A.nd⟩
theorem At.sub {L' : List (Addr × HO)} (A : At H0 L H) (h : L'.Sublist L) : At H0 L' H :=
  ⟨A.ex, fun y hy => A.own y (h.subset hy), fun y hy => A.new y (h.subset hy), A.nd.sublist (h.map Prod.fst)⟩
theorem At.put (A : At H0 ((p, o) :: L) H) (o' : HO) : At H0 ((p, o') :: L) (upd H p o') := by
  have hp : H0 p = none := A.new _ List.mem_cons_self
  have hn : ∀ x ∈ L, x.1 ≠ p := fun x hx e => (List.nodup_cons.mp A.nd).1 (by rw [← e]; exact List.mem_map.mpr ⟨x, hx, rfl⟩)
  refine ⟨fun b x e => ?_, fun x hx => ?_, fun x hx => ?_, A.nd⟩
  · rw [upd_ne (ne_of_none e hp)]
    exact A.ex b x e
  · rcases List.mem_cons.mp hx with rfl | hx
    · exact upd_same
    · rw [upd_ne (hn x hx)]
      exact A.own x (List.mem_cons_of_mem _ hx)
  · rcases List.mem_cons.mp hx with rfl | hx
    · exact hp
    · exact A.new x (List.mem_cons_of_mem _ hx)
/-- the second one changed -/
theorem At.swap {x y : Addr × HO} (A : At H0 (x :: y :: L) H) : At H0 (y :: x :: L) H := A.perm (List.Perm.swap ..)
theorem At.put2 {x : Addr × HO} (A : At H0 (x :: (p, o) :: L) H) (o' : HO) : At H0 (x :: (p, o') :: L) (upd H p o') := (A.swap.put o').swap
theorem At.put3 {x y : Addr × HO} (A : At H0 (x :: y :: (p, o) :: L) H) (o' : HO) : At H0 (x :: y :: (p, o') :: L) (upd H p o') := by
  have e : ∀ o : HO, ((p, o) :: x :: y :: L).Perm (x :: y :: (p, o) :: L) := fun o => (List.Perm.swap ..).trans (.cons _ (List.Perm.swap ..))
  exact (((A.perm (e o)).put o').perm (e o').symm)
theorem At.sq (A : At H0 L H) (h : SqL K H0 p xs) : SqL K H p xs := A.ex.seq h
theorem At.sqo (A : At H0 L H) (m : (p, HO.lst xs) ∈ L) : SqL K H p xs := SqL.of (A.get m)
theorem At.st (A : At H0 L H) (h : SqT K H0 p xs) : SqT K H p xs := by
  rcases h with (h | ⟨o, h⟩) | h
  · exact .inl (.inl (A.ex _ _ h))
  · exact .inl (.inr ⟨o, A.ex _ _ h⟩)
  · exact .inr h
theorem At.sto (A : At H0 L H) (m : (p, HO.tup xs) ∈ L) : SqT K H p xs := SqT.of (A.get m)
/-- the ledger becomes the ground -/
theorem At.base (A : At H0 L H) : At H [] H := At.nil H
end
theorem sz {n : Nat} (h : n ≤ 10000000) : n ≤ sizeLine := Nat.le_trans h (by rw [sizeLine_eq]; decide)
theorem sz' {n : Nat} (h : n < 10000000) : n < sizeLine := Nat.lt_of_lt_of_le h (by rw [sizeLine_eq]; decide)

/-! ### what a reading asks, under names -/
def isB (x : V) (Q : Bool → Hp → Prop) (H : Hp) : Prop := ∃ k, x = .bl k ∧ Q k H
def ifB (b : Bool) (A B : Prop) : Prop := if b = true then A else B
def mkL (xs : List V) (H : Hp) (Q : VK) : Prop := xs.length ≤ sizeLine ∧ ∀ p, H p = none → Q (.ref p) (upd H p (.lst xs))
def mkT (xs : List V) (H : Hp) (Q : VK) : Prop := xs.length ≤ sizeLine ∧ ∀ p, H p = none → Q (.ref p) (upd H p (.tup xs))
def fldK (K : PySem.W.Frag) (f : Str) (x : V) (H : Hp) (Q : VK) : Prop := ∃ a C dx fs v, x = .ref a ∧ H a = some (.ins C dx fs) ∧ Cls K C ∧ NoAttr K C f ∧ fs.lookup f = some v ∧ Q v H
def notNone (x : V) (Q : VK) (H : Hp) : Prop := x = .non ∧ Q x H
def rAbs : List V → Hp → VK → Prop := fun xs H Q => ∃ i, xs = [.int i] ∧ Q (.int (if i < 0 then -i else i)) H
def rMax2 : List V → Hp → VK → Prop := fun xs H Q => ∃ i j, xs = [.int i, .int j] ∧ Q (.int (if j > i then j else i)) H
def rMin2 : List V → Hp → VK → Prop := fun xs H Q => ∃ i j, xs = [.int i, .int j] ∧ Q (.int (if j < i then j else i)) H
def rLenQ (K : PySem.W.Frag) : List V → Hp → VK → Prop := fun xs H Q => ∃ p ys, xs = [.ref p] ∧ (SqL K H p ys ∨ SqT K H p ys) ∧ Q (.int ys.length) H
def rListQ (K : PySem.W.Frag) : List V → Hp → VK → Prop := fun xs H Q => ∃ p ys, xs = [.ref p] ∧ (SqL K H p ys ∨ SqT K H p ys) ∧ ∀ l, H l = none → Q (.ref l) (upd H l (.lst ys))
theorem cr_abs {X : Cx} : CallR X (.builtin "abs") rAbs := call_abs
theorem cr_max2 {X : Cx} (hc : X.calm = true) : CallR X (.builtin "max") rMax2 := call_max2 hc
theorem cr_min2 {X : Cx} (hc : X.calm = true) : CallR X (.builtin "min") rMin2 := call_min2 hc
theorem cr_len {X : Cx} : CallR X (.builtin "len") (rLenQ X.K) := call_len_seq
theorem cr_list {X : Cx} : CallR X (.type "list") (rListQ X.K) := call_list_of


/-! ### the layer's rules with the written part named -/
section
variable {X : Cx} {K : PySem.W.Frag}
theorem kLen (h : X.K = K := by rfl) : CallR X (.builtin "len") (rLenQ K) := by subst h; exact cr_len
theorem kList (h : X.K = K := by rfl) : CallR X (.type "list") (rListQ K) := by subst h; exact cr_list
theorem kAll (hc : X.calm = true := by rfl) (h : X.K = K := by rfl) : CallR X (.builtin "all") (rAll K) := by subst h; exact cr_all hc
theorem kAny (hc : X.calm = true := by rfl) (h : X.K = K := by rfl) : CallR X (.builtin "any") (rAny K) := by subst h; exact cr_any hc
theorem kSum (hc : X.calm = true := by rfl) (h : X.K = K := by rfl) : CallR X (.builtin "sum") (rSum K) := by subst h; exact cr_sum hc
theorem kMax (hc : X.calm = true := by rfl) (h : X.K = K := by rfl) : CallR X (.builtin "max") (rMax K) := by subst h; exact cr_max hc
theorem kMin (hc : X.calm = true := by rfl) (h : X.K = K := by rfl) : CallR X (.builtin "min") (rMin K) := by subst h; exact cr_min hc
theorem kIsi (h : X.K = K := by rfl) : CallR X (.builtin "isinstance") (rIsi K) := by subst h; exact call_isi
theorem kIsiT (h : X.K = K := by rfl) : CallR X (.builtin "isinstance") (rIsiT K) := by subst h; exact call_isiT
theorem kSorted (h : X.K = K := by rfl) : CallR X (.builtin "sorted") (rSortedPO K) := by subst h; exact cr_sortedPO
theorem kIxL (h : X.K = K := by rfl) : IxR X (rIxL K) := by subst h; exact ix_list
theorem kIxT (h : X.K = K := by rfl) : IxR X (rIxT K) := by subst h; exact ix_tup
theorem kSlL (h : X.K = K := by rfl) : SlR X (rSlL K) := by subst h; exact sl_list
theorem kIn (h : X.K = K := by rfl) : OpR X (compareOp .In) (rIn K false) := by subst h; exact op_in_seq
theorem kEqD (hu : X.A.units + 64 < cLine) (h : X.K = K := by rfl) : OpR X (compareOp .Eq) (rEqD K) := by subst h; exact op_eqD hu
theorem kNeD (hu : X.A.units + 64 < cLine) (h : X.K = K := by rfl) : OpR X (compareOp .NotEq) (rNeD K) := by subst h; exact op_neD hu
theorem kIdx (h : X.K = K := by rfl) : MtR X "list.index" (rIndex K) := by subst h; exact mt_index
theorem kFld {e : Expr} {f : Str} {pos : Pos} {ta : TE} (he : PE X e ta) (hb : attributeBase e f X.env (eval e X.env) = eval e X.env := by rfl) (h : X.K = K := by rfl) : PE X (.Attribute e f pos) (tFld K ta f) := by subst h; exact pe_fld he hb
theorem kPiL {tg l : Expr} {tl : TE} (hl : PE X l tl) (h : X.K = K := by rfl) : PI X tg l (iList K tl) := by subst h; exact pi_list hl
theorem kPiT {tg l : Expr} {tl : TE} (hl : PE X l tl) (h : X.K = K := by rfl) : PI X tg l (iTup K tl) := by subst h; exact pi_tup hl
theorem kRevL {e : Expr} {te : TE} {k : Nat} {p1 p2 p3 pos : Pos} (he : PE X e te) (h : X.K = K := by rfl) : PE X (.Subscript e (.Slice none none (some (.UnaryOp .USub (.Constant (.int 1) k p1) p2)) p3) pos) (tRevL K te) := by subst h; exact pe_revL he
theorem kPgT {es : List Expr} {k : Nat} {pos : Pos} {t : TGs} {n : Nat} (hc : X.calm = true) (hh : PGs X es t) (hn : (assignEach es X.env).length = n := by rfl) (hst : (assignEach es X.env).findIdx? (·.1) = none := by rfl) (h : X.K = K := by rfl) : PG X (.Tuple es k pos) (gTup K n t) := by
  subst h; exact pg_tup hc hh hn hst
theorem kZip {e e2 : Expr} {ta : TA} {p pos tpos : Pos} {elts : List Expr} {kk : Nat} (hg : Gl X "zip") (hm : X.mg "zip" = none) (ha : PA X [e, e2] ta)
    (hs : starEach [e, e2] X.env = (false, eval e X.env) :: starEach [e2] X.env := by rfl) (hpl : (backTo pos (starEach [e2] X.env)).any (·.1) = false := by rfl) (h : X.K = K := by rfl) :
    PI X (.Tuple elts kk tpos) (.Call (.Name "zip" p) [e, e2] [] pos) (iZip K ta) := by subst h; exact pi_zip hg hm ha hs hpl
end

section
variable {X : Cx} {pos apos : Pos} {e o : Expr} {es : List Expr} {m : Str}
/-- o.m(..), o an instance of one of two classes -/
def tMeth2 (C C' : Addr) (m : Str) (sp sp' : Sp) (E E' : XK) (ta : TE) (t : TA) : TE := fun σ H Q => ta σ H fun x H1 => ∃ a dx fs, x = .ref a ∧ fs.lookup m = none ∧
  ((H1 a = some (.ins C dx fs) ∧ t σ H1 fun vs H2 => sp (x :: vs) H2 Q E) ∨ (H1 a = some (.ins C' dx fs) ∧ t σ H1 fun vs H2 => sp' (x :: vs) H2 Q E'))
theorem pe_meth2 {pl : Sem Bool} {ta : TE} {t : TA} {C C' f f' : Addr} {fd fd' : FuncData} {ps ps' : List Str} {sp sp' : Sp} {CX CX' : CXT} {E E' : XK} {k k' : Nat} (he : PE X o ta)
    (c : Cls X.K C) (hm : Meth X.K C m f) (F : FnOk X.prog X.w X.K X.mg X.base CX k f fd ps sp) (hr : Room k X.A) (hb : Binds X.K fd ps [])
    (c' : Cls X.K C') (hm' : Meth X.K C' m f') (F' : FnOk X.prog X.w X.K X.mg X.base CX' k' f' fd' ps' sp') (hr' : Room k' X.A) (hb' : Binds X.K fd' ps' []) (hx : Passes CX X E) (hx' : Passes CX' X E') (ha : PA X (e :: es) t)
    (hst : starEach (e :: es) X.env = (false, eval e X.env) :: starEach es X.env := by rfl) (hpl : (backTo pos (starEach es X.env)).any (·.1) = false := by rfl)
    (ht : eval (.Call (.Attribute o m apos) (e :: es) [] pos) X.env = (do
      let ov ← eval o X.env
      standAt apos.atName
      let (f, first) ← holding [ov] (getMethod ov m pl)
      callWith pos f first (backTo pos (starEach (e :: es) X.env)) (backToKw pos (keywordEach [] X.env))) := by rfl) :
    PE X (.Call (.Attribute o m apos) (e :: es) [] pos) (tMeth2 C C' m sp sp' E E' ta t) := by
  refine ⟨fun pins s σ H Q I h => ?_⟩
  refine PySem.W.methodCall_KW (pl := pl) (thn (he.run pins s σ H _ I h) fun u s1 ⟨x, H1, I1, rx, a, dx, fs, ex, l, q⟩ => ?_) ht
  subst ex
  obtain rfl : u = Value.ref a := rx
  rcases q with ⟨ea, q⟩ | ⟨ea, q⟩
  · refine getmeth_ok I1 ea c hm l ?_
    refine PySem.W.callWith_K (first := [.ref a]) (h₀ := X.base) I.ok.mod.kin hm.kp (thn (ha.run pos pins s1 σ H1 _ I1 q) fun us s2 ⟨vs, H2, I2, r, q2⟩ => ⟨I2.kIn, ?_⟩) hst hpl
    exact run_fn (us := .ref a :: us) (vs := .ref a :: vs) (dvs := []) F hr hb .nil hx I2 (.cons rfl r) (by rw [List.append_nil]; exact q2)
  · refine getmeth_ok I1 ea c' hm' l ?_
    refine PySem.W.callWith_K (first := [.ref a]) (h₀ := X.base) I.ok.mod.kin hm'.kp (thn (ha.run pos pins s1 σ H1 _ I1 q) fun us s2 ⟨vs, H2, I2, r, q2⟩ => ⟨I2.kIn, ?_⟩) hst hpl
    exact run_fn (us := .ref a :: us) (vs := .ref a :: vs) (dvs := []) F' hr' hb' .nil hx' I2 (.cons rfl r) (by rw [List.append_nil]; exact q2)
end

/-! ### the i-th int -/
/-- ns[i] as Python reads it -/
def gz (ns : List Int) (i : Int) : Int := if 0 ≤ i then ns.getD i.toNat 0 else ns.getD (i + ns.length).toNat 0
theorem atI_gz {ns : List Int} {i : Int} (h1 : -(ns.length : Int) ≤ i) (h2 : i < ns.length) : atI (ns.map V.int) i = some (.int (gz ns i)) := by
  unfold gz
  unfold atI ixN
  rw [List.length_map]
  by_cases h : 0 ≤ i
  · rw [if_pos h, if_pos h, if_pos h2]
    have h3 : i.toNat < ns.length := by omega
    show (ns.map V.int)[i.toNat]? = _
    rw [List.getElem?_map, List.getElem?_eq_getElem h3, List.getD_eq_getElem?_getD, List.getElem?_eq_getElem h3]
    rfl
  · rw [if_neg h, if_neg h, if_pos h1]
    have h3 : (i + ns.length).toNat < ns.length := by omega
    show (ns.map V.int)[(i + ns.length).toNat]? = _
    rw [List.getElem?_map, List.getElem?_eq_getElem h3, List.getD_eq_getElem?_getD, List.getElem?_eq_getElem h3]
    rfl
theorem ixN_gz {n : Nat} {i : Int} (h1 : 0 ≤ i) (h2 : i < n) : ixN n i = some i.toNat := by
  unfold ixN
  rw [if_pos h1, if_pos h2]
theorem gz_nat {ns : List Int} {k : Nat} : gz ns (k : Int) = ns.getD k 0 := by
  unfold gz
  rw [if_pos (by omega)]
  simp


theorem look1 {f g : Str} {v : V} (h : (g == f) = false) : List.lookup g [(f, v)] = none := by simp [List.lookup, h]
theorem look1y {f : Str} {v : V} : List.lookup f [(f, v)] = some v := by simp [List.lookup]
/-! ### the built-ins' names -/
theorem bt_abs : bootBuiltins "abs" = some (.builtin "abs") := by decide +kernel
theorem bt_sum : bootBuiltins "sum" = some (.builtin "sum") := by decide +kernel
theorem bt_all : bootBuiltins "all" = some (.builtin "all") := by decide +kernel
theorem bt_any : bootBuiltins "any" = some (.builtin "any") := by decide +kernel
theorem bt_isinstance : bootBuiltins "isinstance" = some (.builtin "isinstance") := by decide +kernel
theorem bt_sorted : bootBuiltins "sorted" = some (.builtin "sorted") := by decide +kernel
theorem bt_max : bootBuiltins "max" = some (.builtin "max") := by decide +kernel
theorem bt_min : bootBuiltins "min" = some (.builtin "min") := by decide +kernel
theorem bt_list : bootBuiltins "list" = some (.type "list") := by decide +kernel
theorem bt_int : bootBuiltins "int" = some (.type "int") := by decide +kernel
theorem bt_str : bootBuiltins "str" = some (.type "str") := by decide +kernel
theorem bt_bool : bootBuiltins "bool" = some (.type "bool") := by decide +kernel
theorem bt_tuple : bootBuiltins "tuple" = some (.type "tuple") := by decide +kernel

/-! ### rules -/
section
variable {H0 H : Hp} {L : List (Addr × HO)} {K : PySem.W.Frag} {σ : L2.St} {D : Ends} {Q : VK} {QB : Bool → Hp → Prop} {QL : List V → Hp → Prop} {t u : TS} {te ta tb tc : TE} {tt tu : TT} {tl : TA} {v : V} {b : Bool} {A B : Prop} {i j : Int} {p : Addr} {xs : List V} {ns : List Int} {bs : List Bool}
theorem r_seq (k : t { D with nx := u D } σ H) : tSeq t u D σ H := k
theorem r_asg {n : Nat} (k : te σ H (fun x H1 => D.nx (σ.set n (some x)) H1)) : tAsg te (gName n) D σ H := k
theorem r_ret (k : te σ H D.rt) : tRet te D σ H := k
theorem r_if (k : tt σ H (fun b H1 => ifB b (t D σ H1) (u D σ H1))) : tIfS tt t u D σ H := k
theorem r_next (k : D.nx σ H) : tNext D σ H := k
theorem r_drop (k : te σ H (fun _ H1 => D.nx σ H1)) : tDrop te D σ H := k
theorem r_test (k : te σ H (fun x H1 => isB x QB H1)) : tTest te σ H QB := k
theorem r_testB (k : te σ H (fun x H1 => isB x QB H1)) : tB te σ H QB := k
theorem r_isB (k : QB b H) : isB (.bl b) QB H := ⟨b, rfl, k⟩
theorem r_ifT (k : A) : ifB true A B := k
theorem r_ifF (k : B) : ifB false A B := by
  show if false = true then A else B
  rw [if_neg Bool.false_ne_true]
  exact k
theorem r_if2 (h1 : b = true → A) (h2 : b = false → B) : ifB b A B := by
  cases b with
  | true => exact h1 rfl
  | false => exact r_ifF (h2 rfl)
theorem r_ifD {P : Prop} [Decidable P] (h1 : P → A) (h2 : ¬ P → B) : ifB (decide P) A B := r_if2 (fun h => h1 (of_decide_eq_true h)) (fun h => h2 (of_decide_eq_false h))
theorem r_ifND {P : Prop} [Decidable P] (h1 : ¬ P → A) (h2 : P → B) : ifB (!decide P) A B := r_if2 (fun h => h1 (of_decide_eq_false (by simpa using h))) (fun h => h2 (of_decide_eq_true (by simpa using h)))
theorem r_ifd_T {P : Prop} [Decidable P] (h : P) (k : A) : ifB (decide P) A B := by rw [decide_eq_true h]; exact k
theorem r_ifd_F {P : Prop} [Decidable P] (h : ¬ P) (k : B) : ifB (decide P) A B := by rw [decide_eq_false h]; exact r_ifF k
theorem r_ifND_T {P : Prop} [Decidable P] (h : ¬ P) (k : A) : ifB (!decide P) A B := by rw [decide_eq_false h]; exact k
theorem r_ifND_F {P : Prop} [Decidable P] (h : P) (k : B) : ifB (!decide P) A B := by rw [decide_eq_true h]; exact r_ifF k
theorem r_notT (h : b = true) (k : B) : ifB (!b) A B := by rw [h]; exact r_ifF k
theorem r_notF (h : b = false) (k : A) : ifB (!b) A B := by rw [h]; exact k
theorem r_bT (h : b = true) (k : A) : ifB b A B := by rw [h]; exact k
theorem r_bF (h : b = false) (k : B) : ifB b A B := by rw [h]; exact r_ifF k
theorem r_var {n : Nat} (h : σ[n]? = some (some v)) (k : Q v H) : tVar n σ H Q := ⟨v, h, k⟩
theorem r_c (k : Q v H) : tC v σ H Q := k
theorem r_op {r : R2} (k : ta σ H fun x H1 => tb σ H1 fun y H2 => r x y H2 Q) : tOp r ta tb σ H Q := k
theorem r_un {r : V → Hp → VK → Prop} (k : ta σ H fun x H1 => r x H1 Q) : tUn r ta σ H Q := k
theorem r_and (k : tt σ H fun c H1 => ifB c (tu σ H1 QB) (QB false H1)) : tAnd tt tu σ H QB := k
theorem r_or (k : tt σ H fun c H1 => ifB c (QB true H1) (tu σ H1 QB)) : tOr tt tu σ H QB := k
theorem r_not (k : tt σ H fun c H1 => QB (!c) H1) : tNot tt σ H QB := k
theorem r_andV (k : ta σ H fun x H1 => isB x (fun c H2 => ifB c (tb σ H2 Q) (Q (.bl false) H2)) H1) : tAndV ta tb σ H Q := k
theorem r_orV (k : ta σ H fun x H1 => isB x (fun c H2 => ifB c (Q (.bl true) H2) (tb σ H2 Q)) H1) : tOrV ta tb σ H Q := k
theorem r_notV (k : ta σ H fun x H1 => isB x (fun c H2 => Q (.bl (!c)) H2) H1) : tNotV ta σ H Q := k
theorem r_ifE (k : tt σ H fun c H1 => ifB c (ta σ H1 Q) (tb σ H1 Q)) : tIf tt ta tb σ H Q := k
theorem r_chain {r r' : R2} (k : ta σ H fun x H1 => tb σ H1 fun y H2 => r x y H2 fun z H3 => isB z (fun c H4 => ifB c (tc σ H4 fun w H5 => r' y w H5 Q) (Q (.bl false) H4)) H3) : tChain r r' ta tb tc σ H Q := k
theorem r_nil (k : QL [] H) : tNil σ H QL := k
theorem r_cons (k : ta σ H fun x H1 => tl σ H1 fun xs H2 => QL (x :: xs) H2) : tCons ta tl σ H QL := k
theorem r_cb {r : List V → Hp → VK → Prop} (k : tl σ H fun vs H1 => r vs H1 Q) : tCB r tl σ H Q := k
theorem r_lst (k : tl σ H fun xs H1 => mkL xs H1 Q) : tLst tl σ H Q := k
theorem r_tup (k : tl σ H fun xs H1 => mkT xs H1 Q) : tTup tl σ H Q := k
theorem r_mkL (A : At H0 L H) (hl : xs.length ≤ 10000000) (k : ∀ p H', At H0 ((p, .lst xs) :: L) H' → Q (.ref p) H') : mkL xs H Q := ⟨sz hl, fun p hp => k p _ (A.alloc hp _)⟩
theorem r_mkT (A : At H0 L H) (hl : xs.length ≤ 10000000) (k : ∀ p H', At H0 ((p, .tup xs) :: L) H' → Q (.ref p) H') : mkT xs H Q := ⟨sz hl, fun p hp => k p _ (A.alloc hp _)⟩
theorem r_call {sp : Sp} {E : XK} (k : tl σ H fun vs H1 => sp vs H1 Q E) : tCall sp [] E tl σ H Q := by
  show tl σ H fun vs H1 => sp (vs ++ []) H1 Q E
  have e : (fun (vs : List V) (H1 : Hp) => sp (vs ++ []) H1 Q E) = fun vs H1 => sp vs H1 Q E := by funext vs H1; rw [List.append_nil]
  rw [e]
  exact k
/-! ints -/
theorem r_I0 {g : Int → Int → V} (k : Q (g i j) H) : rI0 g (.int i) (.int j) H Q := ⟨i, j, rfl, rfl, k⟩
theorem r_I {C : Int → Int → Prop} {g : Int → Int → V} (h : C i j) (k : Q (g i j) H) : rI C g (.int i) (.int j) H Q := ⟨i, j, rfl, rfl, h, k⟩
theorem r_U {g : Int → V} (k : Q (g i) H) : rU g (.int i) H Q := ⟨i, rfl, k⟩
theorem dec_int {a b : Int} : decide (V.int a = V.int b) = decide (a = b) := by
  by_cases h : a = b
  · subst h; simp
  · rw [decide_eq_false h, decide_eq_false (fun e => h (V.int.inj e))]
theorem dec_bl {a b : Bool} : decide (V.bl a = V.bl b) = decide (a = b) := by cases a <;> cases b <;> rfl
theorem r_eqI (k : Q (.bl (decide (i = j))) H) : rEq (.int i) (.int j) H Q := ⟨rfl, by rw [dec_int]; exact k⟩
theorem r_neI (k : Q (.bl (!decide (i = j))) H) : rNe (.int i) (.int j) H Q := ⟨rfl, by rw [dec_int]; exact k⟩
theorem r_eqB {c d : Bool} (k : Q (.bl (decide (c = d))) H) : rEq (.bl c) (.bl d) H Q := ⟨rfl, by rw [dec_bl]; exact k⟩
theorem r_neB {c d : Bool} (k : Q (.bl (!decide (c = d))) H) : rNe (.bl c) (.bl d) H Q := ⟨rfl, by rw [dec_bl]; exact k⟩
theorem r_isBl {c d : Bool} (k : Q (.bl (decide (c = d))) H) : rIsB (.bl c) (.bl d) H Q := ⟨c, d, rfl, rfl, k⟩
theorem r_isNBl {c d : Bool} (k : Q (.bl (!decide (c = d))) H) : rNotB (.bl c) (.bl d) H Q := ⟨c, d, rfl, rfl, k⟩
theorem r_abs (k : Q (.int (i.natAbs : Int)) H) : rAbs [.int i] H Q := ⟨i, rfl, by
  have e : (if i < 0 then -i else i) = (i.natAbs : Int) := by split <;> omega
  rw [e]; exact k⟩
theorem r_max2 (k : Q (.int (max i j)) H) : rMax2 [.int i, .int j] H Q := ⟨i, j, rfl, by
  have e : (if j > i then j else i) = max i j := by split <;> omega
  rw [e]; exact k⟩
theorem r_min2 (k : Q (.int (min i j)) H) : rMin2 [.int i, .int j] H Q := ⟨i, j, rfl, by
  have e : (if j < i then j else i) = min i j := by split <;> omega
  rw [e]; exact k⟩
/-! lists -/
theorem r_len (h : SqL K H p xs) (k : Q (.int (xs.length : Int)) H) : rLenQ K [.ref p] H Q := ⟨p, xs, rfl, .inl h, k⟩
theorem r_lenI (h : SqL K H p (ns.map V.int)) (k : Q (.int (ns.length : Int)) H) : rLenQ K [.ref p] H Q := ⟨p, _, rfl, .inl h, by rw [List.length_map]; exact k⟩
theorem r_lenT (h : SqT K H p xs) (k : Q (.int (xs.length : Int)) H) : rLenQ K [.ref p] H Q := ⟨p, xs, rfl, .inr h, k⟩
theorem r_list (A : At H0 L H) (h : SqL K H p xs) (k : ∀ l H', At H0 ((l, .lst xs) :: L) H' → Q (.ref l) H') : rListQ K [.ref p] H Q := ⟨p, xs, rfl, .inl h, fun l hl => k l _ (A.alloc hl _)⟩
theorem r_listT (A : At H0 L H) (h : SqT K H p xs) (k : ∀ l H', At H0 ((l, .lst xs) :: L) H' → Q (.ref l) H') : rListQ K [.ref p] H Q := ⟨p, xs, rfl, .inr h, fun l hl => k l _ (A.alloc hl _)⟩
theorem r_ixI (h : SqL K H p (ns.map V.int)) (h1 : -(ns.length : Int) ≤ i) (h2 : i < ns.length) (k : Q (.int (gz ns i)) H) : rIxL K (.ref p) (.int i) H Q := ⟨p, _, i, _, rfl, rfl, h, atI_gz h1 h2, k⟩
theorem r_ixL (h : SqL K H p xs) (ha : atI xs i = some v) (k : Q v H) : rIxL K (.ref p) (.int i) H Q := ⟨p, xs, i, v, rfl, rfl, h, ha, k⟩
theorem r_ixT (h : SqT K H p xs) (ha : atI xs i = some v) (k : Q v H) : rIxT K (.ref p) (.int i) H Q := ⟨p, xs, i, v, rfl, rfl, h, ha, k⟩
theorem r_ixTI (h : SqT K H p (ns.map V.int)) (h1 : -(ns.length : Int) ≤ i) (h2 : i < ns.length) (k : Q (.int (gz ns i)) H) : rIxT K (.ref p) (.int i) H Q := ⟨p, _, i, _, rfl, rfl, h, atI_gz h1 h2, k⟩
theorem r_sum (h : SqL K H p (ns.map V.int)) (k : Q (.int ns.sum) H) : rSum K [.ref p] H Q := ⟨p, ns, rfl, h, k⟩
theorem r_all (h : SqL K H p (bs.map V.bl)) (k : Q (.bl (bs.all id)) H) : rAll K [.ref p] H Q := ⟨p, bs, rfl, h, k⟩
theorem r_any (h : SqL K H p (bs.map V.bl)) (k : Q (.bl (bs.any id)) H) : rAny K [.ref p] H Q := ⟨p, bs, rfl, h, k⟩
theorem r_max (h : SqL K H p (ns.map V.int)) (hn : 0 < ns.length) (k : ∀ m, m ∈ ns → (∀ y, y ∈ ns → y ≤ m) → Q (.int m) H) : rMax K [.ref p] H Q := ⟨p, ns, rfl, h, hn, k⟩
theorem r_min (h : SqL K H p (ns.map V.int)) (hn : 0 < ns.length) (k : ∀ m, m ∈ ns → (∀ y, y ∈ ns → m ≤ y) → Q (.int m) H) : rMin K [.ref p] H Q := ⟨p, ns, rfl, h, hn, k⟩
/-! fields -/
theorem r_fld {f : Str} (k : ta σ H fun x H1 => fldK K f x H1 Q) : tFld K ta f σ H Q := k
theorem r_fldK {f : Str} {a C dx : Addr} {fs : List (Str × V)} (h : H a = some (.ins C dx fs)) (hc : Cls K C) (hn : NoAttr K C f) (hl : fs.lookup f = some v) (k : Q v H) : fldK K f (.ref a) H Q := ⟨a, C, dx, fs, v, rfl, h, hc, hn, hl, k⟩
/-! comprehensions over a range -/
def rng1 (vs : List V) (H : Hp) (R : It → Hp → Prop) : Prop := ∃ j : Int, vs = [.int j] ∧ -(2 ^ 62) ≤ j ∧ j < 2 ^ 62 ∧ R (Itr 0 j.toNat) H
def lcB (J : It) (g : TG) (tt : TT) (te : TE) (vs : List Nat) (σ : L2.St) (H1 : Hp) (Q : VK) : Prop := ∀ D, H1 D = none → ∃ W : Nat → Nat → Hp → Prop, (∃ m, W 0 m (upd H1 D (.lst []))) ∧ ∀ i m H, W i m H →
  (J.stop i H ∧ Q (.ref D) H) ∨ (J.go i H ∧ ∃ Nx : Hp → Prop, (∀ H', Nx H' → ∃ m', m' < m ∧ W (i + 1) m' H') ∧ ∀ x H', J.yld i H x H' → g x (wipe σ vs) H' fun σ2 H2 => wipe σ2 vs = wipe σ vs ∧ tt σ2 H2 fun b H3 =>
    if b = true then te σ2 H3 fun y H4 => ∃ acc, H4 D = some (.lst acc) ∧ acc.length < sizeLine ∧ Nx (upd H4 D (.lst (acc ++ [y]))) else Nx H3)
theorem r_lcR {g : TG} {vs : List Nat} (k : tl σ H fun us H1 => rng1 us H1 fun J H2 => lcB J g tt te vs σ H2 Q) : tLc (iRng1 tl) g tt te vs σ H Q := k
theorem r_rng1 {R : It → Hp → Prop} {n : Nat} (h : i = (n : Int)) (hn : n ≤ 10000000) (k : R (Itr 0 n) H) : rng1 [.int i] H R := by
  subst h
  exact ⟨_, rfl, by omega, by omega, by rw [show ((n : Int)).toNat = n by omega]; exact k⟩
/-- the end of a turn: the value, what the turn made beside the list is let go -/
def TurnQ (H0 : Hp) (L : List (Addr × HO)) (w : V) (Q : VK) : Prop := ∀ y H' L', y = w → At H0 (L' ++ L) H' → Q y H'
theorem TurnQ.t0 {w : V} (q : TurnQ H0 L w Q) (e : v = w) (A : At H0 L H) : Q v H := q _ _ [] e A
theorem TurnQ.t1 {w : V} {x : Addr × HO} (q : TurnQ H0 L w Q) (e : v = w) (A : At H0 (x :: L) H) : Q v H := q _ _ [x] e A
theorem TurnQ.t2 {w : V} {x y : Addr × HO} (q : TurnQ H0 L w Q) (e : v = w) (A : At H0 (x :: y :: L) H) : Q v H := q _ _ [x, y] e A
theorem TurnQ.t3 {w : V} {x y z : Addr × HO} (q : TurnQ H0 L w Q) (e : v = w) (A : At H0 (x :: y :: z :: L) H) : Q v H := q _ _ [x, y, z] e A
theorem At.dropMid {L' : List (Addr × HO)} {H0 H : Hp} {L : List (Addr × HO)} (A : At H0 (L' ++ L) H) : At H0 L H := A.sub (List.sublist_append_right L' L)
theorem range_map_succ {α : Type} (f : Nat → α) (i : Nat) : (List.range (i + 1)).map f = (List.range i).map f ++ [f i] := by
  rw [List.range_succ, List.map_append]
  rfl
theorem r_lcItr {m : Nat} {vs : List Nat} {n : Nat} (f : Nat → V) (A : At H0 L H) (hn : n < 10000000) (hw : ∀ x, wipe ((wipe σ vs).set m (some x)) vs = wipe σ vs)
    (hs : ∀ (i : Nat) (D : Addr) H' Q', i < n → At H0 ((D, .lst ((List.range i).map f)) :: L) H' → TurnQ H0 ((D, .lst ((List.range i).map f)) :: L) (f i) Q' → te ((wipe σ vs).set m (some (.int (i : Int)))) H' Q')
    (k : ∀ D H', At H0 ((D, .lst ((List.range n).map f)) :: L) H' → Q (.ref D) H') : lcB (Itr 0 n) (gName m) tYes te vs σ H Q := fun D hD =>
  lc_range (lo := 0) (n := n) (fun i H' => At H0 ((D, .lst ((List.range i).map f)) :: L) H') (A.alloc hD _) (fun i H' hi A' => by
    refine ⟨hw _, ?_⟩
    show te ((wipe σ vs).set m (some (.int ((0 : Int) + (i : Int))))) H' _
    rw [Int.zero_add]
    refine hs i D H' _ hi A' fun y H4 L' e A4 => ?_
    have B := A4.dropMid
    refine ⟨_, B.get List.mem_cons_self, ?_, ?_⟩
    · rw [List.length_map, List.length_range]
      exact sz' (by omega)
    · subst e
      rw [range_map_succ]
      exact B.put _) (fun H' A' => k D H' A')
/-- over a list that stands -/
def lst1 (K : PySem.W.Frag) (x : V) (H : Hp) (R : It → Hp → Prop) : Prop := ∃ a, x = .ref a ∧ (∃ xs, SqL K H a xs) ∧ R (Itl K a) H
theorem r_lcL {g : TG} {vs : List Nat} (k : ta σ H fun x H1 => lst1 K x H1 fun J H2 => lcB J g tt te vs σ H2 Q) : tLc (iList K ta) g tt te vs σ H Q := k
theorem r_lst1 {R : It → Hp → Prop} (h : SqL K H p xs) (k : R (Itl K p) H) : lst1 K (.ref p) H R := ⟨p, rfl, ⟨xs, h⟩, k⟩
theorem take_map_succ {α β : Type} (f : α → β) {l : List α} {i : Nat} {x : α} (h : l[i]? = some x) : (l.take (i + 1)).map f = (l.take i).map f ++ [f x] := by
  rw [List.take_add_one, h, List.map_append]
  rfl
theorem r_lcItl {m : Nat} {vs : List Nat} (f : V → V) (A : At H0 L H) (hx : ∀ L' H', At H0 (L' ++ L) H' → SqL K H' p xs) (hn : xs.length < 10000000) (hw : ∀ x, wipe ((wipe σ vs).set m (some x)) vs = wipe σ vs)
    (hs : ∀ (i : Nat) (x : V) (D : Addr) H' Q', xs[i]? = some x → At H0 ((D, .lst ((xs.take i).map f)) :: L) H' → TurnQ H0 ((D, .lst ((xs.take i).map f)) :: L) (f x) Q' → te ((wipe σ vs).set m (some x)) H' Q')
    (k : ∀ D H', At H0 ((D, .lst (xs.map f)) :: L) H' → Q (.ref D) H') : lcB (Itl K p) (gName m) tYes te vs σ H Q := fun D hD =>
  lc_list (K := K) (a := p) (xs := xs) (fun i H' => At H0 ((D, .lst ((xs.take i).map f)) :: L) H') (A.alloc hD _) (fun i H' _ A' => hx [_] H' A') (fun i x H' hi A' => by
    refine ⟨hw _, ?_⟩
    show te ((wipe σ vs).set m (some x)) H' _
    refine hs i x D H' _ hi A' fun y H4 L' e A4 => ?_
    have B := A4.dropMid
    refine ⟨_, B.get List.mem_cons_self, ?_, ?_⟩
    · rw [List.length_map, List.length_take]
      exact sz' (by omega)
    · subst e
      rw [take_map_succ f hi]
      exact B.put _) (fun H' A' => by
    rw [List.take_length] at A'
    exact k D H' A')
/-- .. of ints, giving ints, bools -/
theorem r_lcItlI {m : Nat} {vs : List Nat} (f : Int → V) (A : At H0 L H) (h0 : SqL K H0 p (ns.map V.int) ∨ (p, HO.lst (ns.map V.int)) ∈ L) (hn : ns.length < 10000000) (hw : ∀ x, wipe ((wipe σ vs).set m (some x)) vs = wipe σ vs)
    (hs : ∀ (i : Nat) (x : Int) (D : Addr) H' Q', ns[i]? = some x → At H0 ((D, .lst ((ns.take i).map f)) :: L) H' → TurnQ H0 ((D, .lst ((ns.take i).map f)) :: L) (f x) Q' → te ((wipe σ vs).set m (some (.int x))) H' Q')
    (k : ∀ D H', At H0 ((D, .lst (ns.map f)) :: L) H' → Q (.ref D) H') : lcB (Itl K p) (gName m) tYes te vs σ H Q := fun D hD =>
  lc_list (K := K) (a := p) (xs := ns.map V.int) (fun i H' => At H0 ((D, .lst ((ns.take i).map f)) :: L) H') (A.alloc hD _) (fun i H' _ A' => by
    rcases h0 with h | h
    · exact A'.sq h
    · exact A'.sqo (List.mem_cons_of_mem _ h)) (fun i x H' hi A' => by
    refine ⟨hw _, ?_⟩
    rw [List.getElem?_map] at hi
    obtain ⟨z, hz, rfl⟩ : ∃ z, ns[i]? = some z ∧ V.int z = x := by
      cases e : ns[i]? with
      | none => rw [e] at hi; cases hi
      | some z => rw [e] at hi; exact ⟨z, rfl, Option.some.inj hi⟩
    show te ((wipe σ vs).set m (some (V.int z))) H' _
    refine hs i z D H' _ hz A' fun y H4 L' e A4 => ?_
    have B := A4.dropMid
    refine ⟨_, B.get List.mem_cons_self, ?_, ?_⟩
    · rw [List.length_map, List.length_take]
      exact sz' (by omega)
    · subst e
      rw [take_map_succ f hz]
      exact B.put _) (fun H' A' => by
    rw [List.length_map, List.take_length] at A'
    exact k D H' A')
/-! the same, ints or bools given -/
theorem map_bl {α : Type} (l : List α) (g : α → Bool) : l.map (fun k => V.bl (g k)) = (l.map g).map V.bl := by rw [List.map_map]; rfl
theorem map_in {α : Type} (l : List α) (g : α → Int) : l.map (fun k => V.int (g k)) = (l.map g).map V.int := by rw [List.map_map]; rfl
theorem r_lcRB {m : Nat} {vs : List Nat} {n : Nat} (g : Nat → Bool) (A : At H0 L H) (hn : n < 10000000) (hw : ∀ x, wipe ((wipe σ vs).set m (some x)) vs = wipe σ vs)
    (hs : ∀ (i : Nat) (D : Addr) H' Q', i < n → At H0 ((D, .lst ((List.range i).map fun k => V.bl (g k))) :: L) H' → TurnQ H0 ((D, .lst ((List.range i).map fun k => V.bl (g k))) :: L) (V.bl (g i)) Q' → te ((wipe σ vs).set m (some (.int (i : Int)))) H' Q')
    (k : ∀ D H', At H0 ((D, .lst (((List.range n).map g).map V.bl)) :: L) H' → Q (.ref D) H') : lcB (Itr 0 n) (gName m) tYes te vs σ H Q :=
  r_lcItr (fun k => V.bl (g k)) A hn hw hs fun D H' A' => k D H' (by rw [← map_bl]; exact A')
theorem r_lcRI {m : Nat} {vs : List Nat} {n : Nat} (g : Nat → Int) (A : At H0 L H) (hn : n < 10000000) (hw : ∀ x, wipe ((wipe σ vs).set m (some x)) vs = wipe σ vs)
    (hs : ∀ (i : Nat) (D : Addr) H' Q', i < n → At H0 ((D, .lst ((List.range i).map fun k => V.int (g k))) :: L) H' → TurnQ H0 ((D, .lst ((List.range i).map fun k => V.int (g k))) :: L) (V.int (g i)) Q' → te ((wipe σ vs).set m (some (.int (i : Int)))) H' Q')
    (k : ∀ D H', At H0 ((D, .lst (((List.range n).map g).map V.int)) :: L) H' → Q (.ref D) H') : lcB (Itr 0 n) (gName m) tYes te vs σ H Q :=
  r_lcItr (fun k => V.int (g k)) A hn hw hs fun D H' A' => k D H' (by rw [← map_in]; exact A')
theorem r_lcLB {m : Nat} {vs : List Nat} (g : Int → Bool) (A : At H0 L H) (h0 : SqL K H0 p (ns.map V.int) ∨ (p, HO.lst (ns.map V.int)) ∈ L) (hn : ns.length < 10000000) (hw : ∀ x, wipe ((wipe σ vs).set m (some x)) vs = wipe σ vs)
    (hs : ∀ (i : Nat) (x : Int) (D : Addr) H' Q', ns[i]? = some x → At H0 ((D, .lst ((ns.take i).map fun k => V.bl (g k))) :: L) H' → TurnQ H0 ((D, .lst ((ns.take i).map fun k => V.bl (g k))) :: L) (V.bl (g x)) Q' → te ((wipe σ vs).set m (some (.int x))) H' Q')
    (k : ∀ D H', At H0 ((D, .lst ((ns.map g).map V.bl)) :: L) H' → Q (.ref D) H') : lcB (Itl K p) (gName m) tYes te vs σ H Q :=
  r_lcItlI (fun k => V.bl (g k)) A h0 hn hw hs fun D H' A' => k D H' (by rw [← map_bl]; exact A')
theorem r_lcLI {m : Nat} {vs : List Nat} (g : Int → Int) (A : At H0 L H) (h0 : SqL K H0 p (ns.map V.int) ∨ (p, HO.lst (ns.map V.int)) ∈ L) (hn : ns.length < 10000000) (hw : ∀ x, wipe ((wipe σ vs).set m (some x)) vs = wipe σ vs)
    (hs : ∀ (i : Nat) (x : Int) (D : Addr) H' Q', ns[i]? = some x → At H0 ((D, .lst ((ns.take i).map fun k => V.int (g k))) :: L) H' → TurnQ H0 ((D, .lst ((ns.take i).map fun k => V.int (g k))) :: L) (V.int (g x)) Q' → te ((wipe σ vs).set m (some (.int x))) H' Q')
    (k : ∀ D H', At H0 ((D, .lst ((ns.map g).map V.int)) :: L) H' → Q (.ref D) H') : lcB (Itl K p) (gName m) tYes te vs σ H Q :=
  r_lcItlI (fun k => V.int (g k)) A h0 hn hw hs fun D H' A' => k D H' (by rw [← map_in]; exact A')
/-! loops -/
def lstF (K : PySem.W.Frag) (x : V) (H : Hp) (R : It → Hp → Prop) : Prop := lst1 K x H R
def forB (J : It) (g : TG) (tb : TS) (D : Ends) (σ : L2.St) (H1 : Hp) : Prop := ∃ W : Nat → Nat → L2.St → Hp → Prop, (∃ m, W 0 m σ H1) ∧ ∀ i m σ H, W i m σ H →
  (J.stop i H ∧ D.nx σ H) ∨ (J.go i H ∧ ∃ N : L2.St → Hp → Prop, (∀ σ' H', N σ' H' → ∃ m', m' < m ∧ W (i + 1) m' σ' H') ∧ ∀ x H', J.yld i H x H' → g x σ H' fun σ2 H2 => tb { D with nx := N, ct := N, bk := D.nx } σ2 H2)
theorem r_forL {g : TG} {tb : TS} (k : ta σ H fun x H1 => lst1 K x H1 fun J H2 => forB J g tb D σ H2) : tFor (iList K ta) g tb D σ H := k
theorem r_forR {g : TG} {tb : TS} (k : tl σ H fun us H1 => rng1 us H1 fun J H2 => forB J g tb D σ H2) : tFor (iRng1 tl) g tb D σ H := k
theorem r_forItr {g : TG} {tb : TS} {n : Nat} (Pv : Nat → L2.St → Hp → Prop) (h0 : Pv 0 σ H)
    (hs : ∀ i σ H (N : L2.St → Hp → Prop), i < n → Pv i σ H → (∀ σ' H', Pv (i + 1) σ' H' → N σ' H') → g (.int (i : Int)) σ H fun σ2 H2 => tb { D with nx := N, ct := N, bk := D.nx } σ2 H2) (hd : ∀ σ H, Pv n σ H → D.nx σ H) : forB (Itr 0 n) g tb D σ H :=
  for_range (lo := 0) (n := n) Pv h0 (fun i σ H hi p => by
    rw [Int.zero_add]
    exact hs i σ H _ hi p fun _ _ z => z) hd
theorem r_forItl {g : TG} {tb : TS} (xs : List V) (Pv : Nat → L2.St → Hp → Prop) (h0 : Pv 0 σ H) (hl : ∀ i σ H, i ≤ xs.length → Pv i σ H → SqL K H p xs)
    (hs : ∀ i x σ H (N : L2.St → Hp → Prop), xs[i]? = some x → Pv i σ H → (∀ σ' H', Pv (i + 1) σ' H' → N σ' H') → g x σ H fun σ2 H2 => tb { D with nx := N, ct := N, bk := D.nx } σ2 H2) (hd : ∀ σ H, Pv xs.length σ H → D.nx σ H) : forB (Itl K p) g tb D σ H :=
  for_list (K := K) (a := p) (xs := xs) Pv h0 hl (fun i x σ H hi pp => hs i x σ H _ hi pp fun _ _ z => z) hd
theorem r_forItlI {n : Nat} {tb : TS} (ns : List Int) (Pv : Nat → L2.St → Hp → Prop) (h0 : Pv 0 σ H) (hl : ∀ i σ H, i ≤ ns.length → Pv i σ H → SqL K H p (ns.map V.int))
    (hs : ∀ i x σ H (N : L2.St → Hp → Prop), ns[i]? = some x → Pv i σ H → (∀ σ' H', Pv (i + 1) σ' H' → N σ' H') → tb { D with nx := N, ct := N, bk := D.nx } (σ.set n (some (V.int x))) H) (hd : ∀ σ H, Pv ns.length σ H → D.nx σ H) : forB (Itl K p) (gName n) tb D σ H :=
  r_forItl (K := K) (p := p) (ns.map V.int) Pv h0 (fun i σ H hi => hl i σ H (by rw [List.length_map] at hi; exact hi)) (fun i x σ H N hi pp hN => by
    rw [List.getElem?_map] at hi
    obtain ⟨z, hz, rfl⟩ : ∃ z, ns[i]? = some z ∧ V.int z = x := by
      cases e : ns[i]? with
      | none => rw [e] at hi; cases hi
      | some z => rw [e] at hi; exact ⟨z, rfl, Option.some.inj hi⟩
    exact hs i z σ H N hz pp hN) (fun σ H => by rw [List.length_map]; exact hd σ H)
/-! appending, storing by place -/
def bmK (K : PySem.W.Frag) (T : String) (r : V → List V → Hp → VK → Prop) (t : TA) (σ : L2.St) (x : V) (H : Hp) (Q : VK) : Prop := tyV K T x H ∧ t σ H fun xs H2 => r x xs H2 Q
theorem r_bm {T : String} {r : V → List V → Hp → VK → Prop} (k : ta σ H fun x H1 => bmK K T r tl σ x H1 Q) : tBM K T r ta tl σ H Q := k
theorem r_bmL {r : V → List V → Hp → VK → Prop} (h : SqL K H p xs) (k : tl σ H fun xs H2 => r (.ref p) xs H2 Q) : bmK K "list" r tl σ (.ref p) H Q := ⟨Or.inl ⟨rfl, _, h⟩, k⟩
theorem r_append (A : At H0 ((p, .lst xs) :: L) H) (hl : xs.length < 10000000) (k : ∀ H', At H0 ((p, .lst (xs ++ [v])) :: L) H' → Q .non H') : rAppend (.ref p) [v] H Q :=
  ⟨p, xs, v, rfl, rfl, A.get List.mem_cons_self, sz' hl, k _ (A.put _)⟩
theorem r_gName {n : Nat} {QS : L2.St → Hp → Prop} (k : QS (σ.set n (some v)) H) : gName n v σ H QS := k
theorem r_gSub {s : TSet} {QS : L2.St → Hp → Prop} (k : ta σ H fun o H1 => tb σ H1 fun i H2 => s o i v H2 fun H3 => QS σ H3) : gSub ta tb s v σ H QS := k
theorem r_asgG {g : TG} (k : te σ H (fun x H1 => g x σ H1 D.nx)) : tAsg te g D σ H := k
theorem r_setL {QH : Hp → Prop} (A : At H0 ((p, .lst xs) :: L) H) (h1 : 0 ≤ i) (h2 : i < xs.length) (k : ∀ H', At H0 ((p, .lst (xs.set i.toNat v)) :: L) H' → QH H') : rSetL (.ref p) (.int i) v H QH :=
  ⟨p, xs, i, i.toNat, rfl, rfl, A.get List.mem_cons_self, ixN_gz h1 h2, k _ (A.put _)⟩
/-! isinstance of plain things -/
theorem r_isiI {b : Bool} {n : String} (h : kitB "int" n = some b) (k : Q (.bl b) H) : rIsi K [.int i, .ty n] H Q := ⟨_, _, _, _, b, rfl, .ty n, .base (.int i), kit_ty h, k⟩
theorem r_isiB {b c : Bool} {n : String} (h : kitB "bool" n = some b) (k : Q (.bl b) H) : rIsi K [.bl c, .ty n] H Q := ⟨_, _, _, _, b, rfl, .ty n, .base (.bl c), kit_ty h, k⟩
theorem ty_list (h : SqL K H p xs) : TyX K H (.ref p) (.type "list") := by
  rcases h with (h | ⟨o, h⟩) | ⟨o, its, n, h, hc, _⟩
  · exact .base (.lst h)
  · exact .base (.frz h)
  · exact .kList h hc
theorem r_isiL {b : Bool} {n : String} (hs : SqL K H p xs) (h : kitB "list" n = some b) (k : Q (.bl b) H) : rIsi K [.ref p, .ty n] H Q := ⟨_, _, _, _, b, rfl, .ty n, ty_list hs, kit_ty h, k⟩
/-! own instances -/
def mkC (C : Addr) (sp : Sp) (vs : List V) (H1 : Hp) (Q : VK) (E : XK) : Prop := ∀ x dx, H1 x = none → H1 dx = none → dx ≠ x → sp (.ref x :: vs) (upd (upd H1 dx (.own x)) x (.ins C dx [])) (fun v H2 => v = .non ∧ Q (.ref x) H2) E
theorem r_make {C : Addr} {sp : Sp} {E : XK} (k : tl σ H fun vs H1 => mkC C sp vs H1 Q E) : tMake C sp [] E tl σ H Q := by
  show tl σ H fun vs H1 => ∀ x dx, H1 x = none → H1 dx = none → dx ≠ x → sp (.ref x :: (vs ++ [])) (upd (upd H1 dx (.own x)) x (.ins C dx [])) (fun v H2 => v = .non ∧ Q (.ref x) H2) E
  have e : (fun (vs : List V) (H1 : Hp) => ∀ x dx, H1 x = none → H1 dx = none → dx ≠ x → sp (.ref x :: (vs ++ [])) (upd (upd H1 dx (.own x)) x (.ins C dx [])) (fun v H2 => v = .non ∧ Q (.ref x) H2) E) = fun vs H1 => mkC C sp vs H1 Q E := by
    funext vs H1
    rw [List.append_nil]
    rfl
  rw [e]
  exact k
/-- the new instance's heap -/
theorem same_mk {H : Hp} {x dx C : Addr} (nx : H x = none) (nd : H dx = none) : Same H (upd (upd H dx (.own x)) x (.ins C dx [])) := fun b o e => by
  rw [upd_ne (ne_of_none e nx), upd_ne (ne_of_none e nd)]
  exact e
def mthK (C : Addr) (m : Str) (sp : Sp) (tl : TA) (σ : L2.St) (x : V) (H1 : Hp) (Q : VK) (E : XK) : Prop := ∃ a dx fs, x = .ref a ∧ H1 a = some (.ins C dx fs) ∧ fs.lookup m = none ∧ tl σ H1 fun vs H2 => sp (x :: vs) H2 Q E
theorem r_meth {C : Addr} {m : Str} {sp : Sp} {E : XK} (k : ta σ H fun x H1 => mthK C m sp tl σ x H1 Q E) : tMeth C m sp [] E ta tl σ H Q := by
  show ta σ H fun x H1 => ∃ a dx fs, x = .ref a ∧ H1 a = some (.ins C dx fs) ∧ fs.lookup m = none ∧ tl σ H1 fun vs H2 => sp (x :: (vs ++ [])) H2 Q E
  have e : (fun (x : V) (H1 : Hp) => ∃ a dx fs, x = .ref a ∧ H1 a = some (.ins C dx fs) ∧ fs.lookup m = none ∧ tl σ H1 fun vs H2 => sp (x :: (vs ++ [])) H2 Q E) = fun x H1 => mthK C m sp tl σ x H1 Q E := by
    funext x H1
    unfold mthK
    congr
    funext a
    congr
    funext dx
    congr
    funext fs
    have e2 : (fun (vs : List V) (H2 : Hp) => sp (x :: (vs ++ [])) H2 Q E) = fun vs H2 => sp (x :: vs) H2 Q E := by
      funext vs H2
      rw [List.append_nil]
    rw [e2]
  rw [e]
  exact k
theorem r_mthK {C dx a : Addr} {m : Str} {sp : Sp} {E : XK} {fs : List (Str × V)} (h : H a = some (.ins C dx fs)) (hl : fs.lookup m = none) (k : tl σ H fun vs H2 => sp (.ref a :: vs) H2 Q E) : mthK C m sp tl σ (.ref a) H Q E := ⟨a, dx, fs, rfl, h, hl, k⟩
/-- self.f = e -/
def sfK (K : PySem.W.Frag) (f : Str) (y x : V) (H2 : Hp) (N : Hp → Prop) : Prop := ∃ a C dx fs, x = .ref a ∧ H2 a = some (.ins C dx fs) ∧ Cls K C ∧ NoAttr K C f ∧ fs.length < 1000 ∧ N (upd H2 a (.ins C dx (putF f y fs)))
theorem r_sfld {f : Str} (k : tb σ H fun y H1 => ta σ H1 fun x H2 => sfK K f y x H2 fun H3 => D.nx σ H3) : sFld K ta tb f D σ H := k
theorem r_sfK {f : Str} {y : V} {a C dx : Addr} {fs : List (Str × V)} {N : Hp → Prop} (h : H a = some (.ins C dx fs)) (hc : Cls K C) (hn : NoAttr K C f) (hl : fs.length < 1000) (k : N (upd H a (.ins C dx (putF f y fs)))) : sfK K f y (.ref a) H N := ⟨a, C, dx, fs, rfl, h, hc, hn, hl, k⟩
/-- isinstance of an own instance -/
theorem r_isiO {a C C' dx : Addr} {fs : List (Str × V)} {b : Bool} (h : H a = some (.ins C dx fs)) (hc : Cls K C) (hi : PySem.W.findIn K (.ref C) "__class__" = some (some (.builtin "object.__class__")) ∧ PySem.W.specialIn K (.builtin "object.__class__") "__get__" = some (some (.builtin "getset_descriptor.__get__")) ∧ PySem.W.takesIn K (.builtin "object.__class__") = some true ∧ PySem.W.mroIn K C (.type "object") = some true)
    (hk : PySem.W.kitOne K (.ref C) (.ref C') = some b) (k : Q (.bl b) H) : rIsi K [.ref a, .ref C'] H Q := ⟨_, _, _, _, b, rfl, .own C', .base (.ins h hc hi.1 hi.2.1 hi.2.2.1 hi.2.2.2), hk, k⟩
theorem r_ifNT (k : B) : ifB (!true) A B := r_ifF k
theorem r_ifNF (k : A) : ifB (!false) A B := k
theorem r_isiII (k : Q (.bl true) H) : rIsi K [.int i, .ty "int"] H Q := r_isiI (by decide +kernel) k
theorem r_isiIB (k : Q (.bl false) H) : rIsi K [.int i, .ty "bool"] H Q := r_isiI (by decide +kernel) k
theorem r_isiBB {c : Bool} (k : Q (.bl true) H) : rIsi K [.bl c, .ty "bool"] H Q := r_isiB (by decide +kernel) k
theorem r_isiBI {c : Bool} (k : Q (.bl true) H) : rIsi K [.bl c, .ty "int"] H Q := r_isiB (by decide +kernel) k
theorem r_isiLL (hs : SqL K H p xs) (k : Q (.bl true) H) : rIsi K [.ref p, .ty "list"] H Q := r_isiL hs (by decide +kernel) k
/-! lists compared -/
theorem dpAll_int (ns : List Int) : DpAll K H (ns.map V.int) (ns.map PyData.int) := by
  induction ns with
  | nil => exact .nil
  | cons a r ih => exact .cons (.int a) ih
theorem dpAll_bl (bs : List Bool) : DpAll K H (bs.map V.bl) (bs.map PyData.bool) := by
  induction bs with
  | nil => exact .nil
  | cons a r ih => exact .cons (.bl a) ih
theorem eqvAll_int : ∀ ns ms : List Int, PyData.eqvAll (ns.map PyData.int) (ms.map PyData.int) = decide (ns = ms)
  | [], [] => by simp [PyData.eqvAll]
  | [], _ :: _ => by simp [PyData.eqvAll]
  | _ :: _, [] => by simp [PyData.eqvAll]
  | a :: r, b :: q => by
    have ih := eqvAll_int r q
    rw [List.map_cons, List.map_cons, PyData.eqvAll, PyData.eqv, ih]
    by_cases h : a = b
    · subst h; simp
    · simp [h]
theorem eqvAll_bl : ∀ ns ms : List Bool, PyData.eqvAll (ns.map PyData.bool) (ms.map PyData.bool) = decide (ns = ms)
  | [], [] => by simp [PyData.eqvAll]
  | [], _ :: _ => by simp [PyData.eqvAll]
  | _ :: _, [] => by simp [PyData.eqvAll]
  | a :: r, b :: q => by
    have ih := eqvAll_bl r q
    rw [List.map_cons, List.map_cons, PyData.eqvAll, PyData.eqv, ih]
    by_cases h : a = b
    · subst h; simp
    · simp [h]
theorem canLay_int (ns : List Int) : PyData.canLayAll0 (ns.map PyData.int) = true := by
  induction ns with
  | nil => simp [PyData.canLayAll0]
  | cons a r ih => rw [List.map_cons, PyData.canLayAll0, ih]; simp [PyData.canLay0]
theorem canLay_bl (ns : List Bool) : PyData.canLayAll0 (ns.map PyData.bool) = true := by
  induction ns with
  | nil => simp [PyData.canLayAll0]
  | cons a r ih => rw [List.map_cons, PyData.canLayAll0, ih]; simp [PyData.canLay0]
theorem depth_int (ns : List Int) : PyData.depthAll (ns.map PyData.int) ≤ 1 := by
  induction ns with
  | nil => simp [PyData.depthAll]
  | cons a r ih => rw [List.map_cons, PyData.depthAll]; simp [PyData.depth]; omega
theorem depth_bl (ns : List Bool) : PyData.depthAll (ns.map PyData.bool) ≤ 1 := by
  induction ns with
  | nil => simp [PyData.depthAll]
  | cons a r ih => rw [List.map_cons, PyData.depthAll]; simp [PyData.depth]; omega
theorem shaped_int (ns : List Int) : SeqAt.shaped (.list (ns.map PyData.int)) = true := by
  unfold SeqAt.shaped
  rw [PyData.canLay0, canLay_int]
  have := depth_int ns
  simp [PyData.depth]
  omega
theorem shaped_bl (ns : List Bool) : SeqAt.shaped (.list (ns.map PyData.bool)) = true := by
  unfold SeqAt.shaped
  rw [PyData.canLay0, canLay_bl]
  have := depth_bl ns
  simp [PyData.depth]
  omega
variable {q : Addr} {ms : List Int} {cs : List Bool}
theorem r_eqL (h1 : SqL K H p (ns.map V.int)) (h2 : SqL K H q (ms.map V.int)) (k : Q (.bl (decide (ns = ms))) H) : rEqD K (.ref p) (.ref q) H Q :=
  ⟨.list (ns.map PyData.int), .list (ms.map PyData.int), .lst h1 (dpAll_int ns), .lst h2 (dpAll_int ms), shaped_int ns, shaped_int ms, by rw [PyData.eqv, eqvAll_int]; exact k⟩
theorem r_neL (h1 : SqL K H p (ns.map V.int)) (h2 : SqL K H q (ms.map V.int)) (k : Q (.bl (!decide (ns = ms))) H) : rNeD K (.ref p) (.ref q) H Q :=
  ⟨.list (ns.map PyData.int), .list (ms.map PyData.int), .lst h1 (dpAll_int ns), .lst h2 (dpAll_int ms), shaped_int ns, shaped_int ms, by rw [PyData.eqv, eqvAll_int]; exact k⟩
theorem r_eqLB (h1 : SqL K H p (bs.map V.bl)) (h2 : SqL K H q (cs.map V.bl)) (k : Q (.bl (decide (bs = cs))) H) : rEqD K (.ref p) (.ref q) H Q :=
  ⟨.list (bs.map PyData.bool), .list (cs.map PyData.bool), .lst h1 (dpAll_bl bs), .lst h2 (dpAll_bl cs), shaped_bl bs, shaped_bl cs, by rw [PyData.eqv, eqvAll_bl]; exact k⟩
theorem r_neLB (h1 : SqL K H p (bs.map V.bl)) (h2 : SqL K H q (cs.map V.bl)) (k : Q (.bl (!decide (bs = cs))) H) : rNeD K (.ref p) (.ref q) H Q :=
  ⟨.list (bs.map PyData.bool), .list (cs.map PyData.bool), .lst h1 (dpAll_bl bs), .lst h2 (dpAll_bl cs), shaped_bl bs, shaped_bl cs, by rw [PyData.eqv, eqvAll_bl]; exact k⟩
/-! + of lists, a slice, index -/
theorem r_cat {zs : List V} (A : At H0 L H) (h1 : H p = some (.lst xs)) (h2 : H q = some (.lst zs)) (hl : xs.length + zs.length ≤ 10000000) (k : ∀ l H', At H0 ((l, .lst (xs ++ zs)) :: L) H' → Q (.ref l) H') : rCat (.ref p) (.ref q) H Q :=
  ⟨p, q, xs, zs, rfl, rfl, h1, h2, sz hl, fun l hl => k l _ (A.alloc hl _)⟩
def slK (r : V → Option Int → Option Int → Hp → VK → Prop) (x : V) (lo hi : Option Int) (H : Hp) (Q : VK) : Prop := r x lo hi H Q
def ptK (x : V) (QO : Option Int → Hp → Prop) (H : Hp) : Prop := ∃ i, x = .int i ∧ QO (some i) H
theorem r_sl {r : V → Option Int → Option Int → Hp → VK → Prop} {tlo thi : TO} (k : ta σ H fun x H1 => tlo σ H1 fun l H2 => thi σ H2 fun u H3 => r x l u H3 Q) : tSl r ta tlo thi σ H Q := k
theorem r_noPart {QO : Option Int → Hp → Prop} (k : QO none H) : tNoPart σ H QO := k
theorem r_part {QO : Option Int → Hp → Prop} (k : ta σ H fun x H1 => ptK x QO H1) : tPart ta σ H QO := k
theorem r_ptK {QO : Option Int → Hp → Prop} (k : QO (some i) H) : ptK (.int i) QO H := ⟨i, rfl, k⟩
theorem r_slL {lo hi : Option Int} (A : At H0 L H) (h1 : SqL K H p xs) (k : ∀ l H', At H0 ((l, .lst (cutV xs lo hi)) :: L) H' → Q (.ref l) H') : rSlL K (.ref p) lo hi H Q :=
  ⟨p, xs, rfl, h1, fun l hl => k l _ (A.alloc hl _)⟩
def revK (K : PySem.W.Frag) (x : V) (H1 : Hp) (Q : VK) : Prop := ∃ a xs, x = .ref a ∧ SqL K H1 a xs ∧ ∀ p, H1 p = none → Q (.ref p) (upd H1 p (.lst xs.reverse))
theorem r_rev (k : ta σ H fun x H1 => revK K x H1 Q) : tRevL K ta σ H Q := k
theorem r_revK (A : At H0 L H) (h1 : SqL K H p xs) (k : ∀ l H', At H0 ((l, .lst xs.reverse) :: L) H' → Q (.ref l) H') : revK K (.ref p) H Q := ⟨p, xs, rfl, h1, fun l hl => k l _ (A.alloc hl _)⟩
theorem r_revKI (A : At H0 L H) (h1 : SqL K H p (ns.map V.int)) (k : ∀ l H', At H0 ((l, .lst (ns.reverse.map V.int)) :: L) H' → Q (.ref l) H') : revK K (.ref p) H Q := r_revK A h1 fun l H' A' => k l H' (by rw [List.map_reverse]; exact A')
theorem r_aug {n : Nat} {ip : TIp} {w : V} (h : σ[n]? = some (some w)) (k : te σ H fun y H1 => ip w y H1 fun z H2 => D.nx (σ.set n (some z)) H2) : tAug n te ip D σ H := ⟨w, h, k⟩
theorem r_ipI {f : Int → Int → Int} (k : Q (.int (f i j)) H) : ipI f (.int i) (.int j) H Q := ⟨i, j, rfl, rfl, k⟩
def parK (n m : Nat) (D : Ends) (σ : L2.St) (vs : List V) (H1 : Hp) : Prop := ∃ v w, vs = [v, w] ∧ D.nx ((σ.set n (some v)).set m (some w)) H1
theorem r_par {n m : Nat} (k : tl σ H fun vs H1 => parK n m D σ vs H1) : tPar n m tl D σ H := k
theorem r_parK {n m : Nat} {w : V} (k : D.nx ((σ.set n (some v)).set m (some w)) H) : parK n m D σ [v, w] H := ⟨v, w, rfl, k⟩
/-! the place of an int -/
theorem flat_ints (ns : List Int) : (ns.map V.int).all flatV = true := by
  induction ns with
  | nil => rfl
  | cons a r ih => rw [List.map_cons, List.all_cons, ih]; rfl
theorem least_at (z : Int) : ∀ {ns : List Int}, z ∈ ns → ∃ j : Nat, ns[j]? = some z ∧ ∀ (m : Nat) (y : Int), m < j → ns[m]? = some y → y ≠ z
  | [], h => nomatch h
  | a :: r, h => by
    by_cases e : a = z
    · exact ⟨0, by rw [e]; rfl, fun m y hm => absurd hm (Nat.not_lt_zero m)⟩
    · have h' : z ∈ r := (List.mem_cons.mp h).resolve_left (fun q => e q.symm)
      obtain ⟨j, h1, h2⟩ := least_at z h'
      refine ⟨j + 1, h1, fun m y hm hy => ?_⟩
      cases m with
      | zero =>
        have : a = y := Option.some.inj hy
        rw [← this]
        exact e
      | succ m => exact h2 m y (by omega) hy
theorem r_index {z : Int} (h : SqL K H p (ns.map V.int)) (hm : z ∈ ns) (k : ∀ j : Nat, ns[j]? = some z → Q (.int (j : Int)) H) : rIndex K (.ref p) [.int z] H Q := by
  obtain ⟨j, h1, h2⟩ := least_at z hm
  refine ⟨p, _, .int z, j, .int z, rfl, rfl, h, rfl, flat_ints ns, by rw [List.getElem?_map, h1]; rfl, by simp [eqV], fun m y hmj hy => ?_, k j h1⟩
  rw [List.getElem?_map] at hy
  cases e : ns[m]? with
  | none => rw [e] at hy; cases hy
  | some u =>
    rw [e] at hy
    have hy' : V.int u = y := Option.some.inj hy
    subst hy'
    have := h2 m u hmj e
    simp [eqV, this]
def mth2K (C C' : Addr) (m : Str) (sp sp' : Sp) (tl : TA) (σ : L2.St) (x : V) (H1 : Hp) (Q : VK) (E E' : XK) : Prop := ∃ a dx fs, x = .ref a ∧ fs.lookup m = none ∧
  ((H1 a = some (.ins C dx fs) ∧ tl σ H1 fun vs H2 => sp (x :: vs) H2 Q E) ∨ (H1 a = some (.ins C' dx fs) ∧ tl σ H1 fun vs H2 => sp' (x :: vs) H2 Q E'))
theorem r_meth2 {C C' : Addr} {m : Str} {sp sp' : Sp} {E E' : XK} (k : ta σ H fun x H1 => mth2K C C' m sp sp' tl σ x H1 Q E E') : tMeth2 C C' m sp sp' E E' ta tl σ H Q := k
theorem r_m2l {C C' dx a : Addr} {m : Str} {sp sp' : Sp} {E E' : XK} {fs : List (Str × V)} (h : H a = some (.ins C dx fs)) (hl : fs.lookup m = none) (k : tl σ H fun vs H2 => sp (.ref a :: vs) H2 Q E) : mth2K C C' m sp sp' tl σ (.ref a) H Q E E' := ⟨a, dx, fs, rfl, hl, .inl ⟨h, k⟩⟩
theorem r_m2r {C C' dx a : Addr} {m : Str} {sp sp' : Sp} {E E' : XK} {fs : List (Str × V)} (h : H a = some (.ins C' dx fs)) (hl : fs.lookup m = none) (k : tl σ H fun vs H2 => sp' (.ref a :: vs) H2 Q E') : mth2K C C' m sp sp' tl σ (.ref a) H Q E E' := ⟨a, dx, fs, rfl, hl, .inr ⟨h, k⟩⟩
/-! over a tuple -/
def tup1 (K : PySem.W.Frag) (x : V) (H : Hp) (R : It → Hp → Prop) : Prop := ∃ a, x = .ref a ∧ (∃ xs, SqT K H a xs) ∧ R (Itt K a) H
theorem r_forT {g : TG} {tb : TS} (k : ta σ H fun x H1 => tup1 K x H1 fun J H2 => forB J g tb D σ H2) : tFor (iTup K ta) g tb D σ H := k
theorem r_tup1 {R : It → Hp → Prop} (h : SqT K H p xs) (k : R (Itt K p) H) : tup1 K (.ref p) H R := ⟨p, rfl, ⟨xs, h⟩, k⟩
theorem r_forItt {g : TG} {tb : TS} (xs : List V) (Pv : Nat → L2.St → Hp → Prop) (h0 : Pv 0 σ H) (hl : ∀ i σ H, i ≤ xs.length → Pv i σ H → SqT K H p xs)
    (hs : ∀ i x σ H (N : L2.St → Hp → Prop), xs[i]? = some x → Pv i σ H → (∀ σ' H', Pv (i + 1) σ' H' → N σ' H') → g x σ H fun σ2 H2 => tb { D with nx := N, ct := N, bk := D.nx } σ2 H2) (hd : ∀ σ H, Pv xs.length σ H → D.nx σ H) : forB (Itt K p) g tb D σ H :=
  for_tup (K := K) (a := p) (xs := xs) Pv h0 hl (fun i x σ H hi pp => hs i x σ H _ hi pp fun _ _ z => z) hd
/-! a list that the def itself stores into -/
theorem At.of (H0 : Hp) {L : List (Addr × HO)} {H : Hp} (A : At H0 L H) : At H0 L H := A
theorem At.more {H0 H : Hp} {L : List (Addr × HO)} {p : Addr} {o : HO} (A : At H0 L H) (h0 : H0 p = none) (h : H p = some o) (hn : ∀ x ∈ L, x.1 ≠ p) : At H0 ((p, o) :: L) H := by
  refine ⟨A.ex, fun x hx => ?_, fun x hx => ?_, ?_⟩
  · rcases List.mem_cons.mp hx with rfl | hx
    · exact h
    · exact A.own x hx
  · rcases List.mem_cons.mp hx with rfl | hx
    · exact h0
    · exact A.new x hx
  · refine List.nodup_cons.mpr ⟨fun hm => ?_, A.nd⟩
    obtain ⟨x, hx, e⟩ := List.mem_map.mp hm
    exact hn x hx e
/-- two new objects -/
theorem At.two {H0 H : Hp} {p q : Addr} {o u : HO} (s : Same H0 H) (hp : H0 p = none) (hq : H0 q = none) (h1 : H p = some o) (h2 : H q = some u) (d : o ≠ u) : At H0 [(p, o), (q, u)] H :=
  At.more (At.made (At.nil H0) s hq h2) hp h1 fun x hx => by
    rw [List.mem_singleton] at hx
    subst hx
    exact fun e => ne_of h1 h2 d e.symm
theorem r_setLI {QH : Hp → Prop} {z : Int} (A : At H0 ((p, .lst (ns.map V.int)) :: L) H) (h1 : 0 ≤ i) (h2 : i < ns.length) (k : ∀ H', At H0 ((p, .lst ((ns.set i.toNat z).map V.int)) :: L) H' → QH H') : rSetL (.ref p) (.int i) (.int z) H QH :=
  r_setL A h1 (by rw [List.length_map]; exact h2) fun H' A' => k H' (by rw [List.map_set]; exact A')
/-! a list of pairs made: numbers by place, some left out -/
/-- at xs stand references to pairs: those of ps -/
def Prs (H : Hp) (xs : List V) (ps : List (Int × Int)) : Prop := xs.length = ps.length ∧ ∀ (i : Nat) (q : Int × Int), ps[i]? = some q → ∃ t : Addr, xs[i]? = some (V.ref t) ∧ H t = some (HO.tup [V.int q.1, V.int q.2])
theorem Prs.nil : Prs H [] [] := ⟨rfl, fun i q h => by simp at h⟩
theorem Prs.keep {H H' : Hp} {ps : List (Int × Int)} (P : Prs H xs ps) (h : ∀ t q, H t = some (.tup q) → H' t = some (.tup q)) : Prs H' xs ps := ⟨P.1, fun i q e => by
  obtain ⟨t, h1, h2⟩ := P.2 i q e
  exact ⟨t, h1, h _ _ h2⟩⟩
theorem Prs.snoc {ps : List (Int × Int)} {t : Addr} {q : Int × Int} (P : Prs H xs ps) (h : H t = some (.tup [.int q.1, .int q.2])) : Prs H (xs ++ [.ref t]) (ps ++ [q]) := by
  refine ⟨by rw [List.length_append, List.length_append, P.1]; rfl, fun i r e => ?_⟩
  by_cases hi : i < ps.length
  · rw [List.getElem?_append_left hi] at e
    obtain ⟨u, h1, h2⟩ := P.2 i r e
    exact ⟨u, by rw [List.getElem?_append_left (by rw [P.1]; exact hi)]; exact h1, h2⟩
  · rw [List.getElem?_append_right (by omega)] at e
    have hz : i - ps.length = 0 := by
      have := (List.getElem?_eq_some_iff.mp e).1
      simp at this
      omega
    rw [hz] at e
    have e' : q = r := Option.some.inj e
    subst e'
    exact ⟨t, by rw [List.getElem?_append_right (by rw [P.1]; omega), P.1, hz]; rfl, h⟩
theorem r_lcPairs {m : Nat} {vs : List Nat} {n : Nat} (f : Nat → Bool) (g h : Nat → Int) (A : At H0 L H) (hn : n < 10000000) (hw : ∀ x, wipe ((wipe σ vs).set m (some x)) vs = wipe σ vs)
    (he : ∀ (i : Nat) H' L' QT, i < n → At H0 (L' ++ L) H' → mkT [.int (g i), .int (h i)] H' QT → te ((wipe σ vs).set m (some (.int (i : Int)))) H' QT)
    (k : ∀ D H' xs, At H0 ((D, .lst xs) :: L) H' → Prs H' xs (((List.range n).filter f).map fun i => (g i, h i)) → Q (.ref D) H')
    (htt : ∀ (i : Nat) H' L' (QB : Bool → Hp → Prop), i < n → At H0 (L' ++ L) H' → QB (f i) H' → tt ((wipe σ vs).set m (some (.int (i : Int)))) H' QB) : lcB (Itr 0 n) (gName m) tt te vs σ H Q := fun D hD =>
  lc_range (lo := 0) (n := n) (fun i H' => ∃ xs, At H0 ((D, .lst xs) :: L) H' ∧ Prs H' xs (((List.range i).filter f).map fun i => (g i, h i))) ⟨[], A.alloc hD _, Prs.nil⟩ (fun i H' hi ⟨xs, A', P⟩ => by
    refine ⟨hw _, ?_⟩
    show tt ((wipe σ vs).set m (some (.int ((0 : Int) + (i : Int))))) H' _
    rw [Int.zero_add]
    refine htt i H' [(D, .lst xs)] _ hi A' ?_
    cases hf : f i with
    | false =>
      show ∃ xs, _
      rw [List.range_succ, List.filter_append, List.filter_cons_of_neg (by rw [hf]; decide), List.filter_nil, List.append_nil]
      exact ⟨xs, A', P⟩
    | true =>
      show te _ H' _
      refine he i H' [(D, .lst xs)] _ hi A' ⟨by show 2 ≤ sizeLine; exact sz (by decide), fun t ht => ?_⟩
      have B := A'.alloc ht (.tup [.int (g i), .int (h i)])
      have hD2 := B.get (p := D) (List.mem_cons_of_mem _ List.mem_cons_self)
      have ntD : t ≠ D := fun e => by
        rw [e] at ht
        have := A'.get (p := D) List.mem_cons_self
        rw [ht] at this
        cases this
      refine ⟨xs, hD2, ?_, xs ++ [.ref t], (B.tl).put _, ?_⟩
      · have h1 := P.1
        have h2 : (((List.range i).filter f).map fun i => (g i, h i)).length ≤ i := by
          rw [List.length_map]
          have := List.length_filter_le f (List.range i)
          rw [List.length_range] at this
          exact this
        exact sz' (by omega)
      · rw [List.range_succ, List.filter_append, List.filter_cons_of_pos hf, List.filter_nil, List.map_append]
        refine Prs.snoc (Prs.keep P fun u q e => ?_) ?_
        · have nu : u ≠ t := fun z => by rw [z, ht] at e; cases e
          have nD : u ≠ D := fun z => by
            rw [z] at e
            have := A'.get (p := D) List.mem_cons_self
            rw [e] at this
            cases this
          rw [upd_ne nD, upd_ne nu]
          exact e
        · rw [upd_ne ntD]
          exact upd_same) (fun H' ⟨xs, A', P⟩ => k D H' xs A' P)
/-- what pair a reference is to -/
def kfH (H : Hp) : V → Int × Int
  | .ref t => match H t with
    | some (.tup [.int a, .int b]) => (a, b)
    | _ => (0, 0)
  | _ => (0, 0)
theorem kfH_of {t : Addr} {a b : Int} (h : H t = some (.tup [.int a, .int b])) : kfH H (.ref t) = (a, b) := by simp only [kfH, h]
theorem Prs.of {ps : List (Int × Int)} (h : ∀ x ∈ xs, ∃ t, x = V.ref t ∧ H t = some (.tup [.int (kfH H x).1, .int (kfH H x).2])) (e : xs.map (kfH H) = ps) : Prs H xs ps := by
  subst e
  refine ⟨by rw [List.length_map], fun i q hq => ?_⟩
  rw [List.getElem?_map] at hq
  cases hx : xs[i]? with
  | none => rw [hx] at hq; cases hq
  | some x =>
    rw [hx] at hq
    obtain ⟨t, rfl, ht⟩ := h x (List.mem_of_getElem? hx)
    have : kfH H (.ref t) = q := Option.some.inj hq
    rw [this] at ht
    exact ⟨t, rfl, ht⟩
theorem Prs.kf {ps : List (Int × Int)} (P : Prs H xs ps) : (∀ x ∈ xs, ∃ t, x = V.ref t ∧ H t = some (.tup [.int (kfH H x).1, .int (kfH H x).2])) ∧ xs.map (kfH H) = ps := by
  constructor
  · intro x hx
    obtain ⟨i, hi, e⟩ := List.getElem_of_mem hx
    have hi2 : i < ps.length := by rw [← P.1]; exact hi
    obtain ⟨t, h1, h2⟩ := P.2 i (ps[i]'hi2) (List.getElem?_eq_getElem hi2)
    rw [List.getElem?_eq_getElem hi, e] at h1
    have : x = V.ref t := Option.some.inj h1
    subst this
    refine ⟨t, rfl, ?_⟩
    rw [kfH_of h2]
    exact h2
  · refine List.ext_getElem? fun i => ?_
    by_cases hi : i < ps.length
    · obtain ⟨t, h1, h2⟩ := P.2 i ps[i] (List.getElem?_eq_getElem hi)
      rw [List.getElem?_map, h1, List.getElem?_eq_getElem hi]
      show some (kfH H (.ref t)) = _
      rw [kfH_of h2]
    · rw [List.getElem?_eq_none (by rw [List.length_map, P.1]; omega), List.getElem?_eq_none (by omega)]
theorem r_sorted {ps : List (Int × Int)} (A : At H0 ((p, .lst xs) :: L) H) (P : Prs H xs ps)
    (k : ∀ ys qs q H', At H0 ((q, .lst ys) :: (p, .lst xs) :: L) H' → qs.Perm ps → qs.Pairwise (fun a b => a.1 ≤ b.1) → Prs H' ys qs → Q (.ref q) H') : rSortedPO K [.ref p] H Q := by
  obtain ⟨h1, h2⟩ := P.kf
  refine ⟨p, xs, kfH H, rfl, A.sqo List.mem_cons_self, h1, fun ys q hs hst hq => ?_⟩
  refine k ys (ys.map (kfH H)) q _ (A.alloc hq _) (by rw [← h2]; exact hst.perm.map _) ?_ ?_
  · refine List.pairwise_map.mpr (hs.imp fun {a b} hab => ?_)
    have := SrtO.lexB_no.mp hab
    omega
  · have hy : ∀ x ∈ ys, ∃ t, x = V.ref t ∧ H t = some (.tup [.int (kfH H x).1, .int (kfH H x).2]) := fun x hx => h1 x (hst.perm.mem_iff.mp hx)
    refine Prs.keep (Prs.of hy rfl) fun t r e => ?_
    rw [upd_ne (ne_of_none e hq)]
    exact e
theorem r_gTup2 {i j : Nat} {t : Addr} {u v : V} {QS : L2.St → Hp → Prop} (h : SqT K H t [u, v]) (k : QS ((σ.set i (some u)).set j (some v)) H) : gTup K 2 (gCons (gName i) (gCons (gName j) gNil)) (.ref t) σ H QS :=
  ⟨t, _, rfl, h, rfl, u, [v], rfl, v, [], rfl, rfl, k⟩
/-! over zip of two lists of ints -/
def zip1 (K : PySem.W.Frag) (vs : List V) (H1 : Hp) (R : It → Hp → Prop) : Prop := ∃ a b xs ys, vs = [.ref a, .ref b] ∧ SqL K H1 a xs ∧ SqL K H1 b ys ∧ R (Itz K a b) H1
theorem r_forZ {g : TG} {tb : TS} (k : tl σ H fun vs H1 => zip1 K vs H1 fun J H2 => forB J g tb D σ H2) : tFor (iZip K tl) g tb D σ H := k
theorem r_lcZ {g : TG} {vs : List Nat} (k : tl σ H fun us H1 => zip1 K us H1 fun J H2 => lcB J g tt te vs σ H2 Q) : tLc (iZip K tl) g tt te vs σ H Q := k
theorem r_zip1 {R : It → Hp → Prop} {ys : List V} (h : SqL K H p xs) (h2 : SqL K H q ys) (k : R (Itz K p q) H) : zip1 K [.ref p, .ref q] H R := ⟨p, q, xs, ys, rfl, h, h2, k⟩
theorem map_get_inv {ns : List Int} {i : Nat} {x : V} (h : (ns.map V.int)[i]? = some x) : ∃ z, ns[i]? = some z ∧ x = V.int z := by
  rw [List.getElem?_map] at h
  cases e : ns[i]? with
  | none => rw [e] at h; cases h
  | some z => rw [e] at h; exact ⟨z, rfl, (Option.some.inj h).symm⟩
theorem r_forItz {i1 j1 : Nat} {tb : TS} (ns ms : List Int) (hlen : ns.length = ms.length) (Pv : Nat → L2.St → Hp → Prop) (h0 : Pv 0 σ H) (hl : ∀ i σ H, Pv i σ H → SqL K H p (ns.map V.int) ∧ SqL K H q (ms.map V.int))
    (hs : ∀ i x y σ H t (N : L2.St → Hp → Prop), ns[i]? = some x → ms[i]? = some y → Pv i σ H → H t = none → (∀ σ' H', Pv (i + 1) σ' H' → N σ' H') → tb { D with nx := N, ct := N, bk := D.nx } ((σ.set i1 (some (V.int x))).set j1 (some (V.int y))) (upd H t (.tup [.int x, .int y])))
    (hd : ∀ σ H, Pv ns.length σ H → D.nx σ H) : forB (Itz K p q) (gTup K 2 (gCons (gName i1) (gCons (gName j1) gNil))) tb D σ H :=
  for_it (walk_zip (K := K) (a := p) (b := q) (xs := ns.map V.int) (ys := ms.map V.int) (n := ns.length) (by rw [List.length_map, List.length_map]; omega)) Pv h0 (fun i σ H _ pp => hl i σ H pp) (fun i v σ H H' hi pp hy => by
    obtain ⟨t, x0, y0, rfl, ht, rfl, hx0, hy0⟩ := hy
    obtain ⟨x, hx, rfl⟩ := map_get_inv hx0
    obtain ⟨y, hy, rfl⟩ := map_get_inv hy0
    refine r_gTup2 (SqT.of upd_same) ?_
    exact hs i x y σ H t _ hx hy pp ht fun _ _ z => z) hd
theorem zipWith_take_succ {f : Int → Int → Int} {ns ms : List Int} {i : Nat} {x y : Int} (hx : ns[i]? = some x) (hy : ms[i]? = some y) : (List.zipWith f ns ms).take (i + 1) = (List.zipWith f ns ms).take i ++ [f x y] := by
  rw [List.take_add_one, List.getElem?_zipWith, hx, hy]
  rfl
theorem r_lcZI {i1 j1 : Nat} {vs : List Nat} (f : Int → Int → Int) (ns ms : List Int) (hlen : ns.length = ms.length) (A : At H0 L H) (h1 : SqL K H0 p (ns.map V.int) ∨ (p, HO.lst (ns.map V.int)) ∈ L) (h2 : SqL K H0 q (ms.map V.int) ∨ (q, HO.lst (ms.map V.int)) ∈ L) (hn : ns.length < 10000000) (hw : ∀ x y, wipe (((wipe σ vs).set i1 (some x)).set j1 (some y)) vs = wipe σ vs)
    (hs : ∀ (i : Nat) (x y : Int) H' L' Q', ns[i]? = some x → ms[i]? = some y → At H0 (L' ++ L) H' → (∀ v H2, v = V.int (f x y) → At H0 (L' ++ L) H2 → Q' v H2) → te (((wipe σ vs).set i1 (some (.int x))).set j1 (some (.int y))) H' Q')
    (k : ∀ D H', At H0 ((D, .lst ((List.zipWith f ns ms).map V.int)) :: L) H' → Q (.ref D) H') : lcB (Itz K p q) (gTup K 2 (gCons (gName i1) (gCons (gName j1) gNil))) tYes te vs σ H Q := fun D hD =>
  lc_it (walk_zip (K := K) (a := p) (b := q) (xs := ns.map V.int) (ys := ms.map V.int) (n := ns.length) (by rw [List.length_map, List.length_map]; omega)) (fun i H' => At H0 ((D, .lst (((List.zipWith f ns ms).take i).map V.int)) :: L) H') (A.alloc hD _) (fun i H' _ A' => by
    refine ⟨?_, ?_⟩
    · rcases h1 with h | h
      · exact A'.sq h
      · exact A'.sqo (List.mem_cons_of_mem _ h)
    · rcases h2 with h | h
      · exact A'.sq h
      · exact A'.sqo (List.mem_cons_of_mem _ h)) (fun i v H' H2 hi A' hy => by
    obtain ⟨t, x0, y0, rfl, ht, rfl, hx0, hy0⟩ := hy
    obtain ⟨x, hx, rfl⟩ := map_get_inv hx0
    obtain ⟨y, hy, rfl⟩ := map_get_inv hy0
    refine r_gTup2 (SqT.of upd_same) ⟨hw _ _, ?_⟩
    have B := A'.alloc ht (.tup [.int x, .int y])
    refine hs i x y _ [(t, .tup [.int x, .int y]), (D, .lst (((List.zipWith f ns ms).take i).map V.int))] _ hx hy B fun v H3 e A3 => ?_
    subst e
    have C := A3.tl
    refine ⟨_, C.get List.mem_cons_self, ?_, ?_⟩
    · rw [List.length_map, List.length_take]
      exact sz' (by omega)
    · rw [zipWith_take_succ hx hy, List.map_append]
      exact C.put _) (fun H' A' => by
    rw [List.take_of_length_le (by rw [List.length_zipWith]; omega)] at A'
    exact k D H' A')
theorem ty_tuple (h : SqT K H p xs) : TyX K H (.ref p) (.type "tuple") := by
  rcases h with (h | ⟨o, h⟩) | ⟨o, its, n, h, hc, _⟩
  · exact .base (.tup h)
  · exact .fTuple h
  · exact .kTuple h hc
theorem r_isiT {b : Bool} {n : String} (hs : SqT K H p xs) (h : kitB "tuple" n = some b) (k : Q (.bl b) H) : rIsi K [.ref p, .ty n] H Q := ⟨_, _, _, _, b, rfl, .ty n, ty_tuple hs, kit_ty h, k⟩
theorem r_isiTT (hs : SqT K H p xs) (k : Q (.bl true) H) : rIsi K [.ref p, .ty "tuple"] H Q := r_isiT hs (by decide +kernel) k
theorem r_cut {Mid : L2.St → Hp → Prop} (h : t { D with nx := Mid } σ H) (k : ∀ σ' H', Mid σ' H' → u D σ' H') : Evl.tCut t u D σ H := ⟨Mid, h, k⟩
theorem rep_flat (z : Int) : ∀ n : Nat, (List.replicate n [V.int z]).flatten = (List.replicate n z).map V.int
  | 0 => rfl
  | n + 1 => by
    rw [List.replicate_succ, List.replicate_succ, List.flatten_cons, List.map_cons, rep_flat z n]
    rfl
theorem r_rep1 {z : Int} (A : At H0 L H) (h : H p = some (.lst [V.int z])) {n : Nat} (hi : i = (n : Int)) (hn : n ≤ 1000000) (k : ∀ l H', At H0 ((l, .lst ((List.replicate n z).map V.int)) :: L) H' → Q (.ref l) H') : rRep (.ref p) (.int i) H Q := by
  subst hi
  refine ⟨p, _, _, rfl, rfl, h, by omega, by omega, ?_, fun l hl => ?_⟩
  · show 1 * ((n : Int)).toNat ≤ sizeLine
    exact sz (by omega)
  · rw [Int.toNat_natCast, rep_flat]
    exact k l _ (A.alloc hl _)
theorem At.made2 {H0 H H' : Hp} {L : List (Addr × HO)} {p q : Addr} {o u : HO} (A : At H0 L H) (s : Same H H') (hp : H p = none) (hq : H q = none) (h1 : H' p = some o) (h2 : H' q = some u) (d : p ≠ q) : At H0 ((p, o) :: (q, u) :: L) H' :=
  At.more (At.made A s hq h2) (A.ex.free hp) h1 fun x hx => by
    rcases List.mem_cons.mp hx with rfl | hx
    · exact d.symm
    · exact ne_of_none (A.own x hx) hp
theorem At.bring {H0 H : Hp} {L1 L2 : List (Addr × HO)} {x : Addr × HO} (A : At H0 (L1 ++ x :: L2) H) : At H0 (x :: (L1 ++ L2)) H := A.perm List.perm_middle.symm
def bm0K (K : PySem.W.Frag) (T : String) (r : V → List V → Hp → VK → Prop) (x : V) (H : Hp) (Q : VK) : Prop := tyV K T x H ∧ r x [] H Q
theorem r_bm0 {T : String} {r : V → List V → Hp → VK → Prop} (k : ta σ H fun x H1 => bm0K K T r x H1 Q) : tBM0 K T r ta σ H Q := k
theorem r_bm0L {r : V → List V → Hp → VK → Prop} (h : SqL K H p xs) (k : r (.ref p) [] H Q) : bm0K K "list" r (.ref p) H Q := ⟨Or.inl ⟨rfl, _, h⟩, k⟩
theorem r_clear (A : At H0 ((p, .lst xs) :: L) H) (k : ∀ H', At H0 ((p, .lst []) :: L) H' → Q .non H') : rClear (.ref p) [] H Q := ⟨p, xs, rfl, rfl, A.get List.mem_cons_self, k _ (A.put _)⟩
theorem Same.hp {H H' : Hp} {p : Addr} {o : HO} (s : Same H H') (h : H p = some o) : H' p = some o := s _ _ h
theorem Same.st {H H' : Hp} {p : Addr} {xs : List V} (s : Same H H') (h : SqT K H p xs) : SqT K H' p xs := (At.nil H |>.same s).st h
end
end EB

/-! EvMath: lists of ints around a ring -/
namespace EM
open EB
theorem gz_mem {ns : List Int} {i : Int} (h0 : -(ns.length : Int) ≤ i) (h1 : i < ns.length) : gz ns i ∈ ns := by
  unfold gz
  by_cases h : 0 ≤ i
  · rw [if_pos h, List.getD_eq_getElem?_getD, List.getElem?_eq_getElem (show i.toNat < ns.length by omega)]
    exact List.getElem_mem _
  · rw [if_neg h, List.getD_eq_getElem?_getD, List.getElem?_eq_getElem (show (i + ns.length).toNat < ns.length by omega)]
    exact List.getElem_mem _
theorem map_app {α β : Type} (f : α → β) (l : List α) (x : α) : l.map f ++ [f x] = (l ++ [x]).map f := by simp
/-- what each gives more than comes in, around -/
def cyc (cs : List Int) : List Int := (List.range cs.length).map fun (k : Nat) => gz cs (k : Int) - gz cs ((k : Int) - 1)
theorem cyc_len (cs : List Int) : (cyc cs).length = cs.length := by unfold cyc; rw [List.length_map, List.length_range]
theorem sum_range_succ (f : Nat → Int) (n : Nat) : ((List.range (n + 1)).map f).sum = ((List.range n).map f).sum + f n := by
  rw [List.range_succ, List.map_append, List.sum_append]
  simp
/-- the ints by place: a function -/
def fz (ns : List Int) (k : Nat) : Int := ns.getD k 0
theorem gz_pred {cs : List Int} {k : Nat} : gz cs ((k : Int) - 1) = if k = 0 then fz cs (cs.length - 1) else fz cs (k - 1) := by
  unfold gz fz
  by_cases h : k = 0
  · subst h
    rw [if_pos rfl, if_neg (by omega)]
    congr 1
    omega
  · rw [if_neg h, if_pos (by omega)]
    congr 1
    omega
theorem cyc_sum (cs : List Int) (h : cs ≠ []) : (cyc cs).sum = 0 := by
  have key : ∀ n : Nat, 0 < n → ((List.range n).map fun (k : Nat) => gz cs (k : Int) - gz cs ((k : Int) - 1)).sum = fz cs (n - 1) - fz cs (cs.length - 1) := by
    intro n
    induction n with
    | zero => intro z; omega
    | succ n ih =>
      intro _
      rw [sum_range_succ]
      by_cases hn : n = 0
      · subst hn
        rw [gz_nat, gz_pred, if_pos rfl]
        simp [fz]
      · rw [ih (by omega), gz_nat, gz_pred, if_neg hn]
        simp only [fz, Nat.add_sub_cancel]
        omega
  unfold cyc
  rw [key cs.length (List.length_pos_iff.mpr h)]
  omega
theorem cyc_bound {cs : List Int} {b : Int} (hb : ∀ c ∈ cs, -b ≤ c ∧ c ≤ b) : ∀ x ∈ cyc cs, -(2 * b) ≤ x ∧ x ≤ 2 * b := by
  intro x hx
  unfold cyc at hx
  obtain ⟨k, hk, rfl⟩ := List.mem_map.mp hx
  have hk' := List.mem_range.mp hk
  have h1 := hb _ (gz_mem (ns := cs) (i := (k : Int)) (by omega) (by omega))
  have h2 := hb _ (gz_mem (ns := cs) (i := (k : Int) - 1) (by omega) (by omega))
  omega
theorem cyc_head {cs : List Int} (h : cs ≠ []) : (cyc cs).getD 0 0 = fz cs 0 - fz cs (cs.length - 1) := by
  have hl := List.length_pos_iff.mpr h
  unfold cyc
  rw [List.getD_eq_getElem?_getD, List.getElem?_map, List.getElem?_range hl]
  show gz cs ((0 : Nat) : Int) - gz cs (((0 : Nat) : Int) - 1) = _
  rw [gz_nat, gz_pred, if_pos rfl]
  rfl
/-- what a drawn ring is -/
structure Houses (n : Nat) (hs : List Int) : Prop where
  len : hs.length = n + 2
  sum : hs.sum = 0
  bd : ∀ x ∈ hs, -999998 ≤ x ∧ x ≤ 999998
  hd : -500000 ≤ hs.getD 0 0 ∧ hs.getD 0 0 ≤ 500000
theorem houses_of {n : Nat} {cs : List Int} (hl : cs.length = n + 2) (hb : ∀ c ∈ cs, -499999 ≤ c ∧ c ≤ 499999) (h0 : -1 ≤ fz cs 0 ∧ fz cs 0 ≤ 1) : Houses n (cyc cs) := by
  have hne : cs ≠ [] := fun e => by rw [e] at hl; simp at hl
  refine ⟨by rw [cyc_len, hl], cyc_sum cs hne, cyc_bound hb, ?_⟩
  rw [cyc_head hne]
  have : fz cs (cs.length - 1) ∈ cs := by
    unfold fz
    rw [List.getD_eq_getElem?_getD, List.getElem?_eq_getElem (show cs.length - 1 < cs.length by omega)]
    exact List.getElem_mem _
  have := hb _ this
  omega
theorem fz_app {cs : List Int} {x : Int} (h : cs ≠ []) : fz (cs ++ [x]) 0 = fz cs 0 := by
  cases cs with
  | nil => exact absurd rfl h
  | cons a r => rfl
theorem cyc_get {cs : List Int} {k : Nat} (h : k < cs.length) : (cyc cs)[k]? = some (gz cs (k : Int) - gz cs ((k : Int) - 1)) := by
  unfold cyc
  rw [List.getElem?_map, List.getElem?_range h]
  rfl
theorem all_cyc {cs hs : List Int} (hl : cs.length = hs.length) : (((List.range hs.length).map fun (k : Nat) => decide (gz cs (k : Int) - gz cs ((k : Int) - 1) = gz hs (k : Int))).all id) = decide (cyc cs = hs) := by
  rw [Bool.eq_iff_iff]
  rw [List.all_eq_true, decide_eq_true_eq]
  constructor
  · intro h
    refine List.ext_getElem? fun k => ?_
    by_cases hk : k < hs.length
    · rw [cyc_get (by omega)]
      have := h (decide (gz cs (k : Int) - gz cs ((k : Int) - 1) = gz hs (k : Int))) (List.mem_map.mpr ⟨k, List.mem_range.mpr hk, rfl⟩)
      have e := of_decide_eq_true this
      rw [e, gz_nat, List.getD_eq_getElem?_getD, List.getElem?_eq_getElem hk]
      rfl
    · rw [List.getElem?_eq_none (by rw [cyc_len]; omega), List.getElem?_eq_none (by omega)]
  · intro h b hb
    obtain ⟨k, hk, rfl⟩ := List.mem_map.mp hb
    have hk' := List.mem_range.mp hk
    have := cyc_get (cs := cs) (k := k) (by omega)
    rw [h, List.getElem?_eq_getElem hk'] at this
    refine decide_eq_true ?_
    rw [← Option.some.inj this, gz_nat, List.getD_eq_getElem?_getD, List.getElem?_eq_getElem hk']
    rfl
/-- the running sums -/
def runs (hs : List Int) : List Int := (List.range hs.length).map fun (k : Nat) => (hs.take (k + 1)).sum
theorem runs_len (hs : List Int) : (runs hs).length = hs.length := by unfold runs; rw [List.length_map, List.length_range]
theorem runs_get {hs : List Int} {k : Nat} (h : k < hs.length) : (runs hs)[k]? = some (hs.take (k + 1)).sum := by
  unfold runs
  rw [List.getElem?_map, List.getElem?_range h]
  rfl
theorem runs_take {hs : List Int} {i : Nat} {x : Int} (h : hs[i]? = some x) : (runs hs).take (i + 1) = (runs hs).take i ++ [(hs.take (i + 1)).sum] := by
  have hi : i < hs.length := (List.getElem?_eq_some_iff.mp h).1
  rw [List.take_add_one, runs_get hi]
  rfl
/-- the least and the greatest of a list -/
structure Ext (ns : List Int) (lo hi : Int) : Prop where
  lm : lo ∈ ns
  hm : hi ∈ ns
  bd : ∀ y ∈ ns, lo ≤ y ∧ y ≤ hi
theorem Ext.uniq {ns : List Int} {lo hi lo' hi' : Int} (a : Ext ns lo hi) (b : Ext ns lo' hi') : lo = lo' ∧ hi = hi' := by
  have h1 := a.bd _ b.lm
  have h2 := b.bd _ a.lm
  have h3 := a.bd _ b.hm
  have h4 := b.bd _ a.hm
  omega
theorem fz_get {ns : List Int} {k : Nat} (h : k < ns.length) : ns[k]? = some (fz ns k) := by
  unfold fz
  rw [List.getD_eq_getElem?_getD, List.getElem?_eq_getElem h]
  rfl
theorem fz_of {ns : List Int} {k : Nat} {x : Int} (h : ns[k]? = some x) : fz ns k = x := by
  unfold fz
  rw [List.getD_eq_getElem?_getD, h]
  rfl
theorem fz_map {f : Int → Int} {ns : List Int} {k : Nat} (h : k < ns.length) : fz (ns.map f) k = f (fz ns k) := by
  refine fz_of ?_
  rw [List.getElem?_map, fz_get h]
  rfl
theorem fz_runs {hs : List Int} {k : Nat} (h : k < hs.length) : fz (runs hs) k = (hs.take (k + 1)).sum := fz_of (runs_get h)
theorem sum_take_succ {hs : List Int} {k : Nat} (h : k < hs.length) : (hs.take (k + 1)).sum = (hs.take k).sum + fz hs k := by
  rw [List.take_add_one, fz_get h, List.sum_append]
  simp
theorem list_ext {xs ys : List Int} (hl : xs.length = ys.length) (h : ∀ k, k < xs.length → fz xs k = fz ys k) : xs = ys := by
  refine List.ext_getElem? fun k => ?_
  by_cases hk : k < xs.length
  · rw [fz_get hk, fz_get (by omega), h k hk]
  · rw [List.getElem?_eq_none (by omega), List.getElem?_eq_none (by omega)]
theorem fz_cyc {cs : List Int} {k : Nat} (h : k < cs.length) : fz (cyc cs) k = fz cs k - (if k = 0 then fz cs (cs.length - 1) else fz cs (k - 1)) := by
  rw [fz_of (cyc_get h), gz_nat, gz_pred]
  rfl
/-- the running sums, all less the same number, even a ring that has nothing in all -/
theorem cyc_runs {hs : List Int} (m : Int) (h0 : hs.sum = 0) : cyc ((runs hs).map fun r => r - m) = hs := by
  have hl : ((runs hs).map fun r => r - m).length = hs.length := by rw [List.length_map, runs_len]
  refine list_ext (by rw [cyc_len, hl]) fun k hk => ?_
  rw [cyc_len] at hk
  rw [fz_cyc hk, hl]
  have hrl := runs_len hs
  rw [fz_map (by omega), fz_runs (by omega)]
  by_cases h : k = 0
  · subst h
    rw [if_pos rfl, fz_map (by omega), fz_runs (by omega)]
    have e : hs.take (hs.length - 1 + 1) = hs := List.take_of_length_le (by omega)
    rw [e, h0, sum_take_succ (by omega)]
    simp
  · rw [if_neg h, fz_map (by omega), fz_runs (by omega), sum_take_succ (by omega)]
    rw [show k - 1 + 1 = k by omega]
    omega
theorem mid_ok {lo hi y most : Int} (h1 : lo ≤ y) (h2 : y ≤ hi) (h : hi - lo ≤ 2 * most) : ((y - (lo + hi) / 2).natAbs : Int) ≤ most := by omega
/-- what the houses on a stretch have together -/
def str (hs : List Int) (f m : Nat) : Int := (((hs ++ hs).drop f).take m).sum
theorem str_in {hs : List Int} {f m : Nat} (h : f + m ≤ hs.length) : str hs f m = (hs.take (f + m)).sum - (hs.take f).sum := by
  unfold str
  rw [List.drop_append_of_le_length (by omega), List.take_append_of_le_length (by rw [List.length_drop]; omega)]
  have : hs.take (f + m) = hs.take f ++ (hs.drop f).take m := by rw [List.take_add]
  rw [this, List.sum_append]
  omega
theorem str_cyc {hs : List Int} {f m : Nat} (hf : f < hs.length) (hm : m < hs.length) : str hs f m = ((List.range m).map fun (k : Nat) => gz hs (((f : Int) + (k : Int)) % (hs.length : Int))).sum := by
  unfold str
  congr 1
  refine list_ext ?_ fun k hk => ?_
  · rw [List.length_take, List.length_drop, List.length_append, List.length_map, List.length_range]
    omega
  · rw [List.length_take, List.length_drop, List.length_append] at hk
    have e1 : (((hs ++ hs).drop f).take m)[k]? = (hs ++ hs)[f + k]? := by
      rw [List.getElem?_take, if_pos (by omega), List.getElem?_drop]
    have e2 : fz ((List.range m).map fun (k : Nat) => gz hs (((f : Int) + (k : Int)) % (hs.length : Int))) k = gz hs (((f : Int) + (k : Int)) % (hs.length : Int)) := by
      refine fz_of ?_
      rw [List.getElem?_map, List.getElem?_range (by omega)]
      rfl
    rw [e2]
    by_cases h : f + k < hs.length
    · have e3 : ((f : Int) + (k : Int)) % (hs.length : Int) = ((f + k : Nat) : Int) := by rw [Int.emod_eq_of_lt (by omega) (by omega)]; omega
      rw [e3, gz_nat]
      rw [List.getElem?_append_left h] at e1
      exact fz_of (e1.trans (fz_get h))
    · have e3 : ((f : Int) + (k : Int)) % (hs.length : Int) = ((f + k - hs.length : Nat) : Int) := by
        rw [← Int.sub_emod_right, Int.emod_eq_of_lt (by omega) (by omega)]
        omega
      rw [e3, gz_nat]
      rw [List.getElem?_append_right (by omega)] at e1
      exact fz_of (e1.trans (fz_get (by omega)))
/-- whether a stretch shows what it tells -/
def strB (hs : List Int) (f m most : Int) : Bool := decide (hs.sum = 0) && decide (0 ≤ f ∧ f < hs.length) && decide (1 ≤ m ∧ m < hs.length) && decide (2 * most < ((str hs f.toNat m.toNat).natAbs : Int))
/-- two running sums far apart are a stretch -/
theorem str_runs {hs : List Int} {i j : Nat} {lo hi most : Int} (hm : 0 ≤ most) (hi' : (runs hs)[i]? = some lo) (hj : (runs hs)[j]? = some hi) (h : 2 * most < hi - lo) :
    0 ≤ min (i : Int) j + 1 ∧ min (i : Int) j + 1 < hs.length ∧ 1 ≤ (((i : Int) - j).natAbs : Int) ∧ (((i : Int) - j).natAbs : Int) < hs.length ∧ ((str hs (min (i : Int) j + 1).toNat ((i : Int) - j).natAbs).natAbs : Int) = hi - lo := by
  have hrl := runs_len hs
  have h1 : i < hs.length := by have := (List.getElem?_eq_some_iff.mp hi').1; omega
  have h2 : j < hs.length := by have := (List.getElem?_eq_some_iff.mp hj).1; omega
  have e1 : (hs.take (i + 1)).sum = lo := by rw [runs_get h1] at hi'; exact Option.some.inj hi'
  have e2 : (hs.take (j + 1)).sum = hi := by rw [runs_get h2] at hj; exact Option.some.inj hj
  have ne : i ≠ j := fun e => by subst e; omega
  refine ⟨by omega, by omega, by omega, by omega, ?_⟩
  rcases Nat.lt_or_gt_of_ne ne with hlt | hlt
  · have a1 : (min (i : Int) j + 1).toNat = i + 1 := by omega
    have a2 : ((i : Int) - j).natAbs = j - i := by omega
    rw [a1, a2, str_in (by omega), show i + 1 + (j - i) = j + 1 by omega, e1, e2]
    omega
  · have a1 : (min (i : Int) j + 1).toNat = j + 1 := by omega
    have a2 : ((i : Int) - j).natAbs = i - j := by omega
    rw [a1, a2, str_in (by omega), show j + 1 + (i - j) = i + 1 by omega, e1, e2]
    omega
theorem strB_true {hs : List Int} {f m most : Int} (h0 : hs.sum = 0) (hf : 0 ≤ f ∧ f < hs.length) (hm : 1 ≤ m ∧ m < hs.length) : strB hs f m most = decide (2 * most < ((str hs f.toNat m.toNat).natAbs : Int)) := by
  unfold strB
  rw [decide_eq_true h0, decide_eq_true hf, decide_eq_true hm]
  rfl
/-- a carrying changed at house 0 evens no more -/
theorem cyc_bent {cs hs : List Int} (hl : 2 ≤ cs.length) (h : cyc cs = hs) : cyc (cs.set 0 (fz cs 0 + 1)) ≠ hs := by
  intro e
  have e1 := fz_cyc (cs := cs) (k := 0) (by omega)
  have e2 := fz_cyc (cs := cs.set 0 (fz cs 0 + 1)) (k := 0) (by rw [List.length_set]; omega)
  rw [h] at e1
  rw [e, if_pos rfl, List.length_set] at e2
  rw [if_pos rfl] at e1
  have a1 : fz (cs.set 0 (fz cs 0 + 1)) 0 = fz cs 0 + 1 := fz_of (List.getElem?_set_self (by omega))
  have a2 : fz (cs.set 0 (fz cs 0 + 1)) (cs.length - 1) = fz cs (cs.length - 1) := by
    refine fz_of ?_
    rw [List.getElem?_set_ne (by omega)]
    exact fz_get (by omega)
  rw [a1, a2] at e2
  omega
/-- the greatest within a bound: all are -/
theorem max_all {ns : List Int} {m b : Int} (h1 : m ∈ ns) (h2 : ∀ y ∈ ns, y ≤ m) : decide (m ≤ b) = ns.all fun y => decide (y ≤ b) := by
  rw [Bool.eq_iff_iff, decide_eq_true_eq, List.all_eq_true]
  constructor
  · intro h y hy
    have := h2 y hy
    exact decide_eq_true (by omega)
  · intro h
    exact of_decide_eq_true (h m h1)
theorem all_map_id {α : Type} (l : List α) (g : α → Bool) : ((l.map g).all id) = l.all g := by rw [List.all_map]; rfl
open PySem L2 in
theorem cut_str {hs : List Int} {f m : Int} (h1 : 0 ≤ f) (h2 : f ≤ hs.length) (h3 : 0 ≤ m) (h4 : m < hs.length) : cutV (hs.map V.int ++ hs.map V.int) (some f) (some (f + m)) = (((hs ++ hs).drop f.toNat).take m.toNat).map V.int := by
  unfold cutV
  obtain ⟨a, rfl⟩ : ∃ a : Nat, f = a := ⟨f.toNat, by omega⟩
  obtain ⟨b, rfl⟩ : ∃ b : Nat, m = b := ⟨m.toNat, by omega⟩
  rw [show (a : Int) + (b : Int) = ((a + b : Nat) : Int) by omega]
  rw [HT.sIx_nat, HT.sIx_nat, List.length_append, List.length_map]
  rw [show min a (hs.length + hs.length) = a by omega, ← List.map_append]
  rw [List.map_take, List.map_drop]
  simp only [Int.toNat_natCast]
  rw [show min (a + b) (hs.length + hs.length) - a = b by omega]
end EM

/-! EvLeast: the middle of numbers with tolls, steps, prices -/
namespace EM
open EB
/-! ### sums over pairs -/
/-- the tolls of the pairs whose number is such -/
def ws (P : Int → Bool) (l : List (Int × Int)) : Int := (l.map fun p => if P p.1 then p.2 else 0).sum
theorem ws_nil (P : Int → Bool) : ws P [] = 0 := rfl
theorem ws_cons (P : Int → Bool) (p : Int × Int) (l : List (Int × Int)) : ws P (p :: l) = (if P p.1 then p.2 else 0) + ws P l := by
  unfold ws
  rw [List.map_cons, List.sum_cons]
theorem ws_append (P : Int → Bool) (l m : List (Int × Int)) : ws P (l ++ m) = ws P l + ws P m := by
  unfold ws
  rw [List.map_append, List.sum_append]
theorem sum_perm {l m : List Int} (h : l.Perm m) : l.sum = m.sum := by
  induction h with
  | nil => rfl
  | cons x _ ih => rw [List.sum_cons, List.sum_cons, ih]
  | swap x y l => rw [List.sum_cons, List.sum_cons, List.sum_cons, List.sum_cons]; omega
  | trans _ _ ih1 ih2 => rw [ih1, ih2]
theorem ws_perm (P : Int → Bool) {l m : List (Int × Int)} (h : l.Perm m) : ws P l = ws P m := sum_perm (h.map _)
theorem ws_nonneg (P : Int → Bool) {l : List (Int × Int)} (h : ∀ p ∈ l, 0 ≤ p.2) : 0 ≤ ws P l := by
  induction l with
  | nil => exact Int.le_refl 0
  | cons a r ih =>
    rw [ws_cons]
    have h1 := ih fun p hp => h p (List.mem_cons_of_mem _ hp)
    have h2 := h a List.mem_cons_self
    split <;> omega
theorem ws_zero (P : Int → Bool) {l : List (Int × Int)} (h : ∀ p ∈ l, P p.1 = false) : ws P l = 0 := by
  induction l with
  | nil => rfl
  | cons a r ih =>
    rw [ws_cons, ih fun p hp => h p (List.mem_cons_of_mem _ hp), h a List.mem_cons_self]
    rfl
theorem ws_mono {P R : Int → Bool} {l : List (Int × Int)} (h : ∀ p ∈ l, 0 ≤ p.2) (hpr : ∀ x, P x = true → R x = true) : ws P l ≤ ws R l := by
  induction l with
  | nil => exact Int.le_refl 0
  | cons a r ih =>
    rw [ws_cons, ws_cons]
    have h1 := ih fun p hp => h p (List.mem_cons_of_mem _ hp)
    have h2 := h a List.mem_cons_self
    cases hp : P a.1 with
    | true => rw [hpr _ hp]; simp; omega
    | false => cases hr : R a.1 <;> simp <;> omega
theorem ws_split (P R : Int → Bool) (l : List (Int × Int)) (h : ∀ x, P x = true → R x = true → False) : ws (fun x => P x || R x) l = ws P l + ws R l := by
  induction l with
  | nil => rfl
  | cons a r ih =>
    rw [ws_cons, ws_cons, ws_cons, ih]
    cases hp : P a.1 <;> cases hr : R a.1
    · simp
    · simp; omega
    · simp; omega
    · exact (h _ hp hr).elim
def all1 : Int → Bool := fun _ => true
def snd (l : List (Int × Int)) : Int := (l.map Prod.snd).sum
theorem ws_all (l : List (Int × Int)) : ws all1 l = snd l := by
  unfold ws snd all1
  simp
theorem snd_append (l m : List (Int × Int)) : snd (l ++ m) = snd l + snd m := by unfold snd; rw [List.map_append, List.sum_append]
theorem snd_take_succ {l : List (Int × Int)} {i : Nat} {p : Int × Int} (h : l[i]? = some p) : snd (l.take (i + 1)) = snd (l.take i) + p.2 := by
  rw [List.take_add_one, h, snd_append]
  simp [snd]
theorem snd_nonneg {l : List (Int × Int)} (h : ∀ p ∈ l, 0 ≤ p.2) : 0 ≤ snd l := by
  rw [← ws_all]
  exact ws_nonneg _ h
/-- m is such that less than half of all lies below it, and half or more up to it -/
structure Mid (l : List (Int × Int)) (m : Int) : Prop where
  lt : 2 * ws (fun x => decide (x < m)) l < snd l
  le : snd l ≤ 2 * ws (fun x => decide (x ≤ m)) l
structure MidH (l : List (Int × Int)) (m : Int) : Prop where
  lt : 2 * ws (fun x => decide (x < m)) l ≤ snd l
  le : snd l < 2 * ws (fun x => decide (x ≤ m)) l
theorem Mid.perm {l k : List (Int × Int)} {m : Int} (h : l.Perm k) (a : Mid l m) : Mid k m := by
  have e : snd l = snd k := by rw [← ws_all, ← ws_all, ws_perm _ h]
  exact ⟨by rw [← ws_perm _ h, ← e]; exact a.lt, by rw [← ws_perm _ h, ← e]; exact a.le⟩
theorem MidH.perm {l k : List (Int × Int)} {m : Int} (h : l.Perm k) (a : MidH l m) : MidH k m := by
  have e : snd l = snd k := by rw [← ws_all, ← ws_all, ws_perm _ h]
  exact ⟨by rw [← ws_perm _ h, ← e]; exact a.lt, by rw [← ws_perm _ h, ← e]; exact a.le⟩
theorem Mid.uniq {l : List (Int × Int)} {m m' : Int} (h : ∀ p ∈ l, 0 ≤ p.2) (a : Mid l m) (b : Mid l m') : m = m' := by
  have key : ∀ {m m'}, Mid l m → Mid l m' → ¬ m < m' := fun {m m'} a b hlt => by
    have h1 : ws (fun x => decide (x ≤ m)) l ≤ ws (fun x => decide (x < m')) l := ws_mono h fun x hx => by
      have := of_decide_eq_true hx
      exact decide_eq_true (by omega)
    have := a.le
    have := b.lt
    omega
  have h1 := key a b
  have h2 := key b a
  omega
theorem Mid.le_high {l : List (Int × Int)} {m m' : Int} (h : ∀ p ∈ l, 0 ≤ p.2) (a : Mid l m) (b : MidH l m') : m ≤ m' := by
  refine Int.not_lt.mp fun hlt => ?_
  have h1 : ws (fun x => decide (x ≤ m')) l ≤ ws (fun x => decide (x < m)) l := ws_mono h fun x hx => by
    have := of_decide_eq_true hx
    exact decide_eq_true (by omega)
  have := a.lt
  have := b.le
  omega
/-! ### sorted pairs -/
def Sorted (l : List (Int × Int)) : Prop := l.Pairwise fun a b => a.1 ≤ b.1
theorem sorted_at {l : List (Int × Int)} (h : Sorted l) {i j : Nat} {p q : Int × Int} (hp : l[i]? = some p) (hq : l[j]? = some q) (hij : i ≤ j) : p.1 ≤ q.1 := by
  rcases Nat.lt_or_eq_of_le hij with hlt | rfl
  · obtain ⟨h1, e1⟩ := List.getElem?_eq_some_iff.mp hp
    obtain ⟨h2, e2⟩ := List.getElem?_eq_some_iff.mp hq
    have := List.pairwise_iff_getElem.mp h i j h1 h2 hlt
    rw [e1, e2] at this
    exact this
  · rw [hp] at hq
    cases hq
    exact Int.le_refl _
theorem mem_take_at {l : List (Int × Int)} {n : Nat} {p : Int × Int} (h : p ∈ l.take n) : ∃ i, i < n ∧ l[i]? = some p := by
  obtain ⟨i, hi, e⟩ := List.getElem_of_mem h
  rw [List.length_take] at hi
  refine ⟨i, by omega, ?_⟩
  rw [← e, List.getElem_take, List.getElem?_eq_getElem]
theorem mem_drop_at {l : List (Int × Int)} {n : Nat} {p : Int × Int} (h : p ∈ l.drop n) : ∃ i, n ≤ i ∧ l[i]? = some p := by
  obtain ⟨i, hi, e⟩ := List.getElem_of_mem h
  rw [List.length_drop] at hi
  refine ⟨n + i, by omega, ?_⟩
  rw [← e, List.getElem_drop, List.getElem?_eq_getElem]
theorem below_le {l : List (Int × Int)} (hs : Sorted l) (h : ∀ p ∈ l, 0 ≤ p.2) {j : Nat} {p : Int × Int} (hp : l[j]? = some p) : ws (fun x => decide (x < p.1)) l ≤ snd (l.take j) := by
  have e : l = l.take j ++ l.drop j := (List.take_append_drop j l).symm
  have h1 : ws (fun x => decide (x < p.1)) l = ws (fun x => decide (x < p.1)) (l.take j) + ws (fun x => decide (x < p.1)) (l.drop j) := by
    rw [← ws_append, List.take_append_drop]
  have h2 : ws (fun x => decide (x < p.1)) (l.drop j) = 0 := ws_zero _ fun q hq => by
    obtain ⟨i, hi, hq'⟩ := mem_drop_at hq
    have := sorted_at hs hp hq' hi
    exact decide_eq_false (by omega)
  have h3 : ws (fun x => decide (x < p.1)) (l.take j) ≤ ws all1 (l.take j) := ws_mono (fun q hq => h q (List.mem_of_mem_take hq)) fun _ _ => rfl
  rw [ws_all] at h3
  omega
theorem upto_ge {l : List (Int × Int)} (hs : Sorted l) (h : ∀ p ∈ l, 0 ≤ p.2) {j : Nat} {p : Int × Int} (hp : l[j]? = some p) : snd (l.take (j + 1)) ≤ ws (fun x => decide (x ≤ p.1)) l := by
  have h1 : ws (fun x => decide (x ≤ p.1)) l = ws (fun x => decide (x ≤ p.1)) (l.take (j + 1)) + ws (fun x => decide (x ≤ p.1)) (l.drop (j + 1)) := by
    rw [← ws_append, List.take_append_drop]
  have h2 : 0 ≤ ws (fun x => decide (x ≤ p.1)) (l.drop (j + 1)) := ws_nonneg _ fun q hq => h q (List.mem_of_mem_drop hq)
  have h3 : ws all1 (l.take (j + 1)) ≤ ws (fun x => decide (x ≤ p.1)) (l.take (j + 1)) := by
    have e : ∀ k : List (Int × Int), (∀ q ∈ k, q.1 ≤ p.1) → ws all1 k = ws (fun x => decide (x ≤ p.1)) k := by
      intro k
      induction k with
      | nil => intro _; rfl
      | cons a r ih =>
        intro hk
        rw [ws_cons, ws_cons, ih fun q hq => hk q (List.mem_cons_of_mem _ hq), decide_eq_true (hk a List.mem_cons_self)]
        rfl
    refine Int.le_of_eq (e _ fun q hq => ?_)
    obtain ⟨i, hi, hq'⟩ := mem_take_at hq
    exact sorted_at hs hq' hp (by omega)
  rw [ws_all] at h3
  omega
/-- the loop's word: what low is behind i pairs -/
structure LowAt (l : List (Int × Int)) (i : Nat) (low : Int) : Prop where
  ex : i = 0 ∨ ∃ j p, j < i ∧ l[j]? = some p ∧ low = p.1 ∧ 2 * snd (l.take j) < snd l ∧ (j + 1 = i ∨ snd l ≤ 2 * snd (l.take (j + 1)))
structure HighAt (l : List (Int × Int)) (i : Nat) (high : Int) : Prop where
  ex : i = 0 ∨ ∃ j p, j < i ∧ l[j]? = some p ∧ high = p.1 ∧ 2 * snd (l.take j) ≤ snd l ∧ (j + 1 = i ∨ snd l < 2 * snd (l.take (j + 1)))
theorem LowAt.yes {l : List (Int × Int)} {i : Nat} {p : Int × Int} (hp : l[i]? = some p) (h : 2 * snd (l.take i) < snd l) : LowAt l (i + 1) p.1 := ⟨.inr ⟨i, p, by omega, hp, rfl, h, .inl rfl⟩⟩
theorem LowAt.no {l : List (Int × Int)} {i : Nat} {low : Int} (a : LowAt l i low) (hW : 0 < snd l) (h : ¬ 2 * snd (l.take i) < snd l) : LowAt l (i + 1) low := by
  rcases a.ex with rfl | ⟨j, p, h1, h2, h3, h4, h5⟩
  · exact (h (by simpa [snd] using hW)).elim
  · refine ⟨.inr ⟨j, p, by omega, h2, h3, h4, .inr ?_⟩⟩
    rcases h5 with rfl | h5
    · omega
    · exact h5
theorem HighAt.yes {l : List (Int × Int)} {i : Nat} {p : Int × Int} (hp : l[i]? = some p) (h : 2 * snd (l.take i) ≤ snd l) : HighAt l (i + 1) p.1 := ⟨.inr ⟨i, p, by omega, hp, rfl, h, .inl rfl⟩⟩
theorem HighAt.no {l : List (Int × Int)} {i : Nat} {high : Int} (a : HighAt l i high) (hW : 0 < snd l) (h : ¬ 2 * snd (l.take i) ≤ snd l) : HighAt l (i + 1) high := by
  rcases a.ex with rfl | ⟨j, p, h1, h2, h3, h4, h5⟩
  · exact (h (by simp [snd] at hW ⊢; omega)).elim
  · refine ⟨.inr ⟨j, p, by omega, h2, h3, h4, .inr ?_⟩⟩
    rcases h5 with rfl | h5
    · omega
    · exact h5
theorem LowAt.mid {l : List (Int × Int)} {low : Int} (hs : Sorted l) (h : ∀ p ∈ l, 0 ≤ p.2) (hn : 0 < l.length) (hW : 0 < snd l) (a : LowAt l l.length low) : Mid l low := by
  rcases a.ex with e | ⟨j, p, h1, h2, h3, h4, h5⟩
  · omega
  · subst h3
    have b1 := below_le hs h h2
    have b2 := upto_ge hs h h2
    refine ⟨by omega, ?_⟩
    rcases h5 with e | h5
    · rw [e, List.take_length] at b2
      omega
    · omega
theorem HighAt.mid {l : List (Int × Int)} {high : Int} (hs : Sorted l) (h : ∀ p ∈ l, 0 ≤ p.2) (hn : 0 < l.length) (hW : 0 < snd l) (a : HighAt l l.length high) : MidH l high := by
  rcases a.ex with e | ⟨j, p, h1, h2, h3, h4, h5⟩
  · omega
  · subst h3
    have b1 := below_le hs h h2
    have b2 := upto_ge hs h h2
    refine ⟨by omega, ?_⟩
    rcases h5 with e | h5
    · rw [e, List.take_length] at b2
      omega
    · omega
/-! ### numbers and tolls by place -/
def prs (S ts : List Int) : List (Int × Int) := (List.range S.length).map fun k => (fz S k, fz ts k)
def prsF (S ts : List Int) : List (Int × Int) := ((List.range S.length).filter fun k => decide (0 < fz ts k)).map fun k => (fz S k, fz ts k)
theorem ws_filter (P : Int → Bool) (f : Nat → Int × Int) (l : List Nat) (h : ∀ k ∈ l, 0 ≤ (f k).2) : ws P ((l.filter fun k => decide (0 < (f k).2)).map f) = ws P (l.map f) := by
  induction l with
  | nil => rfl
  | cons a r ih =>
    have ih' := ih fun k hk => h k (List.mem_cons_of_mem _ hk)
    have h0 := h a List.mem_cons_self
    rw [List.map_cons, ws_cons, ← ih']
    by_cases hp : 0 < (f a).2
    · rw [List.filter_cons_of_pos (by simpa using hp), List.map_cons, ws_cons]
    · rw [List.filter_cons_of_neg (by simpa using hp)]
      have : (f a).2 = 0 := by omega
      rw [this]
      simp
theorem fz_mem {ns : List Int} {k : Nat} (h : k < ns.length) : fz ns k ∈ ns := by
  unfold fz
  rw [List.getD_eq_getElem?_getD, List.getElem?_eq_getElem h]
  exact List.getElem_mem _
theorem ws_prsF (P : Int → Bool) {S ts : List Int} (hl : ts.length = S.length) (h : ∀ t ∈ ts, 0 ≤ t) : ws P (prsF S ts) = ws P (prs S ts) :=
  ws_filter P (fun k => (fz S k, fz ts k)) (List.range S.length) fun k hk => h _ (fz_mem (by have := List.mem_range.mp hk; omega))
theorem snd_prs {S ts : List Int} (hl : ts.length = S.length) : snd (prs S ts) = ts.sum := by
  unfold snd prs
  rw [List.map_map, ← hl]
  congr 1
  refine list_ext (by rw [List.length_map, List.length_range]) fun k hk => ?_
  rw [List.length_map, List.length_range] at hk
  refine fz_of ?_
  rw [List.getElem?_map, List.getElem?_range hk]
  rfl
theorem snd_prsF {S ts : List Int} (hl : ts.length = S.length) (h : ∀ t ∈ ts, 0 ≤ t) : snd (prsF S ts) = ts.sum := by
  rw [← ws_all, ws_prsF _ hl h, ws_all, snd_prs hl]
theorem prsF_pos {S ts : List Int} : ∀ p ∈ prsF S ts, 0 ≤ p.2 := by
  intro p hp
  obtain ⟨k, hk, rfl⟩ := List.mem_map.mp hp
  have := of_decide_eq_true (List.mem_filter.mp hk).2
  show 0 ≤ fz ts k
  omega
theorem prs_pos {S ts : List Int} (hl : ts.length = S.length) (h : ∀ t ∈ ts, 0 ≤ t) : ∀ p ∈ prs S ts, 0 ≤ p.2 := by
  intro p hp
  obtain ⟨k, hk, rfl⟩ := List.mem_map.mp hp
  exact h _ (fz_mem (by have := List.mem_range.mp hk; omega))
theorem mid_prs {S ts : List Int} {m : Int} (hl : ts.length = S.length) (h : ∀ t ∈ ts, 0 ≤ t) (a : Mid (prsF S ts) m) : Mid (prs S ts) m := by
  have h1 := a.lt
  have h2 := a.le
  rw [ws_prsF _ hl h, snd_prsF hl h] at h1 h2
  exact ⟨by rw [snd_prs hl]; exact h1, by rw [snd_prs hl]; exact h2⟩
theorem midH_prs {S ts : List Int} {m : Int} (hl : ts.length = S.length) (h : ∀ t ∈ ts, 0 ≤ t) (a : MidH (prsF S ts) m) : MidH (prs S ts) m := by
  have h1 := a.lt
  have h2 := a.le
  rw [ws_prsF _ hl h, snd_prsF hl h] at h1 h2
  exact ⟨by rw [snd_prs hl]; exact h1, by rw [snd_prs hl]; exact h2⟩
theorem sum_pos {ts : List Int} (h : ∀ t ∈ ts, 0 ≤ t) {t : Int} (ht : t ∈ ts) (hp : 0 < t) : 0 < ts.sum := by
  induction ts with
  | nil => exact nomatch ht
  | cons a r ih =>
    rw [List.sum_cons]
    have h0 := h a List.mem_cons_self
    have hr : 0 ≤ r.sum := by
      have : ∀ l : List Int, (∀ t ∈ l, 0 ≤ t) → 0 ≤ l.sum := by
        intro l
        induction l with
        | nil => intro _; exact Int.le_refl 0
        | cons a r ih =>
          intro h
          rw [List.sum_cons]
          have := ih fun t ht => h t (List.mem_cons_of_mem _ ht)
          have := h a List.mem_cons_self
          omega
      exact this r fun t ht => h t (List.mem_cons_of_mem _ ht)
    rcases List.mem_cons.mp ht with rfl | ht
    · omega
    · have := ih (fun t ht => h t (List.mem_cons_of_mem _ ht)) ht
      omega
/-! ### steps -/
def stp (c t : Int) : Int := if 0 < c then t else if c < 0 then -t else 0
structure StepsOk (cs ts ss : List Int) : Prop where
  len : ss.length = cs.length
  bd : ∀ k, k < cs.length → -fz ts k ≤ fz ss k ∧ fz ss k ≤ fz ts k
  pos : ∀ k, k < cs.length → 0 < fz cs k → fz ss k = fz ts k
  neg : ∀ k, k < cs.length → fz cs k < 0 → fz ss k = -fz ts k
  sum : ss.sum = 0
def steps0 (cs ts : List Int) : List Int := (List.range cs.length).map fun k => stp (fz cs k) (fz ts k)
theorem steps0_len (cs ts : List Int) : (steps0 cs ts).length = cs.length := by unfold steps0; rw [List.length_map, List.length_range]
theorem fz_steps0 {cs ts : List Int} {k : Nat} (h : k < cs.length) : fz (steps0 cs ts) k = stp (fz cs k) (fz ts k) := by
  refine fz_of ?_
  unfold steps0
  rw [List.getElem?_map, List.getElem?_range h]
  rfl
/-- the tolls at bridges with nothing over them, of the first i -/
def zpre (cs ts : List Int) (i : Nat) : Int := ((List.range i).map fun k => if fz cs k = 0 then fz ts k else 0).sum
theorem zpre_succ (cs ts : List Int) (i : Nat) : zpre cs ts (i + 1) = zpre cs ts i + (if fz cs i = 0 then fz ts i else 0) := sum_range_succ _ i
/-- what the greedy loop keeps -/
structure Fill (cs ts : List Int) (i : Nat) (ss : List Int) : Prop where
  len : ss.length = cs.length
  bd : ∀ k, k < cs.length → -fz ts k ≤ fz ss k ∧ fz ss k ≤ fz ts k
  pos : ∀ k, k < cs.length → 0 < fz cs k → fz ss k = fz ts k
  neg : ∀ k, k < cs.length → fz cs k < 0 → fz ss k = -fz ts k
  nil : ∀ k, i ≤ k → k < cs.length → fz cs k = 0 → fz ss k = 0
  lack : -(zpre cs ts cs.length - zpre cs ts i) ≤ ss.sum ∧ ss.sum ≤ zpre cs ts cs.length - zpre cs ts i
theorem Fill.done {cs ts ss : List Int} (a : Fill cs ts cs.length ss) : StepsOk cs ts ss := ⟨a.len, a.bd, a.pos, a.neg, by have := a.lack; omega⟩
theorem Fill.skip {cs ts ss : List Int} {i : Nat} (a : Fill cs ts i ss) (h : fz cs i ≠ 0) : Fill cs ts (i + 1) ss := by
  refine ⟨a.len, a.bd, a.pos, a.neg, fun k h1 h2 h3 => a.nil k (by omega) h2 h3, ?_⟩
  rw [zpre_succ, if_neg h, Int.add_zero]
  exact a.lack
theorem fz_set {l : List Int} {i k : Nat} {x : Int} (hi : i < l.length) (hk : k < l.length) : fz (l.set i x) k = if k = i then x else fz l k := by
  refine fz_of ?_
  by_cases h : k = i
  · subst h
    rw [if_pos rfl]
    exact List.getElem?_set_self hi
  · rw [if_neg h, List.getElem?_set_ne (fun e => h e.symm)]
    exact fz_get hk
theorem zpre_mono {cs ts : List Int} {n : Nat} (ht : ∀ k, k < n → 0 ≤ fz ts k) : ∀ {i : Nat}, i ≤ n → zpre cs ts i ≤ zpre cs ts n := by
  induction n with
  | zero => intro i hi; rw [Nat.le_zero.mp hi]; exact Int.le_refl _
  | succ n ih =>
    intro i hi
    rcases Nat.lt_or_eq_of_le hi with h | rfl
    · have h1 := ih (fun k hk => ht k (by omega)) (i := i) (by omega)
      have h2 := ht n (by omega)
      rw [zpre_succ]
      split <;> omega
    · exact Int.le_refl _
theorem Fill.fill {cs ts ss : List Int} {i : Nat} (a : Fill cs ts i ss) (hi : i < cs.length) (h : fz cs i = 0) (hts : ∀ k, k < cs.length → 0 ≤ fz ts k) :
    Fill cs ts (i + 1) (ss.set i (max (-fz ts i) (min (fz ts i) (-ss.sum)))) := by
  have hl := a.len
  have ht := hts i hi
  have hz : zpre cs ts (i + 1) ≤ zpre cs ts cs.length := zpre_mono hts (by omega)
  rw [zpre_succ, if_pos h] at hz
  have hs : (ss.set i (max (-fz ts i) (min (fz ts i) (-ss.sum)))).sum = ss.sum - fz ss i + max (-fz ts i) (min (fz ts i) (-ss.sum)) := L2.sum_set (fz_get (by omega))
  have h0 := a.nil i (Nat.le_refl i) hi h
  have hlk := a.lack
  refine ⟨by rw [List.length_set]; exact hl, fun k hk => ?_, fun k hk hp => ?_, fun k hk hp => ?_, fun k h1 hk hp => ?_, ?_⟩
  · rw [fz_set (by omega) (by omega)]
    split
    · rename_i e
      subst e
      omega
    · exact a.bd k hk
  · rw [fz_set (by omega) (by omega)]
    split
    · rename_i e
      subst e
      omega
    · exact a.pos k hk hp
  · rw [fz_set (by omega) (by omega)]
    split
    · rename_i e
      subst e
      omega
    · exact a.neg k hk hp
  · rw [fz_set (by omega) (by omega), if_neg (by omega)]
    exact a.nil k (by omega) hk hp
  · rw [hs, zpre_succ, if_pos h, h0]
    omega
/-- half of all tolls at most on either side -/
def Bal (cs ts : List Int) : Prop := -zpre cs ts cs.length ≤ (steps0 cs ts).sum ∧ (steps0 cs ts).sum ≤ zpre cs ts cs.length
theorem Bal.start {cs ts : List Int} (a : Bal cs ts) (hl : ts.length = cs.length) (h : ∀ t ∈ ts, 0 ≤ t) : Fill cs ts 0 (steps0 cs ts) := by
  have ht : ∀ k, k < cs.length → 0 ≤ fz ts k := fun k hk => h _ (fz_mem (by omega))
  refine ⟨steps0_len cs ts, fun k hk => ?_, fun k hk hp => ?_, fun k hk hp => ?_, fun k _ hk hp => ?_, ?_⟩
  · have := ht k hk
    rw [fz_steps0 hk]
    unfold stp
    split
    · omega
    · split <;> omega
  · rw [fz_steps0 hk]
    unfold stp
    rw [if_pos hp]
  · rw [fz_steps0 hk]
    unfold stp
    rw [if_neg (by omega), if_pos hp]
  · rw [fz_steps0 hk]
    unfold stp
    rw [if_neg (by omega), if_neg (by omega)]
  · have e : zpre cs ts 0 = 0 := rfl
    rw [e, Int.sub_zero]
    exact a
theorem map_sum_add (l : List Nat) (f g : Nat → Int) : (l.map fun k => f k + g k).sum = (l.map f).sum + (l.map g).sum := by
  induction l with
  | nil => rfl
  | cons a r ih => rw [List.map_cons, List.map_cons, List.map_cons, List.sum_cons, List.sum_cons, List.sum_cons, ih]; omega
theorem map_sum_congr {l : List Nat} {f g : Nat → Int} (h : ∀ k ∈ l, f k = g k) : (l.map f).sum = (l.map g).sum := by
  rw [List.map_congr_left h]
theorem map_sum_neg (l : List Nat) (f : Nat → Int) : (l.map fun k => -f k).sum = -(l.map f).sum := by
  induction l with
  | nil => rfl
  | cons a r ih => rw [List.map_cons, List.map_cons, List.sum_cons, List.sum_cons, ih]; omega
theorem ws_prs (P : Int → Bool) (S ts : List Int) : ws P (prs S ts) = ((List.range S.length).map fun k => if P (fz S k) then fz ts k else 0).sum := by
  unfold ws prs
  rw [List.map_map]
  rfl
/-- the numbers all less their middle, among these tolls -/
theorem bal_mid {S ts : List Int} {m : Int} (hl : ts.length = S.length) (a : Mid (prs S ts) m) : Bal (S.map fun r => r - m) ts := by
  have h1 := a.lt
  have h2 := a.le
  have hlen : (S.map fun r => r - m).length = S.length := List.length_map _
  have e1 : (steps0 (S.map fun r => r - m) ts).sum = ts.sum - ws (fun x => decide (x ≤ m)) (prs S ts) - ws (fun x => decide (x < m)) (prs S ts) := by
    rw [← snd_prs hl, ← ws_all, ws_prs, ws_prs, ws_prs]
    unfold steps0
    rw [hlen]
    have : ∀ l : List Nat, (∀ k ∈ l, k < S.length) → (l.map fun k => stp (fz (S.map fun r => r - m) k) (fz ts k)).sum = (l.map fun k => if all1 (fz S k) then fz ts k else 0).sum - (l.map fun k => if (fun x => decide (x ≤ m)) (fz S k) then fz ts k else 0).sum - (l.map fun k => if (fun x => decide (x < m)) (fz S k) then fz ts k else 0).sum := by
      intro l
      induction l with
      | nil => intro _; rfl
      | cons k r ih =>
        intro hk
        simp only [List.map_cons, List.sum_cons]
        rw [ih fun j hj => hk j (List.mem_cons_of_mem _ hj), fz_map (hk k List.mem_cons_self)]
        unfold stp all1
        simp only [decide_eq_true_eq, if_true]
        split
        · rw [if_neg (by omega), if_neg (by omega)]; omega
        · split
          · rw [if_pos (by omega), if_pos (by omega)]; omega
          · rw [if_pos (by omega), if_neg (by omega)]; omega
    exact this _ fun k hk => List.mem_range.mp hk
  have e2 : zpre (S.map fun r => r - m) ts S.length = ws (fun x => decide (x ≤ m)) (prs S ts) - ws (fun x => decide (x < m)) (prs S ts) := by
    rw [ws_prs, ws_prs]
    unfold zpre
    have : ∀ l : List Nat, (∀ k ∈ l, k < S.length) → (l.map fun k => if fz (S.map fun r => r - m) k = 0 then fz ts k else 0).sum = (l.map fun k => if (fun x => decide (x ≤ m)) (fz S k) then fz ts k else 0).sum - (l.map fun k => if (fun x => decide (x < m)) (fz S k) then fz ts k else 0).sum := by
      intro l
      induction l with
      | nil => intro _; rfl
      | cons k r ih =>
        intro hk
        simp only [List.map_cons, List.sum_cons]
        rw [ih fun j hj => hk j (List.mem_cons_of_mem _ hj), fz_map (hk k List.mem_cons_self)]
        simp only [decide_eq_true_eq]
        by_cases h0 : fz S k < m
        · rw [if_neg (by omega), if_pos (by omega), if_pos h0]; omega
        · by_cases h1 : fz S k = m
          · rw [if_pos (by omega), if_pos (by omega), if_neg h0]; omega
          · rw [if_neg (by omega), if_neg (by omega), if_neg h0]; omega
    exact this _ fun k hk => List.mem_range.mp hk
  rw [snd_prs hl] at h1 h2
  unfold Bal
  rw [hlen, e1, e2]
  omega
theorem map_sum_zero {l : List Nat} {f : Nat → Int} (h : ∀ k ∈ l, f k = 0) : (l.map f).sum = 0 := by
  induction l with
  | nil => rfl
  | cons a r ih => rw [List.map_cons, List.sum_cons, ih fun k hk => h k (List.mem_cons_of_mem _ hk), h a List.mem_cons_self]; rfl
/-- where all tolls are 0 -/
theorem bal_zero {cs ts : List Int} (hl : ts.length = cs.length) (h : ∀ t ∈ ts, t = 0) : Bal cs ts := by
  have ht : ∀ k, k < cs.length → fz ts k = 0 := fun k hk => h _ (fz_mem (by omega))
  have e1 : (steps0 cs ts).sum = 0 := map_sum_zero fun k hk => by
    rw [ht k (List.mem_range.mp hk)]
    unfold stp
    split
    · rfl
    · split <;> rfl
  have e2 : zpre cs ts cs.length = 0 := map_sum_zero fun k hk => by
    rw [ht k (List.mem_range.mp hk)]
    split <;> rfl
  unfold Bal
  omega
/-! ### prices -/
def pricesOf (ss : List Int) : List Int := (List.range ss.length).map fun k => -(ss.take k).sum
theorem pricesOf_len (ss : List Int) : (pricesOf ss).length = ss.length := by unfold pricesOf; rw [List.length_map, List.length_range]
theorem fz_prices {ss : List Int} {k : Nat} (h : k < ss.length) : fz (pricesOf ss) k = -(ss.take k).sum := by
  refine fz_of ?_
  unfold pricesOf
  rw [List.getElem?_map, List.getElem?_range h]
  rfl
theorem pricesOf_take_succ {ss : List Int} {k : Nat} (h : k < ss.length) : (pricesOf ss).take (k + 1) = (pricesOf ss).take k ++ [-(ss.take k).sum] := by
  rw [List.take_add_one, fz_get (by rw [pricesOf_len]; exact h), fz_prices h]
  rfl
open PySem L2 in
theorem cut_last (ss : List Int) : cutV (ss.map V.int) none (some (-1)) = (ss.take (ss.length - 1)).map V.int := by
  unfold cutV
  have e : HT.sIx (ss.map V.int).length (ss.map V.int).length (some (-1)) = ss.length - 1 := by
    show (if (-1 : Int) < 0 then ((-1 : Int) + ((ss.map V.int).length : Int)).toNat else min (-1 : Int).toNat (ss.map V.int).length) = _
    rw [if_pos (by decide), List.length_map]
    omega
  rw [e, HT.sIx_none, List.drop_zero, Nat.sub_zero, List.map_take]
theorem gz_last {ns : List Int} (h : 0 < ns.length) : gz ns (-1) = fz ns (ns.length - 1) := by
  unfold gz fz
  rw [if_neg (by decide)]
  congr 1
  omega
theorem sum_zero {l : List Int} (h : ∀ t ∈ l, t = 0) : l.sum = 0 := by
  induction l with
  | nil => rfl
  | cons a r ih => rw [List.sum_cons, ih fun t ht => h t (List.mem_cons_of_mem _ ht), h a List.mem_cons_self]; rfl
/-- what least tells of a ring that has nothing in all -/
structure LeastOk (hs ts cs ps : List Int) : Prop where
  ev : cyc cs = hs
  len : cs.length = hs.length
  pr : ∃ ss, StepsOk cs ts ss ∧ ps = pricesOf ss
  mid : 0 < ts.sum → ∃ lo, Mid (prs (runs hs) ts) lo ∧ cs = (runs hs).map fun r => r - lo
/-! ### the cost by what goes over the last bridge -/
def gcost (l : List (Int × Int)) (m : Int) : Int := (l.map fun p => p.2 * ((p.1 - m).natAbs : Int)).sum
theorem gcost_succ (l : List (Int × Int)) (m : Int) : gcost l (m + 1) - gcost l m = 2 * ws (fun x => decide (x ≤ m)) l - snd l := by
  induction l with
  | nil => rfl
  | cons a r ih =>
    have e1 : gcost (a :: r) (m + 1) = a.2 * ((a.1 - (m + 1)).natAbs : Int) + gcost r (m + 1) := by unfold gcost; rw [List.map_cons, List.sum_cons]
    have e2 : gcost (a :: r) m = a.2 * ((a.1 - m).natAbs : Int) + gcost r m := by unfold gcost; rw [List.map_cons, List.sum_cons]
    have e3 : snd (a :: r) = a.2 + snd r := by unfold snd; rw [List.map_cons, List.sum_cons]
    rw [e1, e2, e3, ws_cons]
    by_cases h : a.1 ≤ m
    · rw [if_pos (decide_eq_true h)]
      have e4 : ((a.1 - (m + 1)).natAbs : Int) = ((a.1 - m).natAbs : Int) + 1 := by omega
      rw [e4, Int.mul_add, Int.mul_one]
      omega
    · rw [if_neg (by simpa using h)]
      have e4 : ((a.1 - m).natAbs : Int) = ((a.1 - (m + 1)).natAbs : Int) + 1 := by omega
      rw [e4, Int.mul_add, Int.mul_one]
      omega
theorem gcost_flat {l : List (Int × Int)} (h : ∀ p ∈ l, 0 ≤ p.2) {lo hi : Int} (a : Mid l lo) (b : MidH l hi) : ∀ (n : Nat), lo + n ≤ hi → gcost l (lo + n) = gcost l lo
  | 0, _ => by rw [show lo + ((0 : Nat) : Int) = lo by omega]
  | n + 1, hn => by
    have ih := gcost_flat h a b n (by omega)
    have hs := gcost_succ l (lo + n)
    have h1 : ws (fun x => decide (x ≤ lo)) l ≤ ws (fun x => decide (x ≤ lo + n)) l := ws_mono h fun x hx => by
      have := of_decide_eq_true hx
      exact decide_eq_true (by omega)
    have h2 : ws (fun x => decide (x ≤ lo + n)) l ≤ ws (fun x => decide (x < hi)) l := ws_mono h fun x hx => by
      have := of_decide_eq_true hx
      exact decide_eq_true (by omega)
    have := a.le
    have := b.lt
    rw [show lo + ((n + 1 : Nat) : Int) = lo + n + 1 by omega]
    omega
theorem gcost_in {l : List (Int × Int)} (h : ∀ p ∈ l, 0 ≤ p.2) {lo hi m : Int} (a : Mid l lo) (b : MidH l hi) (h1 : lo ≤ m) (h2 : m ≤ hi) : gcost l m = gcost l lo := by
  have := gcost_flat h a b (m - lo).toNat (by omega)
  rw [show lo + ((m - lo).toNat : Int) = m by omega] at this
  exact this
theorem gcost_below {l : List (Int × Int)} {lo : Int} (a : Mid l lo) : gcost l lo < gcost l (lo - 1) := by
  have h := gcost_succ l (lo - 1)
  rw [show lo - 1 + 1 = lo by omega] at h
  have e : ws (fun x => decide (x ≤ lo - 1)) l = ws (fun x => decide (x < lo)) l := by
    congr 1
    funext x
    by_cases hx : x < lo
    · rw [decide_eq_true hx, decide_eq_true (by omega)]
    · rw [decide_eq_false hx, decide_eq_false (by omega)]
  have := a.lt
  omega
theorem gcost_above {l : List (Int × Int)} {hi : Int} (b : MidH l hi) : gcost l hi < gcost l (hi + 1) := by
  have h := gcost_succ l hi
  have := b.le
  omega
/-- the cost as the row's loop reckons it -/
def costAt (hs ts : List Int) (x : Int) : Int := ((List.range hs.length).map fun k => fz ts k * ((x + (hs.take (k + 1)).sum).natAbs : Int)).sum
theorem costAt_eq (hs ts : List Int) (m : Int) : costAt hs ts (-m) = gcost (prs (runs hs) ts) m := by
  unfold costAt gcost prs
  rw [List.map_map, runs_len]
  refine map_sum_congr fun k hk => ?_
  show _ = fz ts k * ((fz (runs hs) k - m).natAbs : Int)
  rw [fz_runs (List.mem_range.mp hk)]
  congr 3
  omega
/-! ### turned, put together -/
def rot (hs : List Int) (n : Nat) : List Int := hs.drop n ++ hs.take n
theorem rot_len (hs : List Int) (n : Nat) : (rot hs n).length = hs.length := by
  unfold rot
  rw [List.length_append, List.length_drop, List.length_take]
  omega
theorem rot_mem {hs : List Int} {n : Nat} {x : Int} (h : x ∈ rot hs n) : x ∈ hs := by
  rcases List.mem_append.mp h with h | h
  · exact List.mem_of_mem_drop h
  · exact List.mem_of_mem_take h
theorem rot_zero (hs : List Int) : rot hs 0 = hs := by unfold rot; simp
theorem rot_rot {hs : List Int} {n : Nat} (h : n ≤ hs.length) : rot (rot hs n) (hs.length - n) = hs := by
  unfold rot
  have e : (hs.drop n).length = hs.length - n := List.length_drop
  rw [List.drop_append_of_le_length (by omega), List.take_append_of_le_length (by omega), ← e, List.drop_length, List.take_length, List.nil_append, List.take_append_drop]
theorem rot_back {hs : List Int} (b : Int) (h : 0 < hs.length) : rot (rot hs (b % (hs.length : Int)).toNat) ((-b) % (hs.length : Int)).toNat = hs := by
  have m0 : 0 ≤ b % (hs.length : Int) := Int.emod_nonneg _ (by omega)
  have m1 : b % (hs.length : Int) < hs.length := Int.emod_lt_of_pos _ (by omega)
  have n0 : 0 ≤ (-b) % (hs.length : Int) := Int.emod_nonneg _ (by omega)
  have n1 : (-b) % (hs.length : Int) < hs.length := Int.emod_lt_of_pos _ (by omega)
  have e : (b % (hs.length : Int) + (-b) % (hs.length : Int)) % (hs.length : Int) = 0 := by
    rw [← Int.add_emod, Int.add_right_neg, Int.zero_emod]
  by_cases hz : b % (hs.length : Int) = 0
  · rw [hz, Int.zero_add, Int.emod_eq_of_lt n0 n1] at e
    rw [hz, e]
    show rot (rot hs 0) 0 = hs
    rw [rot_zero, rot_zero]
  · have hs2 : b % (hs.length : Int) + (-b) % (hs.length : Int) = hs.length := by
      have hd : (hs.length : Int) ∣ b % (hs.length : Int) + (-b) % (hs.length : Int) := Int.dvd_of_emod_eq_zero e
      obtain ⟨c, hc⟩ := hd
      have hnn : (0 : Int) ≤ (hs.length : Int) := by omega
      have c1 : 0 < c := by
        refine Int.not_le.mp fun hc0 => ?_
        have := Int.mul_le_mul_of_nonneg_left hc0 hnn
        rw [Int.mul_zero] at this
        omega
      have c2 : c < 2 := by
        refine Int.not_le.mp fun hc0 => ?_
        have := Int.mul_le_mul_of_nonneg_left hc0 hnn
        omega
      have : c = 1 := by omega
      rw [hc, this, Int.mul_one]
    have e2 : ((-b) % (hs.length : Int)).toNat = hs.length - (b % (hs.length : Int)).toNat := by omega
    rw [e2]
    exact rot_rot (by omega)
open PySem L2 in
theorem cut_from (hs : List Int) (n : Nat) : cutV (hs.map V.int) (some (n : Int)) none = (hs.drop n).map V.int := by
  unfold cutV
  rw [HT.sIx_nat, HT.sIx_none, List.length_map, ← List.map_drop, ← List.map_take]
  congr 1
  by_cases h : n ≤ hs.length
  · rw [Nat.min_eq_left h]
    exact List.take_of_length_le (by rw [List.length_drop]; omega)
  · rw [Nat.min_eq_right (by omega), List.drop_of_length_le (by omega), List.drop_of_length_le (by omega)]
    simp
open PySem L2 in
theorem cut_to (hs : List Int) (n : Nat) : cutV (hs.map V.int) none (some (n : Int)) = (hs.take n).map V.int := by
  unfold cutV
  rw [HT.sIx_nat, HT.sIx_none, List.length_map, List.drop_zero, Nat.sub_zero, ← List.map_take]
  congr 1
  by_cases h : n ≤ hs.length
  · rw [Nat.min_eq_left h]
  · rw [Nat.min_eq_right (by omega), List.take_of_length_le (by omega), List.take_of_length_le (by omega)]
theorem zip_gz {hs ms : List Int} (hl : ms.length = hs.length) : ((List.range hs.length).map fun (k : Nat) => gz hs (k : Int) + gz ms (k : Int)) = List.zipWith (fun a b => a + b) hs ms := by
  refine list_ext (by rw [List.length_map, List.length_range, List.length_zipWith]; omega) fun k hk => ?_
  rw [List.length_map, List.length_range] at hk
  have e1 : fz ((List.range hs.length).map fun (k : Nat) => gz hs (k : Int) + gz ms (k : Int)) k = gz hs (k : Int) + gz ms (k : Int) := by
    refine fz_of ?_
    rw [List.getElem?_map, List.getElem?_range hk]
    rfl
  have e2 : fz (List.zipWith (fun a b => a + b) hs ms) k = fz hs k + fz ms k := by
    refine fz_of ?_
    rw [List.getElem?_zipWith, fz_get hk, fz_get (by omega)]
  rw [e1, e2, gz_nat, gz_nat]
  rfl
theorem fz_zip {hs ms : List Int} {k : Nat} (h1 : k < hs.length) (h2 : k < ms.length) : fz (List.zipWith (fun a b => a + b) hs ms) k = fz hs k + fz ms k := by
  refine fz_of ?_
  rw [List.getElem?_zipWith, fz_get h1, fz_get h2]
theorem cyc_zip {cs ds : List Int} (hl : ds.length = cs.length) : cyc (List.zipWith (fun a b => a + b) cs ds) = List.zipWith (fun a b => a + b) (cyc cs) (cyc ds) := by
  have hz : (List.zipWith (fun a b => a + b) cs ds).length = cs.length := by rw [List.length_zipWith]; omega
  refine list_ext (by rw [cyc_len, hz, List.length_zipWith, cyc_len, cyc_len]; omega) fun k hk => ?_
  rw [cyc_len, hz] at hk
  have e1 := fz_cyc (cs := List.zipWith (fun a b => a + b) cs ds) (k := k) (by omega)
  rw [hz] at e1
  have e2 := fz_zip (hs := cyc cs) (ms := cyc ds) (k := k) (by rw [cyc_len]; omega) (by rw [cyc_len]; omega)
  have e3 := fz_cyc (cs := cs) (k := k) (by omega)
  have e4 := fz_cyc (cs := ds) (k := k) (by omega)
  have e5 := fz_zip (hs := cs) (ms := ds) (k := k) (by omega) (by omega)
  have e6 := fz_zip (hs := cs) (ms := ds) (k := cs.length - 1) (by omega) (by omega)
  have e7 := fz_zip (hs := cs) (ms := ds) (k := k - 1) (by omega) (by omega)
  rw [e1, e2, e3, e4, e5, e6, e7, hl]
  split <;> omega
theorem sum_zip {hs ms : List Int} (hl : ms.length = hs.length) : (List.zipWith (fun a b => a + b) hs ms).sum = hs.sum + ms.sum := by
  induction hs generalizing ms with
  | nil => cases ms with
    | nil => rfl
    | cons b r => simp at hl
  | cons a r ih => cases ms with
    | nil => simp at hl
    | cons b q =>
      rw [List.zipWith_cons_cons, List.sum_cons, List.sum_cons, List.sum_cons, ih (by simpa using hl)]
      omega
theorem zip_comm (hs ms : List Int) : List.zipWith (fun a b => a + b) ms hs = List.zipWith (fun a b => a + b) hs ms := by
  induction hs generalizing ms with
  | nil => cases ms <;> rfl
  | cons a r ih => cases ms with
    | nil => rfl
    | cons b q => rw [List.zipWith_cons_cons, List.zipWith_cons_cons, ih, Int.add_comm]
/-! ### whether prices show that a carrying costs least -/
def dot (ps hs : List Int) : Int := (List.zipWith (fun p h => p * h) ps hs).sum
def cost (ts cs : List Int) : Int := (List.zipWith (fun t c => t * (c.natAbs : Int)) ts cs).sum
def stepB (ts ps : List Int) : Bool := (List.range ps.length).all fun (k : Nat) => decide (((gz ps (k : Int) - gz ps ((k : Int) - 1)).natAbs : Int) ≤ gz ts ((k : Int) - 1))
def pricedB (hs ts cs ps : List Int) : Bool := stepB ts ps && decide (dot ps hs = cost ts cs)
def showB (hs ts cs ps : List Int) : Bool := decide (cyc cs = hs) && (decide (ps.length = hs.length) && (decide (ts.length = hs.length) && pricedB hs ts cs ps))
theorem stepB_iff {ts ps : List Int} : stepB ts ps = true ↔ ∀ k, k < ps.length → ((gz ps (k : Int) - gz ps ((k : Int) - 1)).natAbs : Int) ≤ gz ts ((k : Int) - 1) := by
  unfold stepB
  rw [List.all_eq_true]
  exact ⟨fun h k hk => of_decide_eq_true (h k (List.mem_range.mpr hk)), fun h k hk => decide_eq_true (h k (List.mem_range.mp hk))⟩
theorem stepB_no {ts ps : List Int} {k : Nat} (hk : k < ps.length) (h : ¬ ((gz ps (k : Int) - gz ps ((k : Int) - 1)).natAbs : Int) ≤ gz ts ((k : Int) - 1)) : stepB ts ps = false := by
  cases e : stepB ts ps with
  | false => rfl
  | true => exact (h (stepB_iff.mp e k hk)).elim
theorem gz_neg {ns : List Int} {k n : Nat} (h : ns.length = n) (hk : k < n) : gz ns ((k : Int) + 1 - (n : Int)) = fz ns (if k + 1 = n then 0 else k + 1) := by
  unfold gz fz
  by_cases e : k + 1 = n
  · rw [if_pos e, if_pos (by omega)]
    congr 1
    omega
  · rw [if_neg e, if_neg (by omega)]
    congr 1
    omega
/-- the same, house by house the other way -/
theorem stepB_next {ts ps : List Int} {n : Nat} (h1 : ps.length = n) (h2 : ts.length = n) : stepB ts ps = true ↔ ∀ k, k < n → ((gz ps (k : Int) - gz ps ((k : Int) + 1 - (n : Int))).natAbs : Int) ≤ gz ts (k : Int) := by
  rw [stepB_iff]
  constructor
  · intro h k hk
    rw [gz_neg h1 hk, gz_nat, gz_nat]
    by_cases e : k + 1 = n
    · have := h 0 (by omega)
      rw [gz_pred, gz_pred, gz_nat, if_pos rfl, if_pos rfl, h1, h2] at this
      rw [if_pos e, show k = n - 1 by omega]
      simp only [fz] at this ⊢
      omega
    · have := h (k + 1) (by omega)
      rw [gz_pred, gz_pred, gz_nat, if_neg (by omega), if_neg (by omega), Nat.add_sub_cancel] at this
      rw [if_neg e]
      simp only [fz] at this ⊢
      omega
  · intro h k hk
    rw [gz_pred, gz_pred, gz_nat]
    by_cases e : k = 0
    · have := h (n - 1) (by omega)
      rw [gz_neg h1 (by omega), gz_nat, gz_nat, if_pos (by omega)] at this
      rw [if_pos e, if_pos e, h1, h2, e]
      simp only [fz] at this ⊢
      omega
    · have := h (k - 1) (by omega)
      rw [gz_neg h1 (by omega), gz_nat, gz_nat, if_neg (by omega), show k - 1 + 1 = k by omega] at this
      rw [if_neg e, if_neg e]
      simp only [fz] at this ⊢
      omega
theorem zip_range {f : Int → Int → Int} {xs ys : List Int} {n : Nat} (h1 : xs.length = n) (h2 : ys.length = n) : List.zipWith f xs ys = (List.range n).map fun k => f (fz xs k) (fz ys k) := by
  refine List.ext_getElem? fun k => ?_
  by_cases hk : k < n
  · rw [List.getElem?_zipWith, fz_get (by omega), fz_get (by omega), List.getElem?_map, List.getElem?_range hk]
    rfl
  · rw [List.getElem?_eq_none (by rw [List.length_zipWith]; omega), List.getElem?_eq_none (by rw [List.length_map, List.length_range]; omega)]
theorem dot_range {ps hs : List Int} {n : Nat} (h1 : ps.length = n) (h2 : hs.length = n) : ((List.range n).map fun (k : Nat) => gz ps (k : Int) * gz hs (k : Int)).sum = dot ps hs := by
  unfold dot
  rw [zip_range h1 h2]
  refine map_sum_congr fun k _ => ?_
  rw [gz_nat, gz_nat]
  rfl
theorem cost_range {ts cs : List Int} {n : Nat} (h1 : ts.length = n) (h2 : cs.length = n) : ((List.range n).map fun (k : Nat) => gz ts (k : Int) * ((gz cs (k : Int)).natAbs : Int)).sum = cost ts cs := by
  unfold cost
  rw [zip_range h1 h2]
  refine map_sum_congr fun k _ => ?_
  rw [gz_nat, gz_nat]
  rfl
/-- summed by parts -/
theorem by_parts (c : Nat → Int) (d : Int) (S : Nat → Int) (h0 : S 0 = 0) : ∀ m : Nat, ((List.range m).map fun k => -(S k) * (c k - (if k = 0 then d else c (k - 1)))).sum = ((List.range m).map fun k => c k * (S (k + 1) - S k)).sum - (if m = 0 then d else c (m - 1)) * S m
  | 0 => by rw [h0]; simp
  | m + 1 => by
    have e1 : (if m + 1 = 0 then d else c (m + 1 - 1)) = c m := if_neg (Nat.succ_ne_zero m)
    rw [sum_range_succ, sum_range_succ, by_parts c d S h0 m, e1]
    generalize (if m = 0 then d else c (m - 1)) = e
    rw [Int.mul_sub, Int.mul_sub, Int.neg_mul, Int.neg_mul, Int.mul_comm (S m) (c m), Int.mul_comm (S m) e]
    omega
theorem priced_ok {hs ts cs ss : List Int} (h : StepsOk cs ts ss) (he : cyc cs = hs) (hl : ts.length = cs.length) (hn : 0 < cs.length) : pricedB hs ts cs (pricesOf ss) = true := by
  have hsl := h.len
  have hpl := pricesOf_len ss
  have hhl : hs.length = cs.length := by rw [← he, cyc_len]
  unfold pricedB
  rw [Bool.and_eq_true]
  constructor
  · rw [stepB_iff]
    intro k hk
    rw [hpl, hsl] at hk
    rw [gz_pred, gz_pred, gz_nat]
    have e0 : (pricesOf ss).getD k 0 = fz (pricesOf ss) k := rfl
    rw [e0, fz_prices (by omega)]
    by_cases e : k = 0
    · rw [if_pos e, if_pos e, fz_prices (by omega), hpl, e]
      have h1 := sum_take_succ (hs := ss) (k := ss.length - 1) (by omega)
      rw [show ss.length - 1 + 1 = ss.length by omega, List.take_length, h.sum] at h1
      have h2 := h.bd (ss.length - 1) (by omega)
      rw [show ts.length - 1 = ss.length - 1 by omega]
      have h3 : (ss.take 0).sum = 0 := rfl
      rw [h3]
      omega
    · rw [if_neg e, if_neg e, fz_prices (by omega)]
      have h1 := sum_take_succ (hs := ss) (k := k - 1) (by omega)
      rw [show k - 1 + 1 = k by omega] at h1
      have h2 := h.bd (k - 1) (by omega)
      omega
  · refine decide_eq_true ?_
    unfold dot cost
    rw [zip_range (n := cs.length) (by omega) hhl, zip_range (n := cs.length) hl rfl]
    have e1 : ((List.range cs.length).map fun k => fz (pricesOf ss) k * fz hs k).sum = ((List.range cs.length).map fun k => -((ss.take k).sum) * (fz cs k - (if k = 0 then fz cs (cs.length - 1) else fz cs (k - 1)))).sum := by
      refine map_sum_congr fun k hk => ?_
      have hk' := List.mem_range.mp hk
      rw [fz_prices (by omega), ← he, fz_cyc hk']
    rw [e1, by_parts (fun k => fz cs k) (fz cs (cs.length - 1)) (fun k => (ss.take k).sum) rfl]
    have e2 : (ss.take cs.length).sum = 0 := by rw [← hsl, List.take_length, h.sum]
    rw [e2, Int.mul_zero, Int.sub_zero]
    refine map_sum_congr fun k hk => ?_
    have hk' := List.mem_range.mp hk
    show fz cs k * ((ss.take (k + 1)).sum - (ss.take k).sum) = fz ts k * ((fz cs k).natAbs : Int)
    rw [sum_take_succ (by omega), show (ss.take k).sum + fz ss k - (ss.take k).sum = fz ss k by omega]
    rcases Int.lt_trichotomy (fz cs k) 0 with hc | hc | hc
    · rw [h.neg k hk' hc, show ((fz cs k).natAbs : Int) = -fz cs k by omega, Int.mul_comm, Int.neg_mul_comm]
    · rw [hc]
      simp
    · rw [h.pos k hk' hc, show ((fz cs k).natAbs : Int) = fz cs k by omega, Int.mul_comm]
theorem LeastOk.priced {hs ts cs ps : List Int} (a : LeastOk hs ts cs ps) (hl : ts.length = hs.length) (hn : 0 < hs.length) : pricedB hs ts cs ps = true := by
  obtain ⟨ss, h, rfl⟩ := a.pr
  have := a.len
  exact priced_ok h a.ev (by omega) (by omega)
theorem LeastOk.plen {hs ts cs ps : List Int} (a : LeastOk hs ts cs ps) : ps.length = hs.length := by
  obtain ⟨ss, h, rfl⟩ := a.pr
  rw [pricesOf_len, h.len, a.len]
theorem showB_of {hs ts cs ps : List Int} (h1 : cyc cs = hs) (h2 : ps.length = hs.length) (h3 : ts.length = hs.length) : showB hs ts cs ps = pricedB hs ts cs ps := by
  unfold showB
  rw [decide_eq_true h1, decide_eq_true h2, decide_eq_true h3]
  rfl
theorem rot_sum (hs : List Int) (n : Nat) : (rot hs n).sum = hs.sum := by
  unfold rot
  rw [List.sum_append, Int.add_comm, ← List.sum_append, List.take_append_drop]
end EM

/-! EvErr: a caught error handed to another def, which asks its class; C.__init__(self, ..) of an own class C; a local name's def, called where an error is caught (for law k07) -/
namespace EE
open PySem PySem.Spec PyProof.Rows L2
/-- a def that is handed the error at p: called in an except suite -/
structure FnP (P : Program) (w : World) (K : PySem.W.Frag) (mg : Str → Option Value) (base : Heap) (p : Addr × Obj) (k : Nat) (f : Addr) (fd : FuncData) (ps : List Str) (sp : Sp) : Prop where
  len : ∀ vs H Q E, sp vs H Q E → vs.length = ps.length
  run : ∀ (A : Around) (outer : List Env) (s : Shared) (H : Hp) (args : Args) (us : List Value) (vs : List V) (Q : VK) (E : XK), L2H.RoomH k A → L2H.PinOk outer H s p → Env0 P w K mg base A outer s H → BindsTo s fd args (ps.zip us) → Vals vs us → sp vs H Q E →
    codeAny (model P w) A (.call (.ref f) args) (CR CX0 outer P w H s Q E) s
theorem okP {P : Program} {w : World} {K : PySem.W.Frag} {mg : Str → Option Value} {base : Heap} {p : Addr × Obj} {x qual : Str} {st : Stmt} {f : Addr} {fd : FuncData} {N ps : List Str} {k : Nat} {sp : Sp} (F : Fun K x qual st f fd) (S : FnScope N ps (defScope st)) (len : ∀ vs H Q E, sp vs H Q E → vs.length = ps.length)
    (hbody : ∀ (cdv : Value) (A : Around) (outer : List Env) (s : Shared) (H : Hp) (vs : List V) (Q : VK) (E : XK), L2H.RoomH k (A.deeper (envOfC qual (defScope st) s.heap.objs.size f cdv)) → sp vs H Q E →
      ∃ t, PSs (L2H.cxH CX0 P w K mg base N qual (defScope st) f cdv A outer s H E p) (defBody st) t ∧ t { nx := fun _ H' => Q .non H', rt := Q } (L2.start N vs) H) : FnP P w K mg base p (k + 1) f fd ps sp := by
  obtain ⟨_, _, _, _, _, _, cdv, _, _, rfl, lk, hcd⟩ := F.ex
  refine ⟨len, fun A outer s H args us vs Q E hr pin e0 hb r hsp => ?_⟩
  have keep : ∀ b o, base.get? b = some o → s.heap.get? b = some o := fun b o e => (e0.bs b o e).1
  have KX : K.In s.heap := e0.mod.kin.keeps keep
  refine codeAny_call_function hr.depth (KX _ _ lk) rfl S.co S.gen rfl (PySem.W.codeRec_of KX hcd) (hb _ _ _ _ (wpAny_newFunctionEnv_cells S.kind (fun y hy => ?_) fun env he s1 x => ?_))
  · exact (S.par y.1 (List.of_mem_zip hy).1).imp id fun q => ⟨q, PySem.W.cellsFrom_some _ _ _ (.inl q)⟩
  · subst he
    obtain ⟨t, ht, hq⟩ := hbody cdv A outer s H vs Q E (hr.deeper _) hsp
    refine ⟨(e0.mod.nolimit.keeps keep).keeps x.toInCall.keep, codeAny_func (wpAny_mono (ht.run [] s1 _ H _ (L2H.inv_startH S pin e0 (len _ _ _ _ hsp) r x) hq) (fun fl s' hs => ?_) fun _ _ z => z)⟩
    cases fl with
    | ret u => exact let ⟨v, σ', H', J, rv, q⟩ := hs; ⟨v, H', J.os, J.bare, J.base, J.hok, rv, q⟩
    | next => exact let ⟨σ', H', J, q⟩ := hs; ⟨.non, H', J.os, J.bare, J.base, J.hok, rfl, q⟩
    | brk => exact let ⟨_, _, _, q⟩ := hs; q.elim
    | cont => exact let ⟨_, _, _, q⟩ := hs; q.elim
section
variable {X : Cx} {k i : Nat} {f : Addr} {fd : FuncData} {ps : List Str} {sp : Sp} {x : Str} {q pos : Pos} {e : Expr} {es : List Expr} {t : TA} {p : Addr × Obj}
/-- its call -/
theorem pe_callP (F : FnP X.prog X.w X.K X.mg X.base p k f fd ps sp) (hr : L2H.RoomH k X.A) (hp : p ∈ X.pn) (hg : Gl X x) (hm : X.mg x = some (.ref f)) (hk : PySem.W.keepIn X.K (.ref f) = true) (hb : Binds X.K fd ps [])
    (ha : PA X (e :: es) t) (hdb : (x == ("__debug__" : Str)) = false := by decide) (he : starEach (e :: es) X.env = (false, eval e X.env) :: starEach es X.env := by rfl) (hpl : (backTo pos (starEach es X.env)).any (·.1) = false := by rfl) :
    PE X (.Call (.Name x q) (e :: es) [] pos) (tCall sp [] E0 t) := by
  refine ⟨fun pins s σ H Q I h => wpAny_Call_Name_kw (ld_glob I hg hm (PySem.W.callWith_K (h₀ := X.base) I.ok.mod.kin hk (thn (ha.run pos pins s σ H _ I h) fun us s1 ⟨vs, H1, I1, r, q1⟩ => ⟨I1.kIn, ?_⟩) he hpl) hdb)⟩
  have q1 : sp vs H1 Q E0 := by
    have z : sp (vs ++ []) H1 Q E0 := q1
    rw [List.append_nil] at z
    exact z
  have b := hb s1 us I1.kIn (by rw [List.append_nil, ← r.length]; exact F.len _ _ _ _ q1)
  rw [List.append_nil] at b
  obtain ⟨z1, z2, z3, z4, z5⟩ := I1.pin p (List.mem_append_left _ hp)
  refine wpAny_call (codeAny_mono (F.run X.A X.stack s1 H1 ⟨us, []⟩ us vs Q E0 hr ⟨z1, z2, fun hm => (List.mem_cons.mp (I1.stkSub p.1 hm)).elim z3 z4, z5⟩ I1.env0 b r q1) fun r s' hq => ?_)
  cases r with
  | error u => exact False.elim hq
  | ok fl =>
    cases fl with
    | ret u => exact I1.after hq
    | _ => exact False.elim hq
/-- f(..), f a local name that holds a def whose errors are wished for at these slots -/
theorem pe_callLS {CX : CXT} {E : L2.St → XK} (F : FnOk X.prog X.w X.K X.mg X.base CX k f fd ps sp) (hr : Room k X.A) (hN : X.N[i]? = some x) (hv : Vis X.env.scope x) (hk : PySem.W.keepIn X.K (.ref f) = true) (hb : Binds X.K fd ps []) (hx : ∀ σ, PassesAt CX X σ (E σ)) (ha : PA X (e :: es) t)
    (hdb : (x == ("__debug__" : Str)) = false := by decide) (hcd : (x == ("__classdict__" : Str)) = false := by decide)
    (he : starEach (e :: es) X.env = (false, eval e X.env) :: starEach es X.env := by rfl) (hpl : (backTo pos (starEach es X.env)).any (·.1) = false := by rfl) :
    PE X (.Call (.Name x q) (e :: es) [] pos) (fun σ H Q => σ[i]? = some (some (.ref f)) ∧ t σ H fun vs H1 => sp vs H1 Q (E σ)) := by
  refine ⟨fun pins s σ H Q I ⟨hs, ht⟩ => wpAny_Call_Name_kw (thn ((pe_var (pos := q) hN hv hdb hcd).run pins s σ H (fun v H1 => v = .ref f ∧ H1 = H) I ⟨.ref f, hs, rfl, rfl⟩) fun u s1 hu => ?_)⟩
  obtain ⟨_, _, I1, r1, rfl, rfl⟩ := hu
  obtain rfl : u = Value.ref f := r1
  exact PySem.W.callWith_K (h₀ := X.base) I.ok.mod.kin hk (thn (ha.run pos pins s1 σ _ _ I1 ht) fun us s2 ⟨vs, H2, I2, r, q2⟩ => ⟨I2.kIn, run_fnS F hr hb (hx σ) I2 r q2⟩) he hpl
/-- isinstance(e, c), e an error that is pinned, with fields of its own or none -/
def rIsP (K : PySem.W.Frag) (D a : Addr) (d : Option Addr) : List V → Hp → VK → Prop := fun xs H Q => ∃ (c : V) (cv : Value) (b : Bool), xs = [.ref a, c] ∧ (∀ u, RelV c u → u = cv) ∧ PySem.W.kitOne K (.ref D) cv = some b ∧ (d = none ∨ ∃ dd fs, d = some dd ∧ H dd = some (.xd fs)) ∧ Q (.bl b) H
theorem call_isP {K : PySem.W.Frag} {D : Addr} {d : Option Addr} (C : ExcC K D) (hp : p ∈ X.pn) (hz : Zc (.ref D) d p.2) (hf : ∃ vs, p.2.data = .fields vs) (h : X.K = K := by rfl) : CallR X (.builtin "isinstance") (rIsP K D p.1 d) := by
  subst h
  intro pins s σ H xs us Q I r h
  obtain ⟨c, cv, b, rfl, hcv, e, hd, q⟩ := h
  cases r with
  | cons rx rr =>
    cases rr with
    | cons rt rr =>
      cases rr
      cases rx
      obtain rfl := hcv _ rt
      have hget := (I.pin p (List.mem_append_left _ hp)).1
      obtain ⟨vs, hv⟩ := hf
      obtain ⟨od, J⟩ : ∃ od, PySem.W.InstAt s.heap p.1 p.2 D od := by
        have nc : PySem.W.notCls p.2 := by unfold PySem.W.notCls; rw [hv]
        rcases hd with rfl | ⟨dd, fs, rfl, hdd⟩
        · exact ⟨none, hget, hz.1, nc, by rw [hz.2]; exact True.intro⟩
        · have hx : ObjOk X.prog X.w H s.heap dd (.xd fs) := I.hok dd _ hdd
          obtain ⟨mA, ⟨o, es, ep, ho, _⟩, _⟩ := hx
          exact ⟨some o, hget, hz.1, nc, by rw [hz.2]; exact ho⟩
      obtain ⟨cd, hcd⟩ := Option.isSome_iff_exists.mp (show (PySem.W.clsIn X.K D).isSome = true by
        have := C.hd
        unfold PySem.W.hasDictIn at this
        cases q : PySem.W.clsIn X.K D with
        | none => rw [q] at this; cases this
        | some _ => rfl)
      exact PySem.W.kia_one (PySem.W.kitx_exc (by rw [hcd]; rfl) C.hg C.hk C.hs C.ha C.hn C.ht C.hm) I.kIn J e (fun z => nomatch z) fun tk => ⟨.bl b, H, I.kept (t' := tk) fun _ _ z => z, rfl, q⟩
/-- B.__init__(self, ..), B an own class that has ValueError's -/
theorem pe_cinit {pl : Sem Bool} {n : Str} {B : Addr} {p1 p2 : Pos} (hg : Gl X n) (hm : X.mg n = some (.ref B)) (sg : PySem.W.specialIn X.K (.ref B) "__getattribute__" = some (some (.builtin "type.__getattribute__"))) (rd : PySem.W.readsIn X.K B (.type "type") = true)
    (fc : PySem.W.findCls X.K (.ref B) (.type "type") "__init__" = some (.val (.builtin "ValueError.__init__"))) (ha : PA X (e :: es) t)
    (hc : eval (.Call (.Attribute (.Name n p1) "__init__" p2) (e :: es) [] pos) X.env = (do
      let ov ← eval (.Name n p1) X.env
      standAt p2.atName
      let (f, first) ← holding [ov] (getMethod ov "__init__" pl)
      callWith pos f first (backTo pos (starEach (e :: es) X.env)) (backToKw pos (keywordEach [] X.env))) := by rfl)
    (hdb : (n == ("__debug__" : Str)) = false := by decide) (he : starEach (e :: es) X.env = (false, eval e X.env) :: starEach es X.env := by rfl) (hpl : (backTo pos (starEach es X.env)).any (·.1) = false := by rfl) :
    PE X (.Call (.Attribute (.Name n p1) "__init__" p2) (e :: es) [] pos) (tVeI X.K t) := by
  refine ⟨fun pins s σ H Q I h => PySem.W.methodCall_KW (ld_glob I hg hm ?_ hdb) hc⟩
  refine PySem.W.method_cls I.kIn sg (PySem.W.cls_value I.kIn rd fc rfl ?_)
  show wpAny _ _ (callWith pos (Value.builtin "ValueError.__init__") [] (backTo pos (starEach (e :: es) X.env)) []) _ _ _
  refine callWith_method1 (thn (ha.run pos pins _ σ H _ (I.tok _) h) fun us s1 ⟨vs, H1, I1, r1, a, C, ws, ev, hl, T, ea, q⟩ => ?_) he hpl
  subst ev
  cases r1 with
  | @cons _ u0 _ ur ra rw' =>
    obtain rfl : u0 = Value.ref a := ra
    exact oinit_ok T I1 ea (by rw [← Paired.length rw', sizeLine_eq]; omega) fun s' J => ⟨.non, H1, J, rfl, q⟩
end
end EE

namespace K7
open PySem L2 EB

local macro_rules | `(tactic| walk_at "mem") => `(tactic| first
  | exact List.mem_cons_self
  | exact List.mem_cons_of_mem _ List.mem_cons_self
  | exact List.mem_cons_of_mem _ (List.mem_cons_of_mem _ List.mem_cons_self)
  | exact List.mem_cons_of_mem _ (List.mem_cons_of_mem _ (List.mem_cons_of_mem _ List.mem_cons_self))
  | exact List.mem_cons_of_mem _ (List.mem_cons_of_mem _ (List.mem_cons_of_mem _ (List.mem_cons_of_mem _ List.mem_cons_self)))
  | exact List.mem_cons_of_mem _ (List.mem_cons_of_mem _ (List.mem_cons_of_mem _ (List.mem_cons_of_mem _ (List.mem_cons_of_mem _ List.mem_cons_self))))
  | exact List.mem_cons_of_mem _ (List.mem_cons_of_mem _ (List.mem_cons_of_mem _ (List.mem_cons_of_mem _ (List.mem_cons_of_mem _ (List.mem_cons_of_mem _ List.mem_cons_self))))))
local macro_rules | `(tactic| walk_at "stp") => `(tactic| first | assumption | exact At.ex (by assumption))
local macro_rules | `(tactic| walk_at "sq3") => `(tactic| first | assumption | exact At.sqo (by assumption) (by walk_at "mem"))
local macro_rules | `(tactic| walk_at "sq2") => `(tactic| first | assumption | exact At.sqo (by assumption) (by walk_at "mem") | exact Same.seq (by walk_at "stp") (by walk_at "sq3"))
local macro_rules | `(tactic| walk_at "sq1") => `(tactic| first | assumption | exact At.sqo (by assumption) (by walk_at "mem") | exact Same.seq (by walk_at "stp") (by walk_at "sq2"))
local macro_rules | `(tactic| walk_at "sq") => `(tactic| first | assumption | exact At.sqo (by assumption) (by walk_at "mem") | exact Same.seq (by walk_at "stp") (by walk_at "sq1"))
local macro_rules | `(tactic| walk_at "st3") => `(tactic| first | assumption | exact At.sto (by assumption) (by walk_at "mem"))
local macro_rules | `(tactic| walk_at "st2") => `(tactic| first | assumption | exact At.sto (by assumption) (by walk_at "mem") | exact Same.st (by walk_at "stp") (by walk_at "st3"))
local macro_rules | `(tactic| walk_at "st1") => `(tactic| first | assumption | exact At.sto (by assumption) (by walk_at "mem") | exact Same.st (by walk_at "stp") (by walk_at "st2"))
local macro_rules | `(tactic| walk_at "st") => `(tactic| first | assumption | exact At.sto (by assumption) (by walk_at "mem") | exact Same.st (by walk_at "stp") (by walk_at "st1"))
local macro_rules | `(tactic| walk_at "cond") => `(tactic| first
  | exact Or.inr ⟨by decide, by decide⟩
  | exact Or.inl ⟨by decide, by decide⟩
  | (show (0 : Int) < _; first | decide | omega)
  | exact ⟨by decide, by decide⟩
  | exact ⟨by decide, by decide, by decide⟩
  | exact Or.inr ⟨by omega, by omega⟩
  | exact Or.inl ⟨by omega, by omega⟩)
local macro_rules | `(tactic| walk_at "s") => `(tactic| first
  | with_reducible refine r_seq ?_
  | with_reducible refine r_asg ?_
  | with_reducible refine r_gName ?_
  | with_reducible refine r_asgG ?_
  | with_reducible refine r_gSub ?_
  | with_reducible refine r_op ?_
  | ((with_reducible show tVar _ _ _ _); refine r_var rfl ?_)
  | with_reducible refine r_c ?_
  | with_reducible refine r_cons ?_
  | with_reducible refine r_nil ?_
  | with_reducible refine r_if ?_
  | with_reducible refine r_test ?_
  | with_reducible refine r_isB ?_
  | with_reducible refine r_cb ?_
  | with_reducible refine r_call ?_
  | with_reducible refine r_fld ?_
  | with_reducible refine r_sfld ?_
  | with_reducible refine r_make ?_
  | with_reducible refine r_meth ?_
  | with_reducible refine r_meth2 ?_
  | with_reducible refine r_forT ?_
  | with_reducible refine r_bm ?_
  | with_reducible refine r_bm0 ?_
  | with_reducible refine r_forL ?_
  | with_reducible refine r_forR ?_
  | with_reducible refine r_forZ ?_
  | with_reducible refine r_lcZ ?_
  | with_reducible refine r_par ?_
  | with_reducible refine r_parK ?_
  | ((with_reducible show tAug _ _ _ _ _ _); refine r_aug rfl ?_)
  | with_reducible refine r_ipI ?_
  | with_reducible refine r_sl ?_
  | with_reducible refine r_noPart ?_
  | with_reducible refine r_part ?_
  | with_reducible refine r_ptK ?_
  | with_reducible refine r_rev ?_
  | with_reducible refine r_ifNT ?_
  | with_reducible refine r_ifNF ?_
  | with_reducible refine r_isiII ?_
  | with_reducible refine r_isiIB ?_
  | with_reducible refine r_isiBB ?_
  | with_reducible refine r_isiBI ?_
  | with_reducible refine r_I0 ?_
  | with_reducible refine r_eqI ?_
  | with_reducible refine r_neI ?_
  | ((with_reducible refine r_I ?_ ?_); (· walk_at "cond"))
  | with_reducible refine r_ret ?_
  | with_reducible refine r_next ?_
  | with_reducible refine r_drop ?_
  | with_reducible refine r_testB ?_
  | with_reducible refine r_ifT ?_
  | with_reducible refine r_ifF ?_
  | with_reducible refine r_un ?_
  | with_reducible refine r_and ?_
  | with_reducible refine r_or ?_
  | with_reducible refine r_not ?_
  | with_reducible refine r_andV ?_
  | with_reducible refine r_orV ?_
  | with_reducible refine r_notV ?_
  | with_reducible refine r_ifE ?_
  | with_reducible refine r_chain ?_
  | with_reducible refine r_lst ?_
  | with_reducible refine r_tup ?_
  | with_reducible refine r_lcR ?_
  | with_reducible refine r_lcL ?_
  | with_reducible refine r_U ?_
  | with_reducible refine r_eqB ?_
  | with_reducible refine r_neB ?_
  | with_reducible refine r_isBl ?_
  | with_reducible refine r_isNBl ?_
  | with_reducible refine r_abs ?_
  | with_reducible refine r_max2 ?_
  | with_reducible refine r_min2 ?_
  | ((with_reducible show rLenQ _ [V.ref _] _ _); first | refine r_lenI (by walk_at "sq") ?_ | refine r_len (by walk_at "sq") ?_ | refine r_lenT (by walk_at "st") ?_)
  | ((with_reducible show rSum _ [V.ref _] _ _); refine r_sum (by walk_at "sq") ?_)
  | ((with_reducible show rAll _ [V.ref _] _ _); refine r_all (by walk_at "sq") ?_)
  | ((with_reducible show rAny _ [V.ref _] _ _); refine r_any (by walk_at "sq") ?_)
  | ((with_reducible show rIxL _ (V.ref _) (V.int _) _ _); refine r_ixI (by walk_at "sq") ?_ ?_ ?_; (· omega); (· omega))
  | ((with_reducible show rEqD _ (V.ref _) (V.ref _) _ _); first | refine r_eqL (by walk_at "sq") (by walk_at "sq") ?_ | refine r_eqLB (by walk_at "sq") (by walk_at "sq") ?_)
  | ((with_reducible show rNeD _ (V.ref _) (V.ref _) _ _); first | refine r_neL (by walk_at "sq") (by walk_at "sq") ?_ | refine r_neLB (by walk_at "sq") (by walk_at "sq") ?_)
  | ((with_reducible show zip1 _ [V.ref _, V.ref _] _ _); refine r_zip1 (by walk_at "sq") (by walk_at "sq") ?_)
  | ((with_reducible show revK _ (V.ref _) _ _); refine r_revKI (by assumption) (by walk_at "sq") ?_; intro l H' A')
  | ((with_reducible show tup1 _ (V.ref _) _ _); refine r_tup1 (by walk_at "st") ?_)
  | ((with_reducible show ifB (decide (_ = _)) _ _); first | refine r_ifd_T (by first | assumption | with_reducible rfl | decide) ?_ | refine r_ifd_F (by decide) ?_)
  | ((with_reducible show ifB (!decide (_ = _)) _ _); first | refine r_ifND_F (by first | assumption | with_reducible rfl | decide) ?_ | refine r_ifND_T (by decide) ?_)
  | ((with_reducible show ifB (decide _) _ _); first | refine r_ifd_T (by omega) ?_ | refine r_ifd_F (by omega) ?_)
  | ((with_reducible show ifB (!decide _) _ _); first | refine r_ifND_F (by omega) ?_ | refine r_ifND_T (by omega) ?_)
  | ((with_reducible show ifB (!_) _ _); first | refine r_notT (by first | assumption | decide) ?_ | refine r_notF (by first | assumption | decide) ?_)
  | ((with_reducible show ifB _ _ _); first | refine r_bT (by first | assumption | decide) ?_ | refine r_bF (by first | assumption | decide) ?_)
  | ((with_reducible show lst1 _ (V.ref _) _ _); refine r_lst1 (by walk_at "sq") ?_)
  | ((with_reducible show bm0K _ "list" _ (V.ref _) _ _); refine r_bm0L (by walk_at "sq") ?_)
  | ((with_reducible show bmK _ "list" _ _ _ (V.ref _) _ _); refine r_bmL (by walk_at "sq") ?_)
  | ((with_reducible show rIsi _ [V.ref _, V.ty "tuple"] _ _); refine r_isiTT (by walk_at "st") ?_)
  | ((with_reducible show rIsi _ [V.ref _, V.ty "list"] _ _); refine r_isiLL (by walk_at "sq") ?_))
local macro_rules | `(tactic| walk_at "hp3") => `(tactic| first | assumption | exact At.get (by assumption) (by walk_at "mem"))
local macro_rules | `(tactic| walk_at "hp2") => `(tactic| first | assumption | exact At.get (by assumption) (by walk_at "mem") | exact Same.hp (by walk_at "stp") (by walk_at "hp3"))
local macro_rules | `(tactic| walk_at "hp1") => `(tactic| first | assumption | exact At.get (by assumption) (by walk_at "mem") | exact Same.hp (by walk_at "stp") (by walk_at "hp2"))
local macro_rules | `(tactic| walk_at "hp") => `(tactic| first | assumption | exact At.get (by assumption) (by walk_at "mem") | exact Same.hp (by walk_at "stp") (by walk_at "hp1"))

def top (i : Nat) : Stmt := PySem.Challenge.pw_evenring_k07_refused.main.body.getD i (.Pass ⟨0, 0, 0, 0⟩)
abbrev s_Lacking_init : Stmt := inClass (top 13) 0
abbrev s_is_whole : Stmt := top 17
abbrev s_is_house : Stmt := top 18
abbrev s_Ring_init : Stmt := inClass (top 19) 0
abbrev s_Ring_houses : Stmt := inClass (top 19) 1
abbrev s_Ring_whole : Stmt := inClass (top 19) 2
abbrev s_turned : Stmt := top 20
abbrev s_together : Stmt := top 21
abbrev s_check_tolls : Stmt := top 24
abbrev s_check_total : Stmt := top 25
abbrev s_running : Stmt := top 26
abbrev s_least : Stmt := top 30
abbrev s_ends : Stmt := top 31
abbrev s_along : Stmt := top 32
abbrev s_within : Stmt := top 34
abbrev s_widest : Stmt := top 35
abbrev s_law_cell_at : Stmt := top 37
abbrev s_law_draw : Stmt := top 38
abbrev s_law_houses : Stmt := top 39
abbrev s_law_kinds : Stmt := top 43
abbrev s_law_told : Stmt := top 44
abbrev s_law_ring : Stmt := top 45
abbrev s_law_with_tolls : Stmt := top 46
abbrev s_law_ends : Stmt := top 47
abbrev s_law_within : Stmt := top 48
abbrev s_law_turned : Stmt := top 49
abbrev s_law_together : Stmt := top 50
abbrev s_law_plain : Stmt := top 51
abbrev s_law_lack : Stmt := top 52
abbrev s_law_all : Stmt := top 53
abbrev s_law_rings_right : Stmt := top 54
abbrev s_law_tolls_right : Stmt := top 55
abbrev s_law_lacking_right : Stmt := top 56
abbrev s_law : Stmt := top 57
theorem sc_Lacking_init : FnScope ["self", "total"] ["self", "total"] (defScope s_Lacking_init) := ⟨rfl, rfl, rfl, by decide +kernel, rfl, by decide +kernel, by decide +kernel⟩
theorem sc_is_whole : FnScope ["thing"] ["thing"] (defScope s_is_whole) := ⟨rfl, rfl, rfl, by decide +kernel, rfl, by decide +kernel, by decide +kernel⟩
theorem sc_is_house : FnScope ["thing"] ["thing"] (defScope s_is_house) := ⟨rfl, rfl, rfl, by decide +kernel, rfl, by decide +kernel, by decide +kernel⟩
theorem sc_Ring_init : FnScope ["self", "houses", "one"] ["self", "houses"] (defScope s_Ring_init) := ⟨rfl, rfl, rfl, by decide +kernel, rfl, by decide +kernel, by decide +kernel⟩
theorem sc_Ring_houses : FnScope ["self"] ["self"] (defScope s_Ring_houses) := ⟨rfl, rfl, rfl, by decide +kernel, rfl, by decide +kernel, by decide +kernel⟩
theorem sc_Ring_whole : FnScope ["self"] ["self"] (defScope s_Ring_whole) := ⟨rfl, rfl, rfl, by decide +kernel, rfl, by decide +kernel, by decide +kernel⟩
theorem sc_turned : FnScope ["ring", "by", "at"] ["ring", "by"] (defScope s_turned) := ⟨rfl, rfl, rfl, by decide +kernel, rfl, by decide +kernel, by decide +kernel⟩
theorem sc_together : FnScope ["one", "other", "houses", "k", "house"] ["one", "other"] (defScope s_together) := ⟨rfl, rfl, rfl, by decide +kernel, rfl, by decide +kernel, by decide +kernel⟩
theorem sc_check_tolls : FnScope ["ring", "tolls", "toll"] ["ring", "tolls"] (defScope s_check_tolls) := ⟨rfl, rfl, rfl, by decide +kernel, rfl, by decide +kernel, by decide +kernel⟩
theorem sc_check_total : FnScope ["ring"] ["ring"] (defScope s_check_total) := ⟨rfl, rfl, rfl, by decide +kernel, rfl, by decide +kernel, by decide +kernel⟩
theorem sc_running : FnScope ["houses", "found", "total", "house"] ["houses"] (defScope s_running) := ⟨rfl, rfl, rfl, by decide +kernel, rfl, by decide +kernel, by decide +kernel⟩
theorem sc_least : FnScope ["ring", "tolls", "sums", "middle", "carried", "one"] ["ring", "tolls"] (defScope s_least) := ⟨rfl, rfl, rfl, by decide +kernel, rfl, by decide +kernel, by decide +kernel⟩
theorem sc_ends : FnScope ["ring", "tolls", "low", "high"] ["ring", "tolls"] (defScope s_ends) := ⟨rfl, rfl, rfl, by decide +kernel, rfl, by decide +kernel, by decide +kernel⟩
theorem sc_along : FnScope ["ring"] ["ring"] (defScope s_along) := ⟨rfl, rfl, rfl, by decide +kernel, rfl, by decide +kernel, by decide +kernel⟩
theorem sc_within : FnScope ["ring", "most", "sums", "low", "high", "middle", "one", "other", "first"] ["ring", "most"] (defScope s_within) := ⟨rfl, rfl, rfl, by decide +kernel, rfl, by decide +kernel, by decide +kernel⟩
theorem sc_widest : FnScope ["ring", "sums"] ["ring"] (defScope s_widest) := ⟨rfl, rfl, rfl, by decide +kernel, rfl, by decide +kernel, by decide +kernel⟩
theorem sc_law_cell_at : FnScope ["_law_script", "_law_k"] ["_law_script", "_law_k"] (defScope s_law_cell_at) := ⟨rfl, rfl, rfl, by decide +kernel, rfl, by decide +kernel, by decide +kernel⟩
theorem sc_law_draw : FnScope ["_law_cell", "_law_k", "_law_many", "_law_primes"] ["_law_cell", "_law_k", "_law_many"] (defScope s_law_draw) := ⟨rfl, rfl, rfl, by decide +kernel, rfl, by decide +kernel, by decide +kernel⟩
theorem sc_law_houses : FnScope ["_law_script", "_law_first", "_law_most", "_law_carried", "_law_k"] ["_law_script", "_law_first"] (defScope s_law_houses) := ⟨rfl, rfl, rfl, by decide +kernel, rfl, by decide +kernel, by decide +kernel⟩
theorem sc_law_kinds : FnScope ["_law_error", "_law_found"] ["_law_error"] (defScope s_law_kinds) := ⟨rfl, rfl, rfl, by decide +kernel, rfl, by decide +kernel, by decide +kernel⟩
theorem sc_law_told : FnScope ["_law_ask", "_law_one", "_law_other", "_law_error"] ["_law_ask", "_law_one", "_law_other"] (defScope s_law_told) := ⟨rfl, rfl, rfl, by decide +kernel, rfl, by decide +kernel, by decide +kernel⟩
theorem sc_law_ring : FnScope ["_law_houses_here", "_law_nothing"] ["_law_houses_here", "_law_nothing"] (defScope s_law_ring) := ⟨rfl, rfl, rfl, by decide +kernel, rfl, by decide +kernel, by decide +kernel⟩
theorem sc_law_with_tolls : FnScope ["_law_ring_here", "_law_tolls_here"] ["_law_ring_here", "_law_tolls_here"] (defScope s_law_with_tolls) := ⟨rfl, rfl, rfl, by decide +kernel, rfl, by decide +kernel, by decide +kernel⟩
theorem sc_law_ends : FnScope ["_law_ring_here", "_law_tolls_here"] ["_law_ring_here", "_law_tolls_here"] (defScope s_law_ends) := ⟨rfl, rfl, rfl, by decide +kernel, rfl, by decide +kernel, by decide +kernel⟩
theorem sc_law_within : FnScope ["_law_ring_here", "_law_most"] ["_law_ring_here", "_law_most"] (defScope s_law_within) := ⟨rfl, rfl, rfl, by decide +kernel, rfl, by decide +kernel, by decide +kernel⟩
theorem sc_law_turned : FnScope ["_law_ring_here", "_law_by"] ["_law_ring_here", "_law_by"] (defScope s_law_turned) := ⟨rfl, rfl, rfl, by decide +kernel, rfl, by decide +kernel, by decide +kernel⟩
theorem sc_law_together : FnScope ["_law_one", "_law_other"] ["_law_one", "_law_other"] (defScope s_law_together) := ⟨rfl, rfl, rfl, by decide +kernel, rfl, by decide +kernel, by decide +kernel⟩
theorem sc_law_plain : FnScope ["_law_ring_here", "_law_door"] ["_law_ring_here", "_law_door"] (defScope s_law_plain) := ⟨rfl, rfl, rfl, by decide +kernel, rfl, by decide +kernel, by decide +kernel⟩
theorem sc_law_lack : FnScope ["_law_ring_here", "_law_door", "_law_error"] ["_law_ring_here", "_law_door"] (defScope s_law_lack) := ⟨rfl, rfl, rfl, by decide +kernel, rfl, by decide +kernel, by decide +kernel⟩
theorem sc_law_all : FnScope ["_law_ask", "_law_one", "_law_things", "_law_due", "_law_thing"] ["_law_ask", "_law_one", "_law_things", "_law_due"] (defScope s_law_all) := ⟨rfl, rfl, rfl, by decide +kernel, rfl, by decide +kernel, by decide +kernel⟩
theorem sc_law_rings_right : FnScope ["_law_due", "_law_far", "_law_bad", "_law_thing"] ["_law_due", "_law_far"] (defScope s_law_rings_right) := ⟨rfl, rfl, rfl, by decide +kernel, rfl, by decide +kernel, by decide +kernel⟩
theorem sc_law_tolls_right : FnScope ["_law_ring_here", "_law_lacking", "_law_due", "_law_far", "_law_many", "_law_ones", "_law_tolls_here", "_law_one"] ["_law_ring_here", "_law_lacking", "_law_due", "_law_far"] (defScope s_law_tolls_right) := ⟨rfl, rfl, rfl, by decide +kernel, rfl, by decide +kernel, by decide +kernel⟩
theorem sc_law_lacking_right : FnScope ["_law_ring_here", "_law_lacking", "_law_due", "_law_far", "_law_bounds", "_law_houses_here", "_law_by", "_law_less", "_law_door"] ["_law_ring_here", "_law_lacking", "_law_due", "_law_far"] (defScope s_law_lacking_right) := ⟨rfl, rfl, rfl, by decide +kernel, rfl, by decide +kernel, by decide +kernel⟩
theorem sc_law : FnScope ["_law_script", "_law_far", "_law_due", "_law_k", "_law_houses_here", "_law_ring_here", "_law_lacking", "_law_noughts", "_law_great", "_law_some"] ["_law_script"] (defScope s_law) := ⟨rfl, rfl, rfl, by decide +kernel, rfl, by decide +kernel, by decide +kernel⟩
/-- what the top has written -/
structure Txt (K : PySem.W.Frag) (mg : Str → Option Value) where
  n_abs : mg "abs" = none
  n_all : mg "all" = none
  n_any : mg "any" = none
  n_bool : mg "bool" = none
  n_int : mg "int" = none
  n_isinstance : mg "isinstance" = none
  n_len : mg "len" = none
  n_list : mg "list" = none
  n_max : mg "max" = none
  n_min : mg "min" = none
  n_range : mg "range" = none
  n_sorted : mg "sorted" = none
  n_sum : mg "sum" = none
  k_GREATEST_rings : (t : Tok) ×' mg "GREATEST_rings" = some (.int 1000000 t)
  k_GREATEST_carrying : (t : Tok) ×' mg "GREATEST_carrying" = some (.int 1000 t)
  c_RingError : Addr
  g_RingError : mg "RingError" = some (.ref c_RingError)
  x_RingError : PySem.W.excIn K c_RingError [.type "ValueError", .type "Exception", .type "BaseException", .type "object"] "ValueError.__new__" = true
  kc_RingError : PySem.W.keepIn K (.ref c_RingError) = true
  be_RingError : PySem.W.subIn K (.ref c_RingError) (.type "BaseException") = some true
  ty_RingError : PySem.W.typeIn K (.ref c_RingError) = some (.type "type")
  hd_RingError : PySem.W.hasDictIn K c_RingError = true
  c_BadRing : Addr
  g_BadRing : mg "BadRing" = some (.ref c_BadRing)
  x_BadRing : PySem.W.excIn K c_BadRing [.type "ValueError", .type "Exception", .type "BaseException", .type "object"] "ValueError.__new__" = true
  kc_BadRing : PySem.W.keepIn K (.ref c_BadRing) = true
  be_BadRing : PySem.W.subIn K (.ref c_BadRing) (.type "BaseException") = some true
  ty_BadRing : PySem.W.typeIn K (.ref c_BadRing) = some (.type "type")
  hd_BadRing : PySem.W.hasDictIn K c_BadRing = true
  c_BadTolls : Addr
  g_BadTolls : mg "BadTolls" = some (.ref c_BadTolls)
  x_BadTolls : PySem.W.excIn K c_BadTolls [.type "ValueError", .type "Exception", .type "BaseException", .type "object"] "ValueError.__new__" = true
  kc_BadTolls : PySem.W.keepIn K (.ref c_BadTolls) = true
  be_BadTolls : PySem.W.subIn K (.ref c_BadTolls) (.type "BaseException") = some true
  ty_BadTolls : PySem.W.typeIn K (.ref c_BadTolls) = some (.type "type")
  hd_BadTolls : PySem.W.hasDictIn K c_BadTolls = true
  c_BadMost : Addr
  g_BadMost : mg "BadMost" = some (.ref c_BadMost)
  x_BadMost : PySem.W.excIn K c_BadMost [.type "ValueError", .type "Exception", .type "BaseException", .type "object"] "ValueError.__new__" = true
  kc_BadMost : PySem.W.keepIn K (.ref c_BadMost) = true
  be_BadMost : PySem.W.subIn K (.ref c_BadMost) (.type "BaseException") = some true
  ty_BadMost : PySem.W.typeIn K (.ref c_BadMost) = some (.type "type")
  hd_BadMost : PySem.W.hasDictIn K c_BadMost = true
  c_Unlike : Addr
  g_Unlike : mg "Unlike" = some (.ref c_Unlike)
  x_Unlike : PySem.W.excIn K c_Unlike [.type "ValueError", .type "Exception", .type "BaseException", .type "object"] "ValueError.__new__" = true
  kc_Unlike : PySem.W.keepIn K (.ref c_Unlike) = true
  be_Unlike : PySem.W.subIn K (.ref c_Unlike) (.type "BaseException") = some true
  ty_Unlike : PySem.W.typeIn K (.ref c_Unlike) = some (.type "type")
  hd_Unlike : PySem.W.hasDictIn K c_Unlike = true
  c_Lacking : Addr
  g_Lacking : mg "Lacking" = some (.ref c_Lacking)
  kc_Lacking : PySem.W.keepIn K (.ref c_Lacking) = true
  be_Lacking : PySem.W.subIn K (.ref c_Lacking) (.type "BaseException") = some true
  ty_Lacking : PySem.W.typeIn K (.ref c_Lacking) = some (.type "type")
  hd_Lacking : PySem.W.hasDictIn K c_Lacking = true
  c_BadText : Addr
  g_BadText : mg "BadText" = some (.ref c_BadText)
  x_BadText : PySem.W.excIn K c_BadText [.type "ValueError", .type "Exception", .type "BaseException", .type "object"] "ValueError.__new__" = true
  kc_BadText : PySem.W.keepIn K (.ref c_BadText) = true
  be_BadText : PySem.W.subIn K (.ref c_BadText) (.type "BaseException") = some true
  ty_BadText : PySem.W.typeIn K (.ref c_BadText) = some (.type "type")
  hd_BadText : PySem.W.hasDictIn K c_BadText = true
  c_Ring : Addr
  g_Ring : mg "Ring" = some (.ref c_Ring)
  cl_Ring : Cls K c_Ring
  no_Ring_over : NoAttr K c_Ring "over"
  in_Ring : PySem.W.findIn K (.ref c_Ring) "__class__" = some (some (.builtin "object.__class__")) ∧ PySem.W.specialIn K (.builtin "object.__class__") "__get__" = some (some (.builtin "getset_descriptor.__get__")) ∧ PySem.W.takesIn K (.builtin "object.__class__") = some true ∧ PySem.W.mroIn K c_Ring (.type "object") = some true
  sg_RingError : PySem.W.specialIn K (.ref c_RingError) "__getattribute__" = some (some (.builtin "type.__getattribute__"))
  rd_RingError : PySem.W.readsIn K c_RingError (.type "type") = true
  fc_RingError : PySem.W.findCls K (.ref c_RingError) (.type "type") "__init__" = some (.val (.builtin "ValueError.__init__"))
  sx_BadRing_RingError : PySem.W.subIn K (.ref c_BadRing) (.ref c_RingError) = some true
  sx_BadTolls_RingError : PySem.W.subIn K (.ref c_BadTolls) (.ref c_RingError) = some true
  sx_BadMost_RingError : PySem.W.subIn K (.ref c_BadMost) (.ref c_RingError) = some true
  sx_Unlike_RingError : PySem.W.subIn K (.ref c_Unlike) (.ref c_RingError) = some true
  sx_Lacking_RingError : PySem.W.subIn K (.ref c_Lacking) (.ref c_RingError) = some true
  sx_Lacking_Lacking : PySem.W.subIn K (.ref c_Lacking) (.ref c_Lacking) = some true
  f_Lacking_init : Addr
  fd_Lacking_init : FuncData
  F_Lacking_init : Fun K "__init__" "Lacking.__init__" s_Lacking_init f_Lacking_init fd_Lacking_init
  ox_Lacking : OexC K c_Lacking
  iC_Lacking : PySem.W.findIn K (.ref c_Lacking) "__init__" = some (some (.ref f_Lacking_init))
  tI_Lacking : PySem.W.typeIn K (.ref f_Lacking_init) = some (.type "function")
  xf_Lacking : XfC K c_Lacking
  no_Lacking_total : PySem.W.findIn K (.ref c_Lacking) "total" = some none
  f_is_whole : Addr
  fd_is_whole : FuncData
  F_is_whole : Fun K "is_whole" "is_whole" s_is_whole f_is_whole fd_is_whole
  g_is_whole : mg "is_whole" = some (.ref f_is_whole)
  f_is_house : Addr
  fd_is_house : FuncData
  F_is_house : Fun K "is_house" "is_house" s_is_house f_is_house fd_is_house
  g_is_house : mg "is_house" = some (.ref f_is_house)
  f_Ring_init : Addr
  fd_Ring_init : FuncData
  F_Ring_init : Fun K "__init__" "Ring.__init__" s_Ring_init f_Ring_init fd_Ring_init
  mk_Ring : Mk K c_Ring f_Ring_init
  f_Ring_houses : Addr
  fd_Ring_houses : FuncData
  F_Ring_houses : Fun K "houses" "Ring.houses" s_Ring_houses f_Ring_houses fd_Ring_houses
  m_Ring_houses : Meth K c_Ring "houses" f_Ring_houses
  f_Ring_whole : Addr
  fd_Ring_whole : FuncData
  F_Ring_whole : Fun K "whole" "Ring.whole" s_Ring_whole f_Ring_whole fd_Ring_whole
  m_Ring_whole : Meth K c_Ring "whole" f_Ring_whole
  f_turned : Addr
  fd_turned : FuncData
  F_turned : Fun K "turned" "turned" s_turned f_turned fd_turned
  g_turned : mg "turned" = some (.ref f_turned)
  f_together : Addr
  fd_together : FuncData
  F_together : Fun K "together" "together" s_together f_together fd_together
  g_together : mg "together" = some (.ref f_together)
  f_check_tolls : Addr
  fd_check_tolls : FuncData
  F_check_tolls : Fun K "check_tolls" "check_tolls" s_check_tolls f_check_tolls fd_check_tolls
  g_check_tolls : mg "check_tolls" = some (.ref f_check_tolls)
  f_check_total : Addr
  fd_check_total : FuncData
  F_check_total : Fun K "check_total" "check_total" s_check_total f_check_total fd_check_total
  g_check_total : mg "check_total" = some (.ref f_check_total)
  f_running : Addr
  fd_running : FuncData
  F_running : Fun K "running" "running" s_running f_running fd_running
  g_running : mg "running" = some (.ref f_running)
  f_least : Addr
  fd_least : FuncData
  F_least : Fun K "least" "least" s_least f_least fd_least
  g_least : mg "least" = some (.ref f_least)
  f_ends : Addr
  fd_ends : FuncData
  F_ends : Fun K "ends" "ends" s_ends f_ends fd_ends
  g_ends : mg "ends" = some (.ref f_ends)
  f_along : Addr
  fd_along : FuncData
  F_along : Fun K "along" "along" s_along f_along fd_along
  g_along : mg "along" = some (.ref f_along)
  f_within : Addr
  fd_within : FuncData
  F_within : Fun K "within" "within" s_within f_within fd_within
  g_within : mg "within" = some (.ref f_within)
  f_widest : Addr
  fd_widest : FuncData
  F_widest : Fun K "widest" "widest" s_widest f_widest fd_widest
  g_widest : mg "widest" = some (.ref f_widest)
  f_law_cell_at : Addr
  fd_law_cell_at : FuncData
  F_law_cell_at : Fun K "_law_cell_at" "_law_cell_at" s_law_cell_at f_law_cell_at fd_law_cell_at
  g_law_cell_at : mg "_law_cell_at" = some (.ref f_law_cell_at)
  f_law_draw : Addr
  fd_law_draw : FuncData
  F_law_draw : Fun K "_law_draw" "_law_draw" s_law_draw f_law_draw fd_law_draw
  g_law_draw : mg "_law_draw" = some (.ref f_law_draw)
  f_law_houses : Addr
  fd_law_houses : FuncData
  F_law_houses : Fun K "_law_houses" "_law_houses" s_law_houses f_law_houses fd_law_houses
  g_law_houses : mg "_law_houses" = some (.ref f_law_houses)
  f_law_kinds : Addr
  fd_law_kinds : FuncData
  F_law_kinds : Fun K "_law_kinds" "_law_kinds" s_law_kinds f_law_kinds fd_law_kinds
  g_law_kinds : mg "_law_kinds" = some (.ref f_law_kinds)
  f_law_told : Addr
  fd_law_told : FuncData
  F_law_told : Fun K "_law_told" "_law_told" s_law_told f_law_told fd_law_told
  g_law_told : mg "_law_told" = some (.ref f_law_told)
  f_law_ring : Addr
  fd_law_ring : FuncData
  F_law_ring : Fun K "_law_ring" "_law_ring" s_law_ring f_law_ring fd_law_ring
  g_law_ring : mg "_law_ring" = some (.ref f_law_ring)
  f_law_with_tolls : Addr
  fd_law_with_tolls : FuncData
  F_law_with_tolls : Fun K "_law_with_tolls" "_law_with_tolls" s_law_with_tolls f_law_with_tolls fd_law_with_tolls
  g_law_with_tolls : mg "_law_with_tolls" = some (.ref f_law_with_tolls)
  f_law_ends : Addr
  fd_law_ends : FuncData
  F_law_ends : Fun K "_law_ends" "_law_ends" s_law_ends f_law_ends fd_law_ends
  g_law_ends : mg "_law_ends" = some (.ref f_law_ends)
  f_law_within : Addr
  fd_law_within : FuncData
  F_law_within : Fun K "_law_within" "_law_within" s_law_within f_law_within fd_law_within
  g_law_within : mg "_law_within" = some (.ref f_law_within)
  f_law_turned : Addr
  fd_law_turned : FuncData
  F_law_turned : Fun K "_law_turned" "_law_turned" s_law_turned f_law_turned fd_law_turned
  g_law_turned : mg "_law_turned" = some (.ref f_law_turned)
  f_law_together : Addr
  fd_law_together : FuncData
  F_law_together : Fun K "_law_together" "_law_together" s_law_together f_law_together fd_law_together
  g_law_together : mg "_law_together" = some (.ref f_law_together)
  f_law_plain : Addr
  fd_law_plain : FuncData
  F_law_plain : Fun K "_law_plain" "_law_plain" s_law_plain f_law_plain fd_law_plain
  g_law_plain : mg "_law_plain" = some (.ref f_law_plain)
  f_law_lack : Addr
  fd_law_lack : FuncData
  F_law_lack : Fun K "_law_lack" "_law_lack" s_law_lack f_law_lack fd_law_lack
  g_law_lack : mg "_law_lack" = some (.ref f_law_lack)
  f_law_all : Addr
  fd_law_all : FuncData
  F_law_all : Fun K "_law_all" "_law_all" s_law_all f_law_all fd_law_all
  g_law_all : mg "_law_all" = some (.ref f_law_all)
  f_law_rings_right : Addr
  fd_law_rings_right : FuncData
  F_law_rings_right : Fun K "_law_rings_right" "_law_rings_right" s_law_rings_right f_law_rings_right fd_law_rings_right
  g_law_rings_right : mg "_law_rings_right" = some (.ref f_law_rings_right)
  f_law_tolls_right : Addr
  fd_law_tolls_right : FuncData
  F_law_tolls_right : Fun K "_law_tolls_right" "_law_tolls_right" s_law_tolls_right f_law_tolls_right fd_law_tolls_right
  g_law_tolls_right : mg "_law_tolls_right" = some (.ref f_law_tolls_right)
  f_law_lacking_right : Addr
  fd_law_lacking_right : FuncData
  F_law_lacking_right : Fun K "_law_lacking_right" "_law_lacking_right" s_law_lacking_right f_law_lacking_right fd_law_lacking_right
  g_law_lacking_right : mg "_law_lacking_right" = some (.ref f_law_lacking_right)
  f_law : Addr
  fd_law : FuncData
  F_law : Fun K "law" "law" s_law f_law fd_law
  g_law : mg "law" = some (.ref f_law)
section
variable {K : PySem.W.Frag} {mg : Str → Option Value}
theorem b_Lacking_init (T : Txt K mg) : Binds K T.fd_Lacking_init ["self", "total"] [] := T.F_Lacking_init.binds (ps := ["self", "total"]) fun _ _ _ _ _ _ us hl => match us, hl with | [_, _], _ => rfl
theorem b_is_whole (T : Txt K mg) : Binds K T.fd_is_whole ["thing"] [] := T.F_is_whole.binds (ps := ["thing"]) fun _ _ _ _ _ _ us hl => match us, hl with | [_], _ => rfl
theorem b_is_house (T : Txt K mg) : Binds K T.fd_is_house ["thing"] [] := T.F_is_house.binds (ps := ["thing"]) fun _ _ _ _ _ _ us hl => match us, hl with | [_], _ => rfl
theorem b_Ring_init (T : Txt K mg) : Binds K T.fd_Ring_init ["self", "houses"] [] := T.F_Ring_init.binds (ps := ["self", "houses"]) fun _ _ _ _ _ _ us hl => match us, hl with | [_, _], _ => rfl
theorem b_Ring_houses (T : Txt K mg) : Binds K T.fd_Ring_houses ["self"] [] := T.F_Ring_houses.binds (ps := ["self"]) fun _ _ _ _ _ _ us hl => match us, hl with | [_], _ => rfl
theorem b_Ring_whole (T : Txt K mg) : Binds K T.fd_Ring_whole ["self"] [] := T.F_Ring_whole.binds (ps := ["self"]) fun _ _ _ _ _ _ us hl => match us, hl with | [_], _ => rfl
theorem b_turned (T : Txt K mg) : Binds K T.fd_turned ["ring", "by"] [] := T.F_turned.binds (ps := ["ring", "by"]) fun _ _ _ _ _ _ us hl => match us, hl with | [_, _], _ => rfl
theorem b_together (T : Txt K mg) : Binds K T.fd_together ["one", "other"] [] := T.F_together.binds (ps := ["one", "other"]) fun _ _ _ _ _ _ us hl => match us, hl with | [_, _], _ => rfl
theorem b_check_tolls (T : Txt K mg) : Binds K T.fd_check_tolls ["ring", "tolls"] [] := T.F_check_tolls.binds (ps := ["ring", "tolls"]) fun _ _ _ _ _ _ us hl => match us, hl with | [_, _], _ => rfl
theorem b_check_total (T : Txt K mg) : Binds K T.fd_check_total ["ring"] [] := T.F_check_total.binds (ps := ["ring"]) fun _ _ _ _ _ _ us hl => match us, hl with | [_], _ => rfl
theorem b_running (T : Txt K mg) : Binds K T.fd_running ["houses"] [] := T.F_running.binds (ps := ["houses"]) fun _ _ _ _ _ _ us hl => match us, hl with | [_], _ => rfl
theorem b_least (T : Txt K mg) : Binds K T.fd_least ["ring", "tolls"] [] := T.F_least.binds (ps := ["ring", "tolls"]) fun _ _ _ _ _ _ us hl => match us, hl with | [_, _], _ => rfl
theorem b_ends (T : Txt K mg) : Binds K T.fd_ends ["ring", "tolls"] [] := T.F_ends.binds (ps := ["ring", "tolls"]) fun _ _ _ _ _ _ us hl => match us, hl with | [_, _], _ => rfl
theorem b_along (T : Txt K mg) : Binds K T.fd_along ["ring"] [] := T.F_along.binds (ps := ["ring"]) fun _ _ _ _ _ _ us hl => match us, hl with | [_], _ => rfl
theorem b_within (T : Txt K mg) : Binds K T.fd_within ["ring", "most"] [] := T.F_within.binds (ps := ["ring", "most"]) fun _ _ _ _ _ _ us hl => match us, hl with | [_, _], _ => rfl
theorem b_widest (T : Txt K mg) : Binds K T.fd_widest ["ring"] [] := T.F_widest.binds (ps := ["ring"]) fun _ _ _ _ _ _ us hl => match us, hl with | [_], _ => rfl
theorem b_law_cell_at (T : Txt K mg) : Binds K T.fd_law_cell_at ["_law_script", "_law_k"] [] := T.F_law_cell_at.binds (ps := ["_law_script", "_law_k"]) fun _ _ _ _ _ _ us hl => match us, hl with | [_, _], _ => rfl
theorem b_law_draw (T : Txt K mg) : Binds K T.fd_law_draw ["_law_cell", "_law_k", "_law_many"] [] := T.F_law_draw.binds (ps := ["_law_cell", "_law_k", "_law_many"]) fun _ _ _ _ _ _ us hl => match us, hl with | [_, _, _], _ => rfl
theorem b_law_houses (T : Txt K mg) : Binds K T.fd_law_houses ["_law_script", "_law_first"] [] := T.F_law_houses.binds (ps := ["_law_script", "_law_first"]) fun _ _ _ _ _ _ us hl => match us, hl with | [_, _], _ => rfl
theorem b_law_kinds (T : Txt K mg) : Binds K T.fd_law_kinds ["_law_error"] [] := T.F_law_kinds.binds (ps := ["_law_error"]) fun _ _ _ _ _ _ us hl => match us, hl with | [_], _ => rfl
theorem b_law_told (T : Txt K mg) : Binds K T.fd_law_told ["_law_ask", "_law_one", "_law_other"] [] := T.F_law_told.binds (ps := ["_law_ask", "_law_one", "_law_other"]) fun _ _ _ _ _ _ us hl => match us, hl with | [_, _, _], _ => rfl
theorem b_law_ring (T : Txt K mg) : Binds K T.fd_law_ring ["_law_houses_here", "_law_nothing"] [] := T.F_law_ring.binds (ps := ["_law_houses_here", "_law_nothing"]) fun _ _ _ _ _ _ us hl => match us, hl with | [_, _], _ => rfl
theorem b_law_with_tolls (T : Txt K mg) : Binds K T.fd_law_with_tolls ["_law_ring_here", "_law_tolls_here"] [] := T.F_law_with_tolls.binds (ps := ["_law_ring_here", "_law_tolls_here"]) fun _ _ _ _ _ _ us hl => match us, hl with | [_, _], _ => rfl
theorem b_law_ends (T : Txt K mg) : Binds K T.fd_law_ends ["_law_ring_here", "_law_tolls_here"] [] := T.F_law_ends.binds (ps := ["_law_ring_here", "_law_tolls_here"]) fun _ _ _ _ _ _ us hl => match us, hl with | [_, _], _ => rfl
theorem b_law_within (T : Txt K mg) : Binds K T.fd_law_within ["_law_ring_here", "_law_most"] [] := T.F_law_within.binds (ps := ["_law_ring_here", "_law_most"]) fun _ _ _ _ _ _ us hl => match us, hl with | [_, _], _ => rfl
theorem b_law_turned (T : Txt K mg) : Binds K T.fd_law_turned ["_law_ring_here", "_law_by"] [] := T.F_law_turned.binds (ps := ["_law_ring_here", "_law_by"]) fun _ _ _ _ _ _ us hl => match us, hl with | [_, _], _ => rfl
theorem b_law_together (T : Txt K mg) : Binds K T.fd_law_together ["_law_one", "_law_other"] [] := T.F_law_together.binds (ps := ["_law_one", "_law_other"]) fun _ _ _ _ _ _ us hl => match us, hl with | [_, _], _ => rfl
theorem b_law_plain (T : Txt K mg) : Binds K T.fd_law_plain ["_law_ring_here", "_law_door"] [] := T.F_law_plain.binds (ps := ["_law_ring_here", "_law_door"]) fun _ _ _ _ _ _ us hl => match us, hl with | [_, _], _ => rfl
theorem b_law_lack (T : Txt K mg) : Binds K T.fd_law_lack ["_law_ring_here", "_law_door"] [] := T.F_law_lack.binds (ps := ["_law_ring_here", "_law_door"]) fun _ _ _ _ _ _ us hl => match us, hl with | [_, _], _ => rfl
theorem b_law_all (T : Txt K mg) : Binds K T.fd_law_all ["_law_ask", "_law_one", "_law_things", "_law_due"] [] := T.F_law_all.binds (ps := ["_law_ask", "_law_one", "_law_things", "_law_due"]) fun _ _ _ _ _ _ us hl => match us, hl with | [_, _, _, _], _ => rfl
theorem b_law_rings_right (T : Txt K mg) : Binds K T.fd_law_rings_right ["_law_due", "_law_far"] [] := T.F_law_rings_right.binds (ps := ["_law_due", "_law_far"]) fun _ _ _ _ _ _ us hl => match us, hl with | [_, _], _ => rfl
theorem b_law_tolls_right (T : Txt K mg) : Binds K T.fd_law_tolls_right ["_law_ring_here", "_law_lacking", "_law_due", "_law_far"] [] := T.F_law_tolls_right.binds (ps := ["_law_ring_here", "_law_lacking", "_law_due", "_law_far"]) fun _ _ _ _ _ _ us hl => match us, hl with | [_, _, _, _], _ => rfl
theorem b_law_lacking_right (T : Txt K mg) : Binds K T.fd_law_lacking_right ["_law_ring_here", "_law_lacking", "_law_due", "_law_far"] [] := T.F_law_lacking_right.binds (ps := ["_law_ring_here", "_law_lacking", "_law_due", "_law_far"]) fun _ _ _ _ _ _ us hl => match us, hl with | [_, _, _, _], _ => rfl
theorem b_law (T : Txt K mg) : Binds K T.fd_law ["_law_script"] [] := T.F_law.binds (ps := ["_law_script"]) fun _ _ _ _ _ _ us hl => match us, hl with | [_], _ => rfl
end
section
variable {P : Program} {w : World} {K : PySem.W.Frag} {mg : Str → Option Value} {base : Heap}
/-- a ring stands at p: the list of its houses is one of its own -/
def RingAt (T : Txt K mg) (H : Hp) (p : Addr) (hs : List Int) : Prop := ∃ dx l, H p = some (.ins T.c_Ring dx [("over", .ref l)]) ∧ H l = some (.lst (hs.map V.int))
theorem RingAt.mono {T : Txt K mg} {H H' : Hp} {p : Addr} {hs : List Int} (R : RingAt T H p hs) (s : Same H H') : RingAt T H' p hs := by
  obtain ⟨dx, l, h1, h2⟩ := R
  exact ⟨dx, l, s _ _ h1, s _ _ h2⟩
theorem RingAt.via {T : Txt K mg} {H H' : Hp} {p : Addr} {hs : List Int} (s : Same H H') (R : RingAt T H p hs) : RingAt T H' p hs := R.mono s
theorem r_over {T : Txt K mg} {H : Hp} {Q : VK} {p dx l : Addr} (h : H p = some (.ins T.c_Ring dx [("over", .ref l)])) (k : Q (.ref l) H) : fldK K "over" (.ref p) H Q := r_fldK h T.cl_Ring T.no_Ring_over rfl k
local macro_rules | `(tactic| walk_at "s") => `(tactic| ((with_reducible show fldK _ _ (V.ref _) _ _); refine r_over (by walk_at "hp") ?_))
local macro_rules | `(tactic| walk_at "ra3") => `(tactic| first | assumption | exact ⟨_, _, by walk_at "hp", by walk_at "hp"⟩)
local macro_rules | `(tactic| walk_at "ra2") => `(tactic| first | assumption | exact RingAt.via (by walk_at "stp") (by walk_at "ra3") | exact ⟨_, _, by walk_at "hp", by walk_at "hp"⟩)
local macro_rules | `(tactic| walk_at "ra1") => `(tactic| first | assumption | exact RingAt.via (by walk_at "stp") (by walk_at "ra2") | exact ⟨_, _, by walk_at "hp", by walk_at "hp"⟩)
local macro_rules | `(tactic| walk_at "ra") => `(tactic| first | assumption | exact RingAt.via (by walk_at "stp") (by walk_at "ra1") | exact ⟨_, _, by walk_at "hp", by walk_at "hp"⟩)
def sp_is_whole (_ : Txt K mg) : Sp := fun vs H Q _ => ∃ i : Int, vs = [.int i] ∧ Q (.bl true) H
theorem ok_is_whole (T : Txt K mg) : FnOk P w K mg base CX0 1 T.f_is_whole T.fd_is_whole ["thing"] (sp_is_whole T) := by
  refine T.F_is_whole.ok sc_is_whole (fun vs H Q E h => ?_) (fun cdv A outer s H vs Q E hr h => ?_)
  · obtain ⟨_, rfl, _⟩ := h
    rfl
  · skip
    obtain ⟨i, rfl, k⟩ := h
    refine ⟨_, (pss_one (ps_ret (pe_and (pe_callB (kIsi (K := K)) (by rfl) T.n_isinstance EB.bt_isinstance (pa_cons (pv 0) (pa_cons (pe_bltn (v := .ty "int") (by rfl) T.n_int EB.bt_int rfl) pa_nil))) (pe_one (pe_not (pe_callB (kIsi (K := K)) (by rfl) T.n_isinstance EB.bt_isinstance (pa_cons (pv 0) (pa_cons (pe_bltn (v := .ty "bool") (by rfl) T.n_bool EB.bt_bool rfl) pa_nil)))))))), ?_⟩
    repeat walk_at "s"
    exact k
def sp_is_house (_ : Txt K mg) : Sp := fun vs H Q _ => ∃ i : Int, vs = [.int i] ∧ -1000000 ≤ i ∧ i ≤ 1000000 ∧ Q (.bl true) H
theorem ok_is_house (T : Txt K mg) : FnOk P w K mg base CX0 2 T.f_is_house T.fd_is_house ["thing"] (sp_is_house T) := by
  refine T.F_is_house.ok sc_is_house (fun vs H Q E h => ?_) (fun cdv A outer s H vs Q E hr h => ?_)
  · obtain ⟨_, rfl, _⟩ := h
    rfl
  · skip
    obtain ⟨i, rfl, h1, h2, k⟩ := h
    refine ⟨_, (pss_one (ps_ret (pe_and (pe_call (ok_is_whole T) (hr.mono (by decide)) (by rfl) T.g_is_whole T.F_is_whole.kp (b_is_whole T) .nil pass0 (pa_cons (pv 0) pa_nil)) (pe_one (pe_chain op_le op_le (pe_un un_neg (pe_glob (v := .int 1000000) (by rfl) T.k_GREATEST_rings.2 ⟨_, rfl⟩)) (pv 0) (pe_glob (v := .int 1000000) (by rfl) T.k_GREATEST_rings.2 ⟨_, rfl⟩)))))), ?_⟩
    repeat walk_at "s"
    refine ⟨i, rfl, ?_⟩
    repeat walk_at "s"
    rw [decide_eq_true h2]
    exact k
def sp_Ring_init (T : Txt K mg) : Sp := fun vs H Q _ => ∃ (p dx a : Addr) (hs : List Int), vs = [.ref p, .ref a] ∧ H p = some (.ins T.c_Ring dx []) ∧ SqL K H a (hs.map V.int) ∧ 2 ≤ hs.length ∧ hs.length ≤ 1000 ∧ (∀ x ∈ hs, -1000000 ≤ x ∧ x ≤ 1000000) ∧
  ∀ l H', H l = none → (∀ b o, H b = some o → b ≠ p → H' b = some o) → H' p = some (.ins T.c_Ring dx [("over", .ref l)]) → H' l = some (.lst (hs.map V.int)) → Q .non H'
theorem ok_Ring_init (T : Txt K mg) : FnOk P w K mg base CX0 3 T.f_Ring_init T.fd_Ring_init ["self", "houses"] (sp_Ring_init T) := by
  refine T.F_Ring_init.ok sc_Ring_init (fun vs H Q E h => ?_) (fun cdv A outer s H vs Q E hr h => ?_)
  · obtain ⟨_, _, _, _, rfl, _⟩ := h
    rfl
  · skip
    obtain ⟨p, dx, a, hs, rfl, hp, ha, h2, hl, hb, k⟩ := h
    have A := At.nil H
    refine ⟨_, (pss_cons (ps_if (PW.pt (pw_or (pt_not (pt_val (pe_callB (kIsi (K := K)) (by rfl) T.n_isinstance EB.bt_isinstance (pa_cons (pv 1) (pa_cons (pe_bltn (v := .ty "list") (by rfl) T.n_list EB.bt_list rfl) pa_nil))))) (pw_or (pt_cmpR op_lt (pe_callB (kLen (K := K)) (by rfl) T.n_len PySem.boot_len (pa_cons (pv 1) pa_nil)) pe_int (nomark _)) (pw_or1 (pt_not (pt_val (pe_callB (kAll (K := K)) (by rfl) T.n_all EB.bt_all (pa_cons (pe_lc (own := [("one", 2)]) (g := gName 2) rfl sc_Ring_init.nd (kPiL (K := K) (pv 1)) (blkOk_by (own := [("one", 2)]) (N := ["self", "houses", "one"]) (sc := defScope s_Ring_init) (by decide +kernel)) (fun _ _ _ _ _ => (pg_name (i := 2) sc_Ring_init.nd rfl (by first | exact Or.inl rfl | exact Or.inr rfl))) (fun _ _ _ _ _ => pts_nil) (fun _ _ _ _ _ => (pe_call (ok_is_house T) (hr.mono (by decide)) (by rfl) T.g_is_house T.F_is_house.kp (b_is_house T) .nil pass0 (pa_cons (pv 2) pa_nil)))) pa_nil)))))))) (pss_one ps_never) pss_nil)
      (pss_one (ps_fld (pv 0) (pe_callTy (kList (K := K)) (by rfl) T.n_list EB.bt_list (pa_cons (pv 1) pa_nil)) rfl))), ?_⟩
    repeat walk_at "s"
    refine r_lcLB (fun _ => true) A (.inl ha) (by omega) (fun _ => rfl) (fun i x D H' Q' hx A' q => ?_) (fun D H' A' => ?_)
    · repeat walk_at "s"
      refine ⟨x, rfl, (hb x (List.mem_of_getElem? hx)).1, (hb x (List.mem_of_getElem? hx)).2, ?_⟩
      exact q.t0 rfl A'
    · repeat walk_at "s"
      rw [show ((hs.map fun _ => true).all id) = true by simp]
      repeat walk_at "s"
      refine r_list A' (by walk_at "sq") (fun l H2 A2 => ?_)
      repeat walk_at "s"
      refine r_sfK (A2.ex _ _ hp) T.cl_Ring T.no_Ring_over (by decide) ?_
      have npl : l ≠ p := fun e => by
        have z := A2.new _ List.mem_cons_self
        rw [e] at z
        rw [z] at hp
        cases hp
      refine k l _ (A2.new _ List.mem_cons_self) (fun b o e hb => ?_) upd_same ?_
      · rw [upd_ne hb]
        exact A2.ex _ _ e
      · rw [upd_ne npl]
        exact A2.get List.mem_cons_self
/-- a ring made -/
theorem use_Ring {T : Txt K mg} {H : Hp} {Q : VK} {E : XK} {a : Addr} {hs : List Int} (ha : SqL K H a (hs.map V.int)) (h2 : 2 ≤ hs.length) (hl : hs.length ≤ 1000) (hb : ∀ x ∈ hs, -1000000 ≤ x ∧ x ≤ 1000000)
    (k : ∀ p H', Same H H' → H p = none → RingAt T H' p hs → Q (.ref p) H') : mkC T.c_Ring (sp_Ring_init T) [.ref a] H Q E := fun x dx nx nd ne =>
  ⟨x, dx, a, hs, rfl, upd_same, (same_mk nx nd).seq ha, h2, hl, hb, fun l H' _ keep hp hl' => ⟨rfl, k x H' (fun b o e => keep b o (same_mk nx nd b o e) (ne_of_none e nx)) nx ⟨dx, l, hp, hl'⟩⟩⟩
def sp_Ring_houses (T : Txt K mg) : Sp := fun vs H Q _ => ∃ (p : Addr) (hs : List Int), vs = [.ref p] ∧ RingAt T H p hs ∧ ∀ q H', Same H H' → H q = none → H' q = some (.lst (hs.map V.int)) → Q (.ref q) H'
theorem ok_Ring_houses (T : Txt K mg) : FnOk P w K mg base CX0 1 T.f_Ring_houses T.fd_Ring_houses ["self"] (sp_Ring_houses T) := by
  refine T.F_Ring_houses.ok sc_Ring_houses (fun vs H Q E h => ?_) (fun cdv A outer s H vs Q E hr h => ?_)
  · obtain ⟨_, _, rfl, _⟩ := h
    rfl
  · skip
    obtain ⟨p, hs, rfl, ⟨dx, l, hp, hl⟩, k⟩ := h
    have A := At.nil H
    refine ⟨_, (pss_one (ps_ret (pe_callTy (kList (K := K)) (by rfl) T.n_list EB.bt_list (pa_cons (kFld (K := K) (pv 0)) pa_nil)))), ?_⟩
    repeat walk_at "s"
    refine r_list A (SqL.of hl) (fun q H2 A2 => ?_)
    exact k q H2 A2.ex (A2.new _ List.mem_cons_self) (A2.get List.mem_cons_self)
def sp_Ring_whole (T : Txt K mg) : Sp := fun vs H Q _ => ∃ (p : Addr) (hs : List Int), vs = [.ref p] ∧ RingAt T H p hs ∧ Q (.int hs.sum) H
theorem ok_Ring_whole (T : Txt K mg) : FnOk P w K mg base CX0 1 T.f_Ring_whole T.fd_Ring_whole ["self"] (sp_Ring_whole T) := by
  refine T.F_Ring_whole.ok sc_Ring_whole (fun vs H Q E h => ?_) (fun cdv A outer s H vs Q E hr h => ?_)
  · obtain ⟨_, _, rfl, _⟩ := h
    rfl
  · skip
    obtain ⟨p, hs, rfl, ⟨dx, l, hp, hl⟩, k⟩ := h
    have hs' : SqL K H l (hs.map V.int) := SqL.of hl
    refine ⟨_, (pss_one (ps_ret (pe_callB (kSum (K := K)) (by rfl) T.n_sum EB.bt_sum (pa_cons (kFld (K := K) (pv 0)) pa_nil)))), ?_⟩
    repeat walk_at "s"
    exact k
/-- o.houses(), o.whole() of a ring -/
theorem use_houses {T : Txt K mg} {H : Hp} {Q : VK} {E : XK} {p : Addr} {hs : List Int} {σ : L2.St} (R : RingAt T H p hs) (k : ∀ q H', Same H H' → H q = none → H' q = some (.lst (hs.map V.int)) → Q (.ref q) H') : mthK T.c_Ring "houses" (sp_Ring_houses T) tNil σ (.ref p) H Q E := by
  obtain ⟨dx, l, hp, hl⟩ := id R
  exact r_mthK hp (look1 (by decide +kernel)) ⟨p, hs, rfl, R, k⟩
theorem use_whole {T : Txt K mg} {H : Hp} {Q : VK} {E : XK} {p : Addr} {hs : List Int} {σ : L2.St} (R : RingAt T H p hs) (k : Q (.int hs.sum) H) : mthK T.c_Ring "whole" (sp_Ring_whole T) tNil σ (.ref p) H Q E := by
  obtain ⟨dx, l, hp, hl⟩ := id R
  exact r_mthK hp (look1 (by decide +kernel)) ⟨p, hs, rfl, R, k⟩
/-- a ring made, its list known -/
theorem use_RingL {T : Txt K mg} {H : Hp} {Q : VK} {E : XK} {a : Addr} {hs : List Int} (ha : SqL K H a (hs.map V.int)) (h2 : 2 ≤ hs.length) (hl : hs.length ≤ 1000) (hb : ∀ x ∈ hs, -1000000 ≤ x ∧ x ≤ 1000000)
    (k : ∀ p l dx H', Same H H' → H p = none → H l = none → H' p = some (.ins T.c_Ring dx [("over", .ref l)]) → H' l = some (.lst (hs.map V.int)) → Q (.ref p) H') : mkC T.c_Ring (sp_Ring_init T) [.ref a] H Q E := fun x dx nx nd _ =>
  ⟨x, dx, a, hs, rfl, upd_same, (same_mk nx nd).seq ha, h2, hl, hb, fun l H' h0 keep hp hl' => ⟨rfl, k x l dx H' (fun b o e => keep b o (same_mk nx nd b o e) (ne_of_none e nx)) nx ((same_mk nx nd).free h0) hp hl'⟩⟩

def sp_law_cell_at (_ : Txt K mg) : Sp := fun vs H Q _ => ∃ (a : Addr) (ns : List Int) (k : Int), vs = [.ref a, .int k] ∧ SqL K H a (ns.map V.int) ∧ 0 ≤ k ∧ ∀ c : Int, Q (.int c) H
theorem ok_law_cell_at (T : Txt K mg) : FnOk P w K mg base CX0 1 T.f_law_cell_at T.fd_law_cell_at ["_law_script", "_law_k"] (sp_law_cell_at T) := by
  refine T.F_law_cell_at.ok sc_law_cell_at (fun vs H Q E h => ?_) (fun cdv A outer s H vs Q E hr h => ?_)
  · obtain ⟨_, _, _, rfl, _⟩ := h
    rfl
  · skip
    obtain ⟨a, ns, i, rfl, ha, hi, k⟩ := h
    refine ⟨_, (pss_cons (ps_if (pt_cmpR op_lt (pv 1) (pe_callB (kLen (K := K)) (by rfl) T.n_len PySem.boot_len (pa_cons (pv 0) pa_nil)) (nomark _)) (pss_one (ps_ret (pe_ix (kIxL (K := K)) (pv 0) (pv 1) (fun _ _ => rfl)))) pss_nil)
      (pss_one (ps_ret pe_int))), ?_⟩
    repeat walk_at "s"
    refine r_ifD (fun hlt => ?_) (fun _ => ?_)
    · repeat walk_at "s"
      exact k _
    · repeat walk_at "s"
      exact k _
theorem use_cell {T : Txt K mg} {H : Hp} {Q : VK} {E : XK} {a : Addr} {ns : List Int} {i : Int} (ha : SqL K H a (ns.map V.int)) (hi : 0 ≤ i) (k : ∀ c : Int, Q (.int c) H) : sp_law_cell_at T [.ref a, .int i] H Q E := ⟨a, ns, i, rfl, ha, hi, k⟩
def sp_law_draw (_ : Txt K mg) : Sp := fun vs H Q _ => ∃ c i m : Int, vs = [.int c, .int i, .int m] ∧ 0 < m ∧ ∀ d H', Same H H' → 0 ≤ d → d < m → Q (.int d) H'
def primes : List Int := [1000003, 1000033, 1000037, 1000039, 1000081, 1000099, 1000117, 1000121, 1000133, 1000151, 1000159, 1000171, 1000183, 1000187, 1000193, 1000199]
theorem primes_pos : ∀ x ∈ primes, 0 < x := by decide
theorem ok_law_draw (T : Txt K mg) : FnOk P w K mg base CX0 1 T.f_law_draw T.fd_law_draw ["_law_cell", "_law_k", "_law_many"] (sp_law_draw T) := by
  refine T.F_law_draw.ok sc_law_draw (fun vs H Q E h => ?_) (fun cdv A outer s H vs Q E hr h => ?_)
  · obtain ⟨_, _, _, rfl, _⟩ := h
    rfl
  · skip
    obtain ⟨c, i, m, rfl, hm, k⟩ := h
    have A := At.nil H
    refine ⟨_, (pss_cons (ps_set (i := 3) sc_law_draw.nd rfl (by first | exact Or.inl rfl | exact Or.inr rfl) (pe_tup (pa_cons pe_int (pa_cons pe_int (pa_cons pe_int (pa_cons pe_int (pa_cons pe_int (pa_cons pe_int (pa_cons pe_int (pa_cons pe_int (pa_cons pe_int (pa_cons pe_int (pa_cons pe_int (pa_cons pe_int (pa_cons pe_int (pa_cons pe_int (pa_cons pe_int (pa_cons pe_int pa_nil))))))))))))))))))
      (pss_one (ps_ret (pe_op op_mod (pe_op op_mod (pe_op op_add (pe_op op_mul (pv 0) pe_int) (pe_op op_mul (pv 1) pe_int)) (pe_ix (kIxT (K := K)) (pv 3) (pe_op op_mod (pv 1) pe_int) (fun _ _ => rfl))) (pv 2))))), ?_⟩
    repeat walk_at "s"
    refine r_mkT A (by decide) (fun t H' A' => ?_)
    repeat walk_at "s"
    have h1 : 0 ≤ i % 16 := Int.emod_nonneg _ (by decide)
    have h2 : i % 16 < 16 := Int.emod_lt_of_pos _ (by decide)
    refine r_ixT (xs := primes.map V.int) (v := .int (gz primes (i % 16))) (A'.sto (by walk_at "mem")) (atI_gz (by show -(16 : Int) ≤ _; omega) h2) ?_
    have h3 : 0 < gz primes (i % 16) := primes_pos _ (EM.gz_mem (by show -(16 : Int) ≤ _; omega) h2)
    repeat walk_at "s"
    exact k _ H' A'.ex (Int.emod_nonneg _ (by omega)) (Int.emod_lt_of_pos _ hm)
theorem use_draw {T : Txt K mg} {H0 H : Hp} {L : List (Addr × HO)} {Q : VK} {E : XK} {c i m : Int} (A : At H0 L H) (hm : 0 < m) (k : ∀ d H', At H0 L H' → 0 ≤ d → d < m → Q (.int d) H') : sp_law_draw T [.int c, .int i, .int m] H Q E :=
  ⟨c, i, m, rfl, hm, fun d H' s h0 h1 => k d H' (A.same s) h0 h1⟩
local macro_rules | `(tactic| walk_at "s") => `(tactic| ((with_reducible show sp_law_draw _ [_, _, _] _ _ _); refine use_draw (by assumption) (by omega) ?_; intro d H' A' h0 h1))
local macro_rules | `(tactic| walk_at "s") => `(tactic| ((with_reducible show sp_law_cell_at _ [_, _] _ _ _); refine use_cell (by walk_at "sq") (by omega) ?_; intro c))
def sp_law_houses (_ : Txt K mg) : Sp := fun vs H Q _ => ∃ (a : Addr) (ns : List Int) (f : Int), vs = [.ref a, .int f] ∧ SqL K H a (ns.map V.int) ∧ ns.length ≤ 63 ∧ -6 ≤ f ∧ f ≤ 6 ∧
  ∀ hs q H', EM.Houses ns.length hs → Same H H' → H q = none → H' q = some (.lst (hs.map V.int)) → Q (.ref q) H'
theorem ok_law_houses (T : Txt K mg) : FnOk P w K mg base CX0 2 T.f_law_houses T.fd_law_houses ["_law_script", "_law_first"] (sp_law_houses T) := by
  refine T.F_law_houses.ok sc_law_houses (fun vs H Q E h => ?_) (fun cdv A outer s H vs Q E hr h => ?_)
  · obtain ⟨_, _, _, rfl, _⟩ := h
    rfl
  · skip
    obtain ⟨a, ns, f, rfl, ha, hn, hf1, hf2, k⟩ := h
    have A := At.nil H
    refine ⟨_, (pss_cons (ps_set (i := 2) sc_law_houses.nd rfl (by first | exact Or.inl rfl | exact Or.inr rfl) (pe_ix (kIxT (K := K)) (pe_tup (pa_cons pe_int (pa_cons pe_int (pa_cons pe_int (pa_cons pe_int pa_nil))))) (pe_call (ok_law_draw T) (hr.mono (by decide)) (by rfl) T.g_law_draw T.F_law_draw.kp (b_law_draw T) .nil pass0 (pa_cons (pe_call (ok_law_cell_at T) (hr.mono (by decide)) (by rfl) T.g_law_cell_at T.F_law_cell_at.kp (b_law_cell_at T) .nil pass0 (pa_cons (pv 0) (pa_cons pe_int pa_nil))) (pa_cons pe_int (pa_cons pe_int pa_nil)))) (fun _ _ => rfl)))
      (pss_cons (ps_set (i := 3) sc_law_houses.nd rfl (by first | exact Or.inl rfl | exact Or.inr rfl) (pe_lst (pa_cons (pe_op op_sub (pe_call (ok_law_draw T) (hr.mono (by decide)) (by rfl) T.g_law_draw T.F_law_draw.kp (b_law_draw T) .nil pass0 (pa_cons (pe_call (ok_law_cell_at T) (hr.mono (by decide)) (by rfl) T.g_law_cell_at T.F_law_cell_at.kp (b_law_cell_at T) .nil pass0 (pa_cons (pv 0) (pa_cons pe_int pa_nil))) (pa_cons pe_int (pa_cons pe_int pa_nil)))) pe_int) (pa_cons (pv 1) pa_nil))))
      (pss_cons (ps_for PassesOwn.never rfl (pi_range1 (by rfl) T.n_range (pa_cons (pe_callB (kLen (K := K)) (by rfl) T.n_len PySem.boot_len (pa_cons (pv 0) pa_nil)) pa_nil)) (pg_name (i := 4) sc_law_houses.nd rfl (by first | exact Or.inl rfl | exact Or.inr rfl)) (pss_one (ps_expr (pe_bm PySem.F.plainAttrs_list PySem.F.slot_list_append PySem.F.type_list_append mt_append (pv 3) (pa_cons (pe_op op_sub (pe_call (ok_law_draw T) (hr.mono (by decide)) (by rfl) T.g_law_draw T.F_law_draw.kp (b_law_draw T) .nil pass0 (pa_cons (pe_ix (kIxL (K := K)) (pv 0) (pv 4) (fun _ _ => rfl)) (pa_cons (pe_op op_add (pe_op op_mod (pv 4) pe_int) pe_int) (pa_cons (pe_op op_add (pe_op op_mul pe_int (pv 2)) pe_int) pa_nil)))) (pv 2)) pa_nil)))))
      (pss_one (ps_ret (pe_lc (own := [("_law_k", 4)]) (g := gName 4) rfl sc_law_houses.nd (pi_range1 (by rfl) T.n_range (pa_cons (pe_callB (kLen (K := K)) (by rfl) T.n_len PySem.boot_len (pa_cons (pv 3) pa_nil)) pa_nil)) (blkOk_by (own := [("_law_k", 4)]) (N := ["_law_script", "_law_first", "_law_most", "_law_carried", "_law_k"]) (sc := defScope s_law_houses) (by decide +kernel)) (fun _ _ _ _ _ => (pg_name (i := 4) sc_law_houses.nd rfl (by first | exact Or.inl rfl | exact Or.inr rfl))) (fun _ _ _ _ _ => pts_nil) (fun _ _ _ _ _ => (pe_op op_sub (pe_ix (kIxL (K := K)) (pv 3) (pv 4) (fun _ _ => rfl)) (pe_ix (kIxL (K := K)) (pv 3) (pe_op op_sub (pv 4) pe_int) (fun _ _ => rfl)))))))))), ?_⟩
    repeat walk_at "s"
    refine r_mkT A (by decide) (fun t H1 A1 => ?_)
    repeat walk_at "s"
    rename_i d Hd Ad hd0 hd3
    refine r_ixTI (ns := [2, 9, 400, 499999]) (Ad.sto (by walk_at "mem")) (by show -(4 : Int) ≤ _; omega) (by show _ < (4 : Int); omega) ?_
    have hm : 2 ≤ gz [2, 9, 400, 499999] d ∧ gz [2, 9, 400, 499999] d ≤ 499999 := (by decide : ∀ x ∈ ([2, 9, 400, 499999] : List Int), 2 ≤ x ∧ x ≤ 499999) _ (EM.gz_mem (by show -(4 : Int) ≤ _; omega) (by show _ < (4 : Int); omega))
    generalize gz [2, 9, 400, 499999] d = m at hm ⊢
    repeat walk_at "s"
    rename_i c0 d0 H0 A0 h00 h03
    refine r_mkL A0 (by show 2 ≤ 10000000; decide) (fun l H2 A2 => ?_)
    repeat walk_at "s"
    refine r_rng1 rfl (by omega) ?_
    have A3 : At H [(l, .lst (([d0 - 1, f] : List Int).map V.int))] H2 := A2.sub (by simp)
    refine r_forItr (fun i σ H' => ∃ (cs : List Int) (v : Option V), σ = [some (.ref a), some (.int f), some (.int m), some (.ref l), v] ∧ At H [(l, .lst (cs.map V.int))] H' ∧ cs.length = i + 2 ∧ (∀ c ∈ cs, -499999 ≤ c ∧ c ≤ 499999) ∧ -1 ≤ EM.fz cs 0 ∧ EM.fz cs 0 ≤ 1)
      ⟨[d0 - 1, f], none, rfl, A3, rfl, ?_, ?_, ?_⟩ ?_ ?_
    · intro c hc
      simp at hc
      rcases hc with rfl | rfl <;> omega
    · show -1 ≤ d0 - 1; omega
    · show d0 - 1 ≤ 1; omega
    · rintro i σ H3 N hi ⟨cs, v, rfl, A4, hl, hb, hz1, hz2⟩ hN
      repeat walk_at "s"
      rename_i c d H4 A5 hd0 hd1
      refine r_append A5 (by rw [List.length_map]; omega) (fun H5 A6 => ?_)
      refine hN _ _ ⟨cs ++ [d - m], some (.int i), rfl, by rw [← EM.map_app]; exact A6, by rw [List.length_append, hl]; rfl, ?_, ?_⟩
      · intro c hc
        rcases List.mem_append.mp hc with hc | hc
        · exact hb c hc
        · rw [List.mem_singleton] at hc
          omega
      · rw [EM.fz_app (fun e => by rw [e] at hl; simp at hl)]
        exact ⟨hz1, hz2⟩
    · rintro σ H3 ⟨cs, v, rfl, A4, hl, hb, hz1, hz2⟩
      repeat walk_at "s"
      refine r_rng1 (n := cs.length) rfl (by omega) ?_
      refine r_lcRI (fun k => gz cs (k : Int) - gz cs ((k : Int) - 1)) A4 (by omega) (fun _ => rfl) (fun i D H' Q' hi A' q => ?_) (fun D H' A' => ?_)
      · repeat walk_at "s"
        exact q.t0 rfl A'
      · exact k (EM.cyc cs) D H' (EM.houses_of hl hb ⟨hz1, hz2⟩) A'.ex (A'.new _ List.mem_cons_self) (A'.get List.mem_cons_self)

def sp_running (_ : Txt K mg) : Sp := fun vs H Q _ => ∃ (a : Addr) (hs : List Int), vs = [.ref a] ∧ SqL K H a (hs.map V.int) ∧ hs.length ≤ 1000 ∧ ∀ q H', Same H H' → H q = none → H' q = some (.lst ((EM.runs hs).map V.int)) → Q (.ref q) H'
theorem ok_running (T : Txt K mg) : FnOk P w K mg base CX0 1 T.f_running T.fd_running ["houses"] (sp_running T) := by
  refine T.F_running.ok sc_running (fun vs H Q E h => ?_) (fun cdv A outer s H vs Q E hr h => ?_)
  · obtain ⟨_, _, rfl, _⟩ := h
    rfl
  · skip
    obtain ⟨a, hs, rfl, ha, hl, k⟩ := h
    have A := At.nil H
    refine ⟨_, (pss_cons (ps_set (i := 1) sc_running.nd rfl (by first | exact Or.inl rfl | exact Or.inr rfl) (pe_lst pa_nil))
      (pss_cons (ps_set (i := 2) sc_running.nd rfl (by first | exact Or.inl rfl | exact Or.inr rfl) pe_int)
      (pss_cons (ps_for PassesOwn.never rfl (kPiL (K := K) (pv 0)) (pg_name (i := 3) sc_running.nd rfl (by first | exact Or.inl rfl | exact Or.inr rfl)) (pss_cons (ps_aug (i := 2) sc_running.nd rfl (by first | exact Or.inl rfl | exact Or.inr rfl) (pv 3) ip_add)
      (pss_one (ps_expr (pe_bm PySem.F.plainAttrs_list PySem.F.slot_list_append PySem.F.type_list_append mt_append (pv 1) (pa_cons (pv 2) pa_nil))))))
      (pss_one (ps_ret (pv 1)))))), ?_⟩
    repeat walk_at "s"
    refine r_mkL A (by decide) (fun l H1 A1 => ?_)
    repeat walk_at "s"
    refine r_forItlI hs (fun i σ H' => ∃ (v : Option V), σ = [some (.ref a), some (.ref l), some (.int (hs.take i).sum), v] ∧ At H [(l, .lst (((EM.runs hs).take i).map V.int))] H') ⟨none, rfl, A1⟩ (fun i σ H' _ ⟨v, _, A'⟩ => A'.sq ha) ?_ ?_
    · rintro i x σ H2 N hx ⟨v, rfl, A2⟩ hN
      repeat walk_at "s"
      have hrl := EM.runs_len hs
      refine r_append A2 (by rw [List.length_map, List.length_take]; omega) (fun H3 A3 => ?_)
      have e : (hs.take i).sum + x = (hs.take (i + 1)).sum := (sum_take hx).symm
      rw [e] at A3 ⊢
      refine hN _ _ ⟨_, rfl, ?_⟩
      rw [EM.runs_take hx, ← EM.map_app]
      exact A3
    · rintro σ H2 ⟨v, rfl, A2⟩
      repeat walk_at "s"
      have e : (EM.runs hs).take hs.length = EM.runs hs := List.take_of_length_le (by rw [EM.runs_len]; omega)
      rw [e] at A2
      exact k l H2 A2.ex (A2.new _ List.mem_cons_self) (A2.get List.mem_cons_self)
theorem use_running {T : Txt K mg} {H0 H : Hp} {L : List (Addr × HO)} {Q : VK} {E : XK} {a : Addr} {hs : List Int} (A : At H0 L H) (ha : SqL K H a (hs.map V.int)) (hl : hs.length ≤ 1000) (k : ∀ q H', At H0 ((q, .lst ((EM.runs hs).map V.int)) :: L) H' → Q (.ref q) H') : sp_running T [.ref a] H Q E :=
  ⟨a, hs, rfl, ha, hl, fun q H' s h0 h1 => k q H' (A.made s h0 h1)⟩

/-! things of any kind -/
def Th (K : PySem.W.Frag) (H : Hp) (x : V) : Prop := x = .non ∨ (∃ i, x = .int i) ∨ (∃ b, x = .bl b) ∨ (∃ t, x = .str t) ∨ (∃ p xs, x = .ref p ∧ SqL K H p xs) ∨ (∃ p xs, x = .ref p ∧ SqT K H p xs) ∨ (∃ p, x = .ref p ∧ H p = some (.dK []))
theorem Th.mono {H H' : Hp} {x : V} (s : Same H H') (h : Th K H x) : Th K H' x := by
  rcases h with h | h | h | h | ⟨p, xs, e, h⟩ | ⟨p, xs, e, h⟩ | ⟨p, e, h⟩
  · exact .inl h
  · exact .inr (.inl h)
  · exact .inr (.inr (.inl h))
  · exact .inr (.inr (.inr (.inl h)))
  · exact .inr (.inr (.inr (.inr (.inl ⟨p, xs, e, s.seq h⟩))))
  · exact .inr (.inr (.inr (.inr (.inr (.inl ⟨p, xs, e, EB.Same.st s h⟩)))))
  · exact .inr (.inr (.inr (.inr (.inr (.inr ⟨p, e, s _ _ h⟩)))))
/-- what is no list -/
def NotL (K : PySem.W.Frag) (H : Hp) (x : V) : Prop := x = .non ∨ (∃ t, x = .str t) ∨ (∃ p xs, x = .ref p ∧ SqT K H p xs) ∨ (∃ p, x = .ref p ∧ H p = some (.dK []))
theorem NotL.mono {H H' : Hp} {x : V} (s : Same H H') (h : NotL K H x) : NotL K H' x := by
  rcases h with h | h | ⟨p, xs, e, h⟩ | ⟨p, e, h⟩
  · exact .inl h
  · exact .inr (.inl h)
  · exact .inr (.inr (.inl ⟨p, xs, e, EB.Same.st s h⟩))
  · exact .inr (.inr (.inr ⟨p, e, s _ _ h⟩))
def isI : V → Bool | .int _ => true | _ => false
def inB (i : Int) : Bool := decide (-1000000 ≤ i ∧ i ≤ 1000000)
def isH : V → Bool | .int i => inB i | _ => false
def isT : V → Bool | .int i => decide (0 ≤ i ∧ i ≤ 1000) | _ => false
theorem isI_int {x : V} (h : isI x = true) : ∃ i, x = .int i := by
  cases x with
  | int i => exact ⟨i, rfl⟩
  | _ => cases h
theorem isH_no {x : V} (h : isI x = false) : isH x = false := by
  cases x with
  | int i => cases h
  | _ => rfl
theorem isT_no {x : V} (h : isI x = false) : isT x = false := by
  cases x with
  | int i => cases h
  | _ => rfl
theorem r_isiN {H : Hp} {Q : VK} {b : Bool} {n : String} (h : kitB "NoneType" n = some b) (k : Q (.bl b) H) : rIsi K [.non, .ty n] H Q := ⟨_, _, _, _, b, rfl, .ty n, .base .non, kit_ty h, k⟩
theorem r_isiS {H : Hp} {Q : VK} {z : Str} {b : Bool} {n : String} (h : kitB "str" n = some b) (k : Q (.bl b) H) : rIsi K [.str z, .ty n] H Q := ⟨_, _, _, _, b, rfl, .ty n, .base (.str z), kit_ty h, k⟩
theorem r_isiDk {H : Hp} {Q : VK} {p : Addr} {kvs : List (Key × V)} {b : Bool} {n : String} (e : H p = some (.dK kvs)) (h : kitB "dict" n = some b) (k : Q (.bl b) H) : rIsi K [.ref p, .ty n] H Q := ⟨_, _, _, _, b, rfl, .ty n, .base (.dK e), kit_ty h, k⟩
/-- isinstance(x, list) of what is none -/
theorem r_isiNL {H : Hp} {Q : VK} {x : V} (h : NotL K H x) (k : Q (.bl false) H) : rIsi K [x, .ty "list"] H Q := by
  rcases h with rfl | ⟨t, rfl⟩ | ⟨p, xs, rfl, h⟩ | ⟨p, rfl, h⟩
  · exact r_isiN (by decide +kernel) k
  · exact r_isiS (by decide +kernel) k
  · exact r_isiT h (by decide +kernel) k
  · exact r_isiDk h (by decide +kernel) k
def sp_is_wholeG (_ : Txt K mg) : Sp := fun vs H Q _ => ∃ x : V, vs = [x] ∧ Th K H x ∧ Q (.bl (isI x)) H
theorem ok_is_wholeG (T : Txt K mg) : FnOk P w K mg base CX0 1 T.f_is_whole T.fd_is_whole ["thing"] (sp_is_wholeG T) := by
  refine T.F_is_whole.ok sc_is_whole (fun vs H Q E h => ?_) (fun cdv A outer s H vs Q E hr h => ?_)
  · obtain ⟨_, rfl, _⟩ := h
    rfl
  · skip
    obtain ⟨x, rfl, h, k⟩ := h
    refine ⟨_, (pss_one (ps_ret (pe_and (pe_callB (kIsi (K := K)) (by rfl) T.n_isinstance EB.bt_isinstance (pa_cons (pv 0) (pa_cons (pe_bltn (v := .ty "int") (by rfl) T.n_int EB.bt_int rfl) pa_nil))) (pe_one (pe_not (pe_callB (kIsi (K := K)) (by rfl) T.n_isinstance EB.bt_isinstance (pa_cons (pv 0) (pa_cons (pe_bltn (v := .ty "bool") (by rfl) T.n_bool EB.bt_bool rfl) pa_nil)))))))), ?_⟩
    repeat walk_at "s"
    rcases h with rfl | ⟨i, rfl⟩ | ⟨b, rfl⟩ | ⟨t, rfl⟩ | ⟨p, xs, rfl, hs⟩ | ⟨p, xs, rfl, hs⟩ | ⟨p, rfl, hp⟩
    · refine r_isiN (b := false) (by decide +kernel) ?_
      repeat walk_at "s"
      exact k
    · repeat walk_at "s"
      exact k
    · repeat walk_at "s"
      exact k
    · refine r_isiS (b := false) (by decide +kernel) ?_
      repeat walk_at "s"
      exact k
    · refine r_isiL (b := false) hs (by decide +kernel) ?_
      repeat walk_at "s"
      exact k
    · refine r_isiT (b := false) hs (by decide +kernel) ?_
      repeat walk_at "s"
      exact k
    · refine r_isiDk (b := false) hp (by decide +kernel) ?_
      repeat walk_at "s"
      exact k
def sp_is_houseG (_ : Txt K mg) : Sp := fun vs H Q _ => ∃ x : V, vs = [x] ∧ Th K H x ∧ Q (.bl (isH x)) H
theorem ok_is_houseG (T : Txt K mg) : FnOk P w K mg base CX0 2 T.f_is_house T.fd_is_house ["thing"] (sp_is_houseG T) := by
  refine T.F_is_house.ok sc_is_house (fun vs H Q E h => ?_) (fun cdv A outer s H vs Q E hr h => ?_)
  · obtain ⟨_, rfl, _⟩ := h
    rfl
  · skip
    obtain ⟨x, rfl, h, k⟩ := h
    refine ⟨_, (pss_one (ps_ret (pe_and (pe_call (ok_is_wholeG T) (hr.mono (by decide)) (by rfl) T.g_is_whole T.F_is_whole.kp (b_is_whole T) .nil pass0 (pa_cons (pv 0) pa_nil)) (pe_one (pe_chain op_le op_le (pe_un un_neg (pe_glob (v := .int 1000000) (by rfl) T.k_GREATEST_rings.2 ⟨_, rfl⟩)) (pv 0) (pe_glob (v := .int 1000000) (by rfl) T.k_GREATEST_rings.2 ⟨_, rfl⟩)))))), ?_⟩
    repeat walk_at "s"
    refine ⟨x, rfl, h, ?_⟩
    cases e : isI x with
    | false =>
      rw [isH_no e] at k
      repeat walk_at "s"
      exact k
    | true =>
      obtain ⟨i, rfl⟩ := isI_int e
      repeat walk_at "s"
      refine r_ifD (fun e => ?_) (fun e => ?_)
      · repeat walk_at "s"
        have z : inB i = decide (i ≤ 1000000) := decide_eq_decide.mpr ⟨fun z => z.2, fun z => ⟨e, z⟩⟩
        have k : Q (.bl (inB i)) H := k
        rw [z] at k
        exact k
      · repeat walk_at "s"
        have z : inB i = false := decide_eq_false (fun z => e z.1)
        have k : Q (.bl (inB i)) H := k
        rw [z] at k
        exact k
def goodR (xs : List V) : Bool := decide (2 ≤ xs.length) && xs.all isH
def BadR (K : PySem.W.Frag) (H : Hp) (x : V) : Prop := NotL K H x ∨ ∃ a xs, x = .ref a ∧ SqL K H a xs ∧ xs.length ≤ 1000 ∧ (∀ y ∈ xs, Th K H y) ∧ goodR xs = false
theorem BadR.mono {H H' : Hp} {x : V} (s : Same H H') (h : BadR K H x) : BadR K H' x := by
  rcases h with h | ⟨a, xs, e, h, hl, hy, hg⟩
  · exact .inl (h.mono s)
  · exact .inr ⟨a, xs, e, s.seq h, hl, fun y hm => (hy y hm).mono s, hg⟩
theorem all_map_bl {α : Type} (f : α → Bool) (l : List α) : (l.map f).all id = l.all f := by
  induction l with
  | nil => rfl
  | cons a r ih => rw [List.map_cons, List.all_cons, List.all_cons, ih]; rfl
def sp_Ring_initX (T : Txt K mg) : Sp := fun vs H _ E => ∃ (p : Addr) (x : V), vs = [.ref p, x] ∧ BadR K H x ∧ ∀ H', Same H H' → E (.ref T.c_BadRing) none H'
theorem ok_Ring_initX (T : Txt K mg) : FnOk P w K mg base (L2.CX P w) 3 T.f_Ring_init T.fd_Ring_init ["self", "houses"] (sp_Ring_initX T) := by
  refine T.F_Ring_init.okX sc_Ring_init (fun vs H Q E h => ?_) (fun cdv A outer s H vs Q E hr h => ?_)
  · obtain ⟨_, _, rfl, _⟩ := h
    rfl
  · skip
    obtain ⟨p, x, rfl, h, k⟩ := h
    have A := At.nil H
    refine ⟨_, (pss_cons (ps_if (PW.pt (pw_or (pt_not (pt_val (pe_callB (kIsi (K := K)) (by rfl) T.n_isinstance EB.bt_isinstance (pa_cons (pv 1) (pa_cons (pe_bltn (v := .ty "list") (by rfl) T.n_list EB.bt_list rfl) pa_nil))))) (pw_or (pt_cmpR op_lt (pe_callB (kLen (K := K)) (by rfl) T.n_len PySem.boot_len (pa_cons (pv 1) pa_nil)) pe_int (nomark _)) (pw_or1 (pt_not (pt_val (pe_callB (kAll (K := K)) (by rfl) T.n_all EB.bt_all (pa_cons (pe_lc (own := [("one", 2)]) (g := gName 2) rfl sc_Ring_init.nd (kPiL (K := K) (pv 1)) (blkOk_by (own := [("one", 2)]) (N := ["self", "houses", "one"]) (sc := defScope s_Ring_init) (by decide +kernel)) (fun _ _ _ _ _ => (pg_name (i := 2) sc_Ring_init.nd rfl (by first | exact Or.inl rfl | exact Or.inr rfl))) (fun _ _ _ _ _ => pts_nil) (fun _ _ _ _ _ => (pe_call (ok_is_houseG T) (hr.mono (by decide)) (by rfl) T.g_is_house T.F_is_house.kp (b_is_house T) .nil pass0 (pa_cons (pv 2) pa_nil)))) pa_nil)))))))) (pss_one (ps_raise rfl (takes_of rfl rfl rfl rfl) (pmk_own PySem.F.excBase_ValueError T.x_BadRing T.g_BadRing T.kc_BadRing (raises_own T.be_BadRing T.ty_BadRing) (by exact rfl)))) pss_nil)
      (pss_one ps_never)), ?_⟩
    repeat walk_at "s"
    rcases h with h | ⟨a, xs, rfl, hs, hn, hy, hg⟩
    · refine r_isiNL h ?_
      repeat walk_at "s"
      exact k _ (Same.refl _)
    repeat walk_at "s"
    refine r_ifD (fun e => ?_) (fun e => ?_)
    · repeat walk_at "s"
      exact k _ (Same.refl _)
    repeat walk_at "s"
    refine r_lcItl (K := K) (xs := xs) (fun y => V.bl (isH y)) A (fun L' H' A' => A'.sq hs) (by omega) (fun _ => rfl) (fun i y D H' Q' hx A' q => ?_) (fun D H1 A1 => ?_)
    · repeat walk_at "s"
      refine ⟨y, rfl, (hy y (List.mem_of_getElem? hx)).mono A'.ex, ?_⟩
      exact q.t0 rfl A'
    have A1 : At H [(D, .lst ((xs.map isH).map V.bl))] H1 := by rw [List.map_map]; exact A1
    have hq : SqL K H1 D ((xs.map isH).map V.bl) := A1.sqo List.mem_cons_self
    have hall : (xs.map isH).all id = false := by
      rw [all_map_bl]
      unfold goodR at hg
      rw [decide_eq_true (by omega), Bool.true_and] at hg
      exact hg
    repeat walk_at "s"
    exact k _ A1.ex

def sp_turned (T : Txt K mg) : Sp := fun vs H _ E => ∃ r x : V, vs = [r, x] ∧ Th K H x ∧ isI x = false ∧ ∀ H', Same H H' → E (.ref T.c_BadMost) none H'
theorem ok_turned (T : Txt K mg) : FnOk P w K mg base (L2.CX P w) 2 T.f_turned T.fd_turned ["ring", "by"] (sp_turned T) := by
  refine T.F_turned.okX sc_turned (fun vs H Q E h => ?_) (fun cdv A outer s H vs Q E hr h => ?_)
  · obtain ⟨_, _, rfl, _⟩ := h
    rfl
  · skip
    obtain ⟨r, x, rfl, h, hi, k⟩ := h
    refine ⟨_, (pss_cons (ps_if (pt_not (pt_val (pe_call (ok_is_wholeG T) (hr.mono (by decide)) (by rfl) T.g_is_whole T.F_is_whole.kp (b_is_whole T) .nil pass0 (pa_cons (pv 1) pa_nil)))) (pss_one (ps_raise rfl (takes_of rfl rfl rfl rfl) (pmk_own PySem.F.excBase_ValueError T.x_BadMost T.g_BadMost T.kc_BadMost (raises_own T.be_BadMost T.ty_BadMost) (by exact rfl)))) pss_nil)
      (pss_cons ps_never
      (pss_one ps_never))), ?_⟩
    repeat walk_at "s"
    refine ⟨x, rfl, h, ?_⟩
    repeat walk_at "s"
    exact k _ (Same.refl _)
/-- two rings that don't go together, or do -/
def sums (hs ms : List Int) : List Int := List.zipWith (fun a b => a + b) hs ms
def sp_together (T : Txt K mg) : Sp := fun vs H Q E => ∃ (p q : Addr) (hs ms : List Int), vs = [.ref p, .ref q] ∧ RingAt T H p hs ∧ RingAt T H q ms ∧ 2 ≤ hs.length ∧ hs.length ≤ 1000 ∧
  (ms.length ≠ hs.length ∨ (ms.length = hs.length ∧ (sums hs ms).all inB = false) → ∀ H', Same H H' → E (.ref T.c_Unlike) none H') ∧
  (ms.length = hs.length ∧ (sums hs ms).all inB = true → ∀ r H', Same H H' → H r = none → RingAt T H' r (sums hs ms) → Q (.ref r) H')
theorem ok_together (T : Txt K mg) : FnOk P w K mg base (L2.CX P w) 5 T.f_together T.fd_together ["one", "other"] (sp_together T) := by
  refine T.F_together.okX sc_together (fun vs H Q E h => ?_) (fun cdv A outer s H vs Q E hr h => ?_)
  · obtain ⟨_, _, _, _, rfl, _⟩ := h
    rfl
  · skip
    obtain ⟨p, q, hs, ms, rfl, R1, R2, h2, hn, k0, k1⟩ := h
    obtain ⟨dx, l, hp, hl⟩ := id R1
    obtain ⟨dy, l2, hq, hl2⟩ := id R2
    have A := At.nil H
    have h1 : SqL K H l (hs.map V.int) := SqL.of hl
    have h3 : SqL K H l2 (ms.map V.int) := SqL.of hl2
    refine ⟨_, (pss_cons (ps_if (pt_cmpR op_ne (pe_callB (kLen (K := K)) (by rfl) T.n_len PySem.boot_len (pa_cons (kFld (K := K) (pv 0)) pa_nil)) (pe_callB (kLen (K := K)) (by rfl) T.n_len PySem.boot_len (pa_cons (kFld (K := K) (pv 1)) pa_nil)) (nomark _)) (pss_one (ps_raise rfl (takes_of rfl rfl rfl rfl) (pmk_own PySem.F.excBase_ValueError T.x_Unlike T.g_Unlike T.kc_Unlike (raises_own T.be_Unlike T.ty_Unlike) (by exact rfl)))) pss_nil)
      (pss_cons (ps_setLc (own := [("k", 3)]) (g := gName 3) (i := 2) rfl sc_together.nd rfl rfl (sw_true rfl rfl rfl (by decide +kernel)) (pi_range1 (by rfl) T.n_range (pa_cons (pe_callB (kLen (K := K)) (by rfl) T.n_len PySem.boot_len (pa_cons (kFld (K := K) (pv 0)) pa_nil)) pa_nil)) (blkOk_by (own := [("k", 3)]) (N := ["one", "other", "houses", "k", "house"]) (sc := defScope s_together) (by decide +kernel)) (fun _ _ _ _ _ => (pg_name (i := 3) sc_together.nd rfl (by first | exact Or.inl rfl | exact Or.inr rfl))) (fun _ _ _ _ _ => pts_nil) (fun _ _ _ _ _ => (pe_op op_add (pe_ix (kIxL (K := K)) (kFld (K := K) (pv 0)) (pv 3) (fun _ _ => rfl)) (pe_ix (kIxL (K := K)) (kFld (K := K) (pv 1)) (pv 3) (fun _ _ => rfl)))))
      (pss_cons (ps_if (pt_not (pt_val (pe_callB (kAll (K := K)) (by rfl) T.n_all EB.bt_all (pa_cons (pe_lc (own := [("house", 4)]) (g := gName 4) rfl sc_together.nd (kPiL (K := K) (pv 2)) (blkOk_by (own := [("house", 4)]) (N := ["one", "other", "houses", "k", "house"]) (sc := defScope s_together) (by decide +kernel)) (fun _ _ _ _ _ => (pg_name (i := 4) sc_together.nd rfl (by first | exact Or.inl rfl | exact Or.inr rfl))) (fun _ _ _ _ _ => pts_nil) (fun _ _ _ _ _ => (pe_call (ok_is_houseG T) (hr.mono (by decide)) (by rfl) T.g_is_house T.F_is_house.kp (b_is_house T) .nil pass0 (pa_cons (pv 4) pa_nil)))) pa_nil)))) (pss_one (ps_raise rfl (takes_of rfl rfl rfl rfl) (pmk_own PySem.F.excBase_ValueError T.x_Unlike T.g_Unlike T.kc_Unlike (raises_own T.be_Unlike T.ty_Unlike) (by exact rfl)))) pss_nil)
      (pss_one (ps_ret (pe_make T.mk_Ring (ok_Ring_init T) (hr.mono (by decide)) (by rfl) T.g_Ring (b_Ring_init T) .nil pass0 (pa_cons (pv 2) pa_nil))))))), ?_⟩
    repeat walk_at "s"
    refine r_ifND (fun e => ?_) (fun e => ?_)
    · exact k0 (.inl (by omega)) _ (Same.refl _)
    repeat walk_at "s"
    have hlen : ms.length = hs.length := by omega
    refine r_rng1 (n := hs.length) rfl (by omega) ?_
    refine r_lcRI (fun k => gz hs (k : Int) + gz ms (k : Int)) A (by omega) (fun _ => rfl) (fun i D H' Q' hi A' q => ?_) (fun D H1 A1 => ?_)
    · repeat walk_at "s"
      exact q.t0 rfl A'
    rw [EM.zip_gz hlen] at A1
    have hzl : (List.zipWith (fun a b => a + b) hs ms).length = hs.length := by rw [List.length_zipWith]; omega
    have k0 : (List.zipWith (fun a b => a + b) hs ms).all inB = false → ∀ H', Same H H' → E (.ref T.c_Unlike) none H' := fun z => k0 (.inr ⟨hlen, z⟩)
    have k1 : (List.zipWith (fun a b => a + b) hs ms).all inB = true → ∀ r H', Same H H' → H r = none → RingAt T H' r (List.zipWith (fun a b => a + b) hs ms) → Q (.ref r) H' := fun z => k1 ⟨hlen, z⟩
    generalize List.zipWith (fun a b => a + b) hs ms = zs at A1 hzl k0 k1
    repeat walk_at "s"
    refine r_lcLB inB A1 (.inr (by walk_at "mem")) (by omega) (fun _ => rfl) (fun i x D' H' Q' hx A' q => ?_) (fun D' H2 A2 => ?_)
    · repeat walk_at "s"
      refine ⟨.int x, rfl, .inr (.inl ⟨x, rfl⟩), ?_⟩
      exact q.t0 rfl A'
    cases hall : zs.all inB with
    | false =>
      have z : (zs.map inB).all id = false := by rw [all_map_bl]; exact hall
      repeat walk_at "s"
      exact k0 hall _ A2.ex
    | true =>
      have z : (zs.map inB).all id = true := by rw [all_map_bl]; exact hall
      repeat walk_at "s"
      refine use_Ring (A2.sqo (by walk_at "mem")) (by omega) (by omega) (fun x hx => of_decide_eq_true (List.all_eq_true.mp hall x hx)) (fun r H4 s4 n4 R4 => ?_)
      exact k1 hall r H4 (A2.ex.trans s4) (A2.ex.free n4) R4
def goodTl (n : Nat) (xs : List V) : Bool := decide (xs.length = n) && xs.all isT
def BadT (K : PySem.W.Frag) (H : Hp) (n : Nat) (x : V) : Prop := NotL K H x ∨ ∃ a xs, x = .ref a ∧ SqL K H a xs ∧ xs.length ≤ 1000 ∧ (∀ y ∈ xs, Th K H y) ∧ goodTl n xs = false
theorem BadT.mono {H H' : Hp} {n : Nat} {x : V} (s : Same H H') (h : BadT K H n x) : BadT K H' n x := by
  rcases h with h | ⟨a, xs, e, h, hl, hy, hg⟩
  · exact .inl (h.mono s)
  · exact .inr ⟨a, xs, e, s.seq h, hl, fun y hm => (hy y hm).mono s, hg⟩
def sp_check_tolls (T : Txt K mg) : Sp := fun vs H Q E => ∃ (p : Addr) (hs : List Int) (x : V), vs = [.ref p, x] ∧ RingAt T H p hs ∧
  ((BadT K H hs.length x ∧ ∀ H', Same H H' → E (.ref T.c_BadTolls) none H') ∨
   (∃ a xs, x = .ref a ∧ SqL K H a xs ∧ xs.length ≤ 1000 ∧ (∀ y ∈ xs, Th K H y) ∧ goodTl hs.length xs = true ∧ ∀ H', Same H H' → Q .non H'))
theorem ok_check_tolls (T : Txt K mg) : FnOk P w K mg base (L2.CX P w) 2 T.f_check_tolls T.fd_check_tolls ["ring", "tolls"] (sp_check_tolls T) := by
  refine T.F_check_tolls.okX sc_check_tolls (fun vs H Q E h => ?_) (fun cdv A outer s H vs Q E hr h => ?_)
  · obtain ⟨_, _, _, rfl, _⟩ := h
    rfl
  · skip
    obtain ⟨p, hs, x, rfl, R, h⟩ := h
    obtain ⟨dx, l, hp, hl⟩ := id R
    have A := At.nil H
    have h1 : SqL K H l (hs.map V.int) := SqL.of hl
    refine ⟨_, (pss_cons (ps_if (PW.pt (pw_or (pt_not (pt_val (pe_callB (kIsi (K := K)) (by rfl) T.n_isinstance EB.bt_isinstance (pa_cons (pv 1) (pa_cons (pe_bltn (v := .ty "list") (by rfl) T.n_list EB.bt_list rfl) pa_nil))))) (pw_or1 (pt_cmpR op_ne (pe_callB (kLen (K := K)) (by rfl) T.n_len PySem.boot_len (pa_cons (pv 1) pa_nil)) (pe_callB (kLen (K := K)) (by rfl) T.n_len PySem.boot_len (pa_cons (kFld (K := K) (pv 0)) pa_nil)) (nomark _))))) (pss_one (ps_raise rfl (takes_of rfl rfl rfl rfl) (pmk_own PySem.F.excBase_ValueError T.x_BadTolls T.g_BadTolls T.kc_BadTolls (raises_own T.be_BadTolls T.ty_BadTolls) (by exact rfl)))) pss_nil)
      (pss_one (ps_if (pt_not (pt_val (pe_callB (kAll (K := K)) (by rfl) T.n_all EB.bt_all (pa_cons (pe_lc (own := [("toll", 2)]) (g := gName 2) rfl sc_check_tolls.nd (kPiL (K := K) (pv 1)) (blkOk_by (own := [("toll", 2)]) (N := ["ring", "tolls", "toll"]) (sc := defScope s_check_tolls) (by decide +kernel)) (fun _ _ _ _ _ => (pg_name (i := 2) sc_check_tolls.nd rfl (by first | exact Or.inl rfl | exact Or.inr rfl))) (fun _ _ _ _ _ => pts_nil) (fun _ _ _ _ _ => (pe_and (pe_call (ok_is_wholeG T) (hr.mono (by decide)) (by rfl) T.g_is_whole T.F_is_whole.kp (b_is_whole T) .nil pass0 (pa_cons (pv 2) pa_nil)) (pe_one (pe_chain op_le op_le pe_int (pv 2) (pe_glob (v := .int 1000) (by rfl) T.k_GREATEST_carrying.2 ⟨_, rfl⟩)))))) pa_nil)))) (pss_one (ps_raise rfl (takes_of rfl rfl rfl rfl) (pmk_own PySem.F.excBase_ValueError T.x_BadTolls T.g_BadTolls T.kc_BadTolls (raises_own T.be_BadTolls T.ty_BadTolls) (by exact rfl)))) pss_nil))), ?_⟩
    repeat walk_at "s"
    have h' : (NotL K H x ∧ ∀ H', Same H H' → E (.ref T.c_BadTolls) none H') ∨ ∃ a xs, x = .ref a ∧ SqL K H a xs ∧ xs.length ≤ 1000 ∧ (∀ y ∈ xs, Th K H y) ∧ (goodTl hs.length xs = false → ∀ H', Same H H' → E (.ref T.c_BadTolls) none H') ∧ (goodTl hs.length xs = true → ∀ H', Same H H' → Q .non H') := by
      rcases h with ⟨h | ⟨a, xs, e, hx, hn, hy, hg⟩, k⟩ | ⟨a, xs, e, hx, hn, hy, hg, k⟩
      · exact .inl ⟨h, k⟩
      · exact .inr ⟨a, xs, e, hx, hn, hy, fun _ => k, (fun z => by rw [hg] at z; cases z)⟩
      · exact .inr ⟨a, xs, e, hx, hn, hy, (fun z => by rw [hg] at z; cases z), fun _ => k⟩
    clear h
    rcases h' with ⟨h, k⟩ | ⟨a, xs, rfl, hx, hn, hy, k0, k1⟩
    · refine r_isiNL h ?_
      repeat walk_at "s"
      exact k _ (Same.refl _)
    repeat walk_at "s"
    refine r_ifND (fun e => ?_) (fun e => ?_)
    · exact k0 (by unfold goodTl; rw [decide_eq_false (by omega)]; rfl) _ (Same.refl _)
    repeat walk_at "s"
    refine r_lcItl (K := K) (xs := xs) (fun y => V.bl (isT y)) A (fun L' H' A' => A'.sq hx) (by omega) (fun _ => rfl) (fun i y D H' Q' hx A' q => ?_) (fun D H1 A1 => ?_)
    · repeat walk_at "s"
      refine ⟨y, rfl, (hy y (List.mem_of_getElem? hx)).mono A'.ex, ?_⟩
      cases e : isI y with
      | false =>
        have z := isT_no e
        repeat walk_at "s"
        exact q.t0 (by rw [z]) A'
      | true =>
        obtain ⟨i, rfl⟩ := isI_int e
        repeat walk_at "s"
        refine r_ifD (fun e => ?_) (fun e => ?_)
        · repeat walk_at "s"
          exact q.t0 (by show V.bl _ = V.bl (decide (0 ≤ i ∧ i ≤ 1000)); exact congrArg V.bl (decide_eq_decide.mpr ⟨fun z => ⟨e, z⟩, fun z => z.2⟩)) A'
        · repeat walk_at "s"
          exact q.t0 (by show V.bl _ = V.bl (decide (0 ≤ i ∧ i ≤ 1000)); rw [decide_eq_false (fun z => e z.1)]) A'
    have A1 : At H [(D, .lst ((xs.map isT).map V.bl))] H1 := by rw [List.map_map]; exact A1
    have hq : SqL K H1 D ((xs.map isT).map V.bl) := A1.sqo List.mem_cons_self
    cases hall : xs.all isT with
    | false =>
      have z : (xs.map isT).all id = false := by rw [all_map_bl]; exact hall
      repeat walk_at "s"
      exact k0 (by unfold goodTl; rw [hall, Bool.and_false]) _ A1.ex
    | true =>
      have z : (xs.map isT).all id = true := by rw [all_map_bl]; exact hall
      repeat walk_at "s"
      exact k1 (by unfold goodTl; rw [hall, decide_eq_true (by omega)]; rfl) _ A1.ex

/-! an own error that is made by its own __init__ -/
def veK (K : PySem.W.Frag) (vs : List V) (H1 : Hp) (Q : VK) : Prop := ∃ (a C : Addr) (ws : List V), vs = .ref a :: ws ∧ ws.length ≤ 1000 ∧ OexC K C ∧ H1 a = some (exo a C none) ∧ Q .non H1
theorem r_veI {tl : TA} {σ : L2.St} {H : Hp} {Q : VK} (k : tl σ H fun vs H1 => veK K vs H1 Q) : tVeI K tl σ H Q := k
def ostK (K : PySem.W.Frag) (f : Str) (y x : V) (H2 : Hp) (N : Hp → Prop) : Prop := ∃ a C : Addr, x = .ref a ∧ OexC K C ∧ PySem.W.findIn K (.ref C) f = some none ∧
  ((H2 a = some (exo a C none) ∧ ∀ dx, H2 dx = none → dx ≠ a → N (upd (upd H2 dx (exd dx [(f, y)])) a (exo a C (some dx)))) ∨
    ∃ (dx : Addr) (fs : List (Str × V)), H2 a = some (exo a C (some dx)) ∧ H2 dx = some (exd dx fs) ∧ fs.length ≤ 900 ∧ N (upd H2 dx (exd dx ((f, y) :: fs))))
theorem r_ost {to te : TE} {σ : L2.St} {H : Hp} {f : Str} {D : Ends} (k : te σ H fun y H1 => to σ H1 fun x H2 => ostK K f y x H2 fun H3 => D.nx σ H3) : tOst K f to te D σ H := k
def mkoK (C : Addr) (sp : Sp) (vs : List V) (H1 : Hp) (Q : XK) : Prop := vs.length ≤ 1000 ∧ ∀ a, H1 a = none → sp (.ref a :: (vs ++ [])) (upd H1 a (exo a C none))
  (fun v H2 => v = .non ∧ ∃ (d : Addr) (fs : List (Str × V)), H2 a = some (exo a C (some d)) ∧ H2 d = some (exd d fs) ∧ H1 d = none ∧ Q (.ref C) (some d) (upd (del H2 a) d (.xd fs))) (fun _ _ _ => False)
theorem r_mkO {C : Addr} {sp : Sp} {tl : TA} {σ : L2.St} {H : Hp} {Q : XK} (k : tl σ H fun vs H1 => mkoK C sp vs H1 Q) : tMkO C sp [] tl σ H Q := k
local macro_rules | `(tactic| walk_at "s") => `(tactic| first | with_reducible refine r_veI ?_ | with_reducible refine r_ost ?_ | with_reducible refine r_mkO ?_)
def sp_Lacking_init (T : Txt K mg) : Sp := fun vs H Q _ => ∃ (a : Addr) (v : V), vs = [.ref a, v] ∧ H a = some (exo a T.c_Lacking none) ∧ ∀ dx, H dx = none → dx ≠ a → Q .non (upd (upd H dx (exd dx [("total", v)])) a (exo a T.c_Lacking (some dx)))
theorem ok_Lacking_init (T : Txt K mg) : FnOk P w K mg base CX0 1 T.f_Lacking_init T.fd_Lacking_init ["self", "total"] (sp_Lacking_init T) := by
  refine T.F_Lacking_init.ok sc_Lacking_init (fun vs H Q E h => ?_) (fun cdv A outer s H vs Q E hr h => ?_)
  · obtain ⟨_, _, rfl, _⟩ := h
    rfl
  · skip
    obtain ⟨a, v, rfl, ha, k⟩ := h
    refine ⟨_, (pss_cons (ps_expr (EE.pe_cinit (by rfl) T.g_RingError T.sg_RingError T.rd_RingError T.fc_RingError (pa_cons (pv 0) (pa_cons pe_str pa_nil))))
      (pss_one (ps_ost (pv 0) (pv 1)))), ?_⟩
    repeat walk_at "s"
    refine ⟨a, T.c_Lacking, _, rfl, by show 1 ≤ 1000; decide, T.ox_Lacking, ha, ?_⟩
    repeat walk_at "s"
    refine ⟨a, T.c_Lacking, rfl, T.ox_Lacking, T.no_Lacking_total, .inl ⟨ha, fun dx n ne => ?_⟩⟩
    exact k dx n ne
/-- what an error's own dict is -/
def LackD (H H' : Hp) (v : Int) : Option Addr → Prop := fun d => ∃ dd, d = some dd ∧ H dd = none ∧ H' dd = some (.xd [("total", .int v)])
def sp_check_total (T : Txt K mg) : Sp := fun vs H Q E => ∃ (p : Addr) (hs : List Int), vs = [.ref p] ∧ RingAt T H p hs ∧ (hs.sum = 0 → Q .non H) ∧ (hs.sum ≠ 0 → ∀ d H', Same H H' → LackD H H' hs.sum d → E (.ref T.c_Lacking) d H')
theorem ok_check_total (T : Txt K mg) : FnOk P w K mg base (L2.CX P w) 3 T.f_check_total T.fd_check_total ["ring"] (sp_check_total T) := by
  refine T.F_check_total.okX sc_check_total (fun vs H Q E h => ?_) (fun cdv A outer s H vs Q E hr h => ?_)
  · obtain ⟨_, _, rfl, _⟩ := h
    rfl
  · skip
    obtain ⟨p, hs, rfl, R, k0, k1⟩ := h
    refine ⟨_, (pss_one (ps_if (pt_cmpR op_ne (pe_meth0 (pv 0) T.cl_Ring T.m_Ring_whole (ok_Ring_whole T) (hr.mono (by decide)) (b_Ring_whole T) .nil pass0) pe_int (nomark _)) (pss_one (ps_raise rfl (takes_of rfl rfl rfl rfl) (pmk_oex T.ox_Lacking T.iC_Lacking T.tI_Lacking (ok_Lacking_init T) (hr.mono (by decide)) (b_Lacking_init T) .nil pass0 (by rfl) T.g_Lacking (pa_cons (pe_meth0 (pv 0) T.cl_Ring T.m_Ring_whole (ok_Ring_whole T) (hr.mono (by decide)) (b_Ring_whole T) .nil pass0) pa_nil)))) pss_nil)), ?_⟩
    repeat walk_at "s"
    refine use_whole R ?_
    repeat walk_at "s"
    refine r_ifND (fun e => ?_) (fun e => ?_)
    · repeat walk_at "s"
      refine use_whole R ?_
      repeat walk_at "s"
      refine ⟨Nat.le_of_ble_eq_true rfl, fun a na => ⟨a, _, rfl, upd_same, fun dx nd ne => ⟨rfl, dx, [("total", .int hs.sum)], upd_same, ?_, ?_, ?_⟩⟩⟩
      · rw [upd_ne ne, upd_same]
      · rw [upd_ne ne] at nd
        exact nd
      · have nd' : H dx = none := by rw [upd_ne ne] at nd; exact nd
        refine k1 e _ _ (fun b o hb => ?_) ⟨dx, rfl, nd', upd_same⟩
        have nba : b ≠ a := ne_of_none hb na
        rw [upd_ne (ne_of_none hb nd'), del_ne nba, upd_ne nba, upd_ne (ne_of_none hb nd'), upd_ne nba]
        exact hb
    · repeat walk_at "s"
      exact k0 e
/-- what is told of a refusal -/
def Lacks (T : Txt K mg) (H : Hp) (v : Int) (E : XK) : Prop := ∀ d H', Same H H' → LackD H H' v d → E (.ref T.c_Lacking) d H'
def Says (H : Hp) (C : Addr) (E : XK) : Prop := ∀ H', Same H H' → E (.ref C) none H'
theorem LackD.back {H0 H H' : Hp} {v : Int} {d : Option Addr} (s : Same H0 H) (h : LackD H H' v d) : LackD H0 H' v d := by
  obtain ⟨dd, e, n, z⟩ := h
  exact ⟨dd, e, s.free n, z⟩
def sp_least (T : Txt K mg) : Sp := fun vs H _ E => ∃ (p : Addr) (hs : List Int) (x : V), vs = [.ref p, x] ∧ RingAt T H p hs ∧ BadT K H hs.length x ∧ Says H T.c_BadTolls E
theorem ok_least (T : Txt K mg) : FnOk P w K mg base (L2.CX P w) 3 T.f_least T.fd_least ["ring", "tolls"] (sp_least T) := by
  refine T.F_least.okX sc_least (fun vs H Q E h => ?_) (fun cdv A outer s H vs Q E hr h => ?_)
  · obtain ⟨_, _, _, rfl, _⟩ := h
    rfl
  · skip
    obtain ⟨p, hs, x, rfl, R, hx, k⟩ := h
    refine ⟨_, (pss_cons (ps_expr (pe_call (ok_check_tolls T) (hr.mono (by decide)) (by rfl) T.g_check_tolls T.F_check_tolls.kp (b_check_tolls T) .nil (passes_call (takes_of rfl rfl rfl rfl) (fun _ _ _ _ z => z)) (pa_cons (pv 0) (pa_cons (pv 1) pa_nil))))
      (pss_cons ps_never
      (pss_cons ps_never
      (pss_cons ps_never
      (pss_cons ps_never
      (pss_cons ps_never
      (pss_one ps_never))))))), ?_⟩
    repeat walk_at "s"
    exact ⟨p, hs, x, rfl, R, .inl ⟨hx, fun H' s => k H' s⟩⟩
/-- tolls that are none, or good ones for a ring that lacks, or noughts alone -/
def sp_ends (T : Txt K mg) : Sp := fun vs H _ E => ∃ (p : Addr) (hs : List Int) (x : V), vs = [.ref p, x] ∧ RingAt T H p hs ∧
  ((BadT K H hs.length x ∧ Says H T.c_BadTolls E) ∨
   (∃ (a : Addr) (ts : List Int), x = .ref a ∧ SqL K H a (ts.map V.int) ∧ ts.length = hs.length ∧ hs.length ≤ 1000 ∧ (∀ t ∈ ts, 0 ≤ t ∧ t ≤ 1000) ∧ ((hs.sum ≠ 0 ∧ Lacks T H hs.sum E) ∨ (hs.sum = 0 ∧ 0 < hs.length ∧ (∀ t ∈ ts, t = 0) ∧ Says H T.c_BadTolls E))))
theorem good_ints {ts : List Int} {n : Nat} (hl : ts.length = n) (hb : ∀ t ∈ ts, 0 ≤ t ∧ t ≤ 1000) : goodTl n (ts.map V.int) = true := by
  unfold goodTl
  rw [List.length_map, decide_eq_true hl, Bool.true_and, List.all_eq_true]
  intro y hy
  obtain ⟨t, ht, rfl⟩ := List.mem_map.mp hy
  exact decide_eq_true (hb t ht)
theorem th_ints {H : Hp} {ts : List Int} : ∀ y ∈ ts.map V.int, Th K H y := fun y hy => by
  obtain ⟨t, _, rfl⟩ := List.mem_map.mp hy
  exact .inr (.inl ⟨t, rfl⟩)
theorem ok_ends (T : Txt K mg) : FnOk P w K mg base (L2.CX P w) 4 T.f_ends T.fd_ends ["ring", "tolls"] (sp_ends T) := by
  refine T.F_ends.okX sc_ends (fun vs H Q E h => ?_) (fun cdv A outer s H vs Q E hr h => ?_)
  · obtain ⟨_, _, _, rfl, _⟩ := h
    rfl
  · skip
    obtain ⟨p, hs, x, rfl, R, h⟩ := h
    refine ⟨_, (pss_cons (ps_expr (pe_call (ok_check_tolls T) (hr.mono (by decide)) (by rfl) T.g_check_tolls T.F_check_tolls.kp (b_check_tolls T) .nil (passes_call (takes_of rfl rfl rfl rfl) (fun _ _ _ _ z => z)) (pa_cons (pv 0) (pa_cons (pv 1) pa_nil))))
      (pss_cons (ps_expr (pe_call (ok_check_total T) (hr.mono (by decide)) (by rfl) T.g_check_total T.F_check_total.kp (b_check_total T) .nil (passes_call (takes_of rfl rfl rfl rfl) (fun _ _ _ _ z => z)) (pa_cons (pv 0) pa_nil)))
      (pss_cons (ps_if (pt_cmpR op_eq (pe_callB (kMax (K := K)) (by rfl) T.n_max EB.bt_max (pa_cons (pv 1) pa_nil)) pe_int (nomark _)) (pss_one (ps_raise rfl (takes_of rfl rfl rfl rfl) (pmk_own PySem.F.excBase_ValueError T.x_BadTolls T.g_BadTolls T.kc_BadTolls (raises_own T.be_BadTolls T.ty_BadTolls) (by exact rfl)))) pss_nil)
      (pss_cons ps_never
      (pss_one ps_never))))), ?_⟩
    repeat walk_at "s"
    rcases h with ⟨hx, k⟩ | ⟨a, ts, rfl, ha, hl, hn, hb, h⟩
    · exact ⟨p, hs, x, rfl, R, .inl ⟨hx, fun H' s => k H' s⟩⟩
    refine ⟨p, hs, _, rfl, R, .inr ⟨a, _, rfl, ha, by rw [List.length_map]; omega, th_ints, good_ints hl hb, fun H1 s1 => ?_⟩⟩
    have R1 := R.mono s1
    have ha1 := s1.seq ha
    repeat walk_at "s"
    refine ⟨p, hs, rfl, R1, fun e => ?_, fun e d H2 s2 hd => ?_⟩
    · rcases h with ⟨z, _⟩ | ⟨_, h1, hz, k⟩
      · exact absurd e z
      repeat walk_at "s"
      refine r_max ha1 (by omega) (fun mx m1 m2 => ?_)
      have e0 : mx = 0 := hz mx m1
      subst e0
      repeat walk_at "s"
      exact k _ s1
    · rcases h with ⟨_, k⟩ | ⟨z, _⟩
      · exact k d H2 (s1.trans s2) (hd.back s1)
      · exact absurd z e
def sp_along (T : Txt K mg) : Sp := fun vs H Q E => ∃ (p : Addr) (hs : List Int), vs = [.ref p] ∧ RingAt T H p hs ∧ hs.length ≤ 1000 ∧ (hs.sum ≠ 0 → Lacks T H hs.sum E) ∧ (hs.sum = 0 → ∀ q H', Same H H' → H q = none → H' q = some (.lst ((EM.runs hs).map V.int)) → Q (.ref q) H')
theorem ok_along (T : Txt K mg) : FnOk P w K mg base (L2.CX P w) 4 T.f_along T.fd_along ["ring"] (sp_along T) := by
  refine T.F_along.okX sc_along (fun vs H Q E h => ?_) (fun cdv A outer s H vs Q E hr h => ?_)
  · obtain ⟨_, _, rfl, _⟩ := h
    rfl
  · skip
    obtain ⟨p, hs, rfl, R, hn, k0, k1⟩ := h
    obtain ⟨dx, l, hp, hl⟩ := id R
    have h1 : SqL K H l (hs.map V.int) := SqL.of hl
    refine ⟨_, (pss_cons (ps_expr (pe_call (ok_check_total T) (hr.mono (by decide)) (by rfl) T.g_check_total T.F_check_total.kp (b_check_total T) .nil (passes_call (takes_of rfl rfl rfl rfl) (fun _ _ _ _ z => z)) (pa_cons (pv 0) pa_nil)))
      (pss_one (ps_ret (pe_call (ok_running T) (hr.mono (by decide)) (by rfl) T.g_running T.F_running.kp (b_running T) .nil pass0 (pa_cons (kFld (K := K) (pv 0)) pa_nil))))), ?_⟩
    repeat walk_at "s"
    refine ⟨p, hs, rfl, R, fun e => ?_, fun e d H2 s2 hd => k0 e d H2 s2 hd⟩
    repeat walk_at "s"
    exact ⟨l, hs, rfl, h1, hn, fun q H' s n hq => k1 e q H' s n hq⟩
def sp_widest (T : Txt K mg) : Sp := fun vs H Q E => ∃ (p : Addr) (hs : List Int), vs = [.ref p] ∧ RingAt T H p hs ∧ 0 < hs.length ∧ hs.length ≤ 1000 ∧ (hs.sum ≠ 0 → Lacks T H hs.sum E) ∧
  (hs.sum = 0 → ∀ lo hi H', lo ∈ EM.runs hs → hi ∈ EM.runs hs → (∀ x ∈ EM.runs hs, lo ≤ x ∧ x ≤ hi) → Same H H' → Q (.int ((hi - lo + 1) / 2)) H')
theorem ok_widest (T : Txt K mg) : FnOk P w K mg base (L2.CX P w) 4 T.f_widest T.fd_widest ["ring"] (sp_widest T) := by
  refine T.F_widest.okX sc_widest (fun vs H Q E h => ?_) (fun cdv A outer s H vs Q E hr h => ?_)
  · obtain ⟨_, _, rfl, _⟩ := h
    rfl
  · skip
    obtain ⟨p, hs, rfl, R, h0, hn, k0, k1⟩ := h
    obtain ⟨dx, l, hp, hl⟩ := id R
    have h1 : SqL K H l (hs.map V.int) := SqL.of hl
    have A := At.nil H
    refine ⟨_, (pss_cons (ps_expr (pe_call (ok_check_total T) (hr.mono (by decide)) (by rfl) T.g_check_total T.F_check_total.kp (b_check_total T) .nil (passes_call (takes_of rfl rfl rfl rfl) (fun _ _ _ _ z => z)) (pa_cons (pv 0) pa_nil)))
      (pss_cons (ps_set (i := 1) sc_widest.nd rfl (by first | exact Or.inl rfl | exact Or.inr rfl) (pe_call (ok_running T) (hr.mono (by decide)) (by rfl) T.g_running T.F_running.kp (b_running T) .nil pass0 (pa_cons (kFld (K := K) (pv 0)) pa_nil)))
      (pss_one (ps_ret (pe_op op_fdiv (pe_op op_add (pe_op op_sub (pe_callB (kMax (K := K)) (by rfl) T.n_max EB.bt_max (pa_cons (pv 1) pa_nil)) (pe_callB (kMin (K := K)) (by rfl) T.n_min EB.bt_min (pa_cons (pv 1) pa_nil))) pe_int) pe_int))))), ?_⟩
    repeat walk_at "s"
    refine ⟨p, hs, rfl, R, fun e => ?_, fun e d H2 s2 hd => k0 e d H2 s2 hd⟩
    repeat walk_at "s"
    refine use_running A h1 hn (fun q H1 A1 => ?_)
    have hrl := EM.runs_len hs
    have hq : SqL K H1 q ((EM.runs hs).map V.int) := A1.sqo List.mem_cons_self
    repeat walk_at "s"
    refine r_max hq (by omega) (fun hi m1 m2 => ?_)
    repeat walk_at "s"
    refine r_min hq (by omega) (fun lo m3 m4 => ?_)
    repeat walk_at "s"
    exact k1 e lo hi H1 m3 m1 (fun x hx => ⟨m4 x hx, m2 x hx⟩) A1.ex
def BadM (x : V) : Prop := isI x = false ∨ ∃ i, x = .int i ∧ i < 0
def sp_within (T : Txt K mg) : Sp := fun vs H _ E => ∃ (p : Addr) (hs : List Int) (x : V), vs = [.ref p, x] ∧ RingAt T H p hs ∧ Th K H x ∧ ((BadM x ∧ Says H T.c_BadMost E) ∨ (∃ i, x = .int i ∧ 0 ≤ i ∧ hs.sum ≠ 0 ∧ Lacks T H hs.sum E))
theorem ok_within (T : Txt K mg) : FnOk P w K mg base (L2.CX P w) 4 T.f_within T.fd_within ["ring", "most"] (sp_within T) := by
  refine T.F_within.okX sc_within (fun vs H Q E h => ?_) (fun cdv A outer s H vs Q E hr h => ?_)
  · obtain ⟨_, _, _, rfl, _⟩ := h
    rfl
  · skip
    obtain ⟨p, hs, x, rfl, R, hx, h⟩ := h
    refine ⟨_, (pss_cons (ps_if (PW.pt (pw_or (pt_not (pt_val (pe_call (ok_is_wholeG T) (hr.mono (by decide)) (by rfl) T.g_is_whole T.F_is_whole.kp (b_is_whole T) .nil pass0 (pa_cons (pv 1) pa_nil)))) (pw_or1 (pt_cmpR op_lt (pv 1) pe_int (nomark _))))) (pss_one (ps_raise rfl (takes_of rfl rfl rfl rfl) (pmk_own PySem.F.excBase_ValueError T.x_BadMost T.g_BadMost T.kc_BadMost (raises_own T.be_BadMost T.ty_BadMost) (by exact rfl)))) pss_nil)
      (pss_cons (ps_expr (pe_call (ok_check_total T) (hr.mono (by decide)) (by rfl) T.g_check_total T.F_check_total.kp (b_check_total T) .nil (passes_call (takes_of rfl rfl rfl rfl) (fun _ _ _ _ z => z)) (pa_cons (pv 0) pa_nil)))
      (pss_cons ps_never
      (pss_cons ps_never
      (pss_cons ps_never
      (pss_cons ps_never
      (pss_cons ps_never
      (pss_cons ps_never
      (pss_cons ps_never
      (pss_one ps_never)))))))))), ?_⟩
    repeat walk_at "s"
    refine ⟨x, rfl, hx, ?_⟩
    rcases h with ⟨h | ⟨i, rfl, hi⟩, k⟩ | ⟨i, rfl, hi, h0, k⟩
    · repeat walk_at "s"
      exact k _ (Same.refl _)
    · have e1 : isI (V.int i) = true := rfl
      repeat walk_at "s"
      exact k _ (Same.refl _)
    · have e1 : isI (V.int i) = true := rfl
      repeat walk_at "s"
      exact ⟨p, hs, rfl, R, (fun e => absurd e h0), fun _ d H2 s2 hd => k d H2 s2 hd⟩

def sp_law_ring (T : Txt K mg) : Sp := fun vs H _ E => ∃ x y : V, vs = [x, y] ∧ BadR K H x ∧ Says H T.c_BadRing E
theorem ok_law_ring (T : Txt K mg) : FnOk P w K mg base (L2.CX P w) 5 T.f_law_ring T.fd_law_ring ["_law_houses_here", "_law_nothing"] (sp_law_ring T) := by
  refine T.F_law_ring.okX sc_law_ring (fun vs H Q E h => ?_) (fun cdv A outer s H vs Q E hr h => ?_)
  · obtain ⟨_, _, rfl, _⟩ := h
    rfl
  · skip
    obtain ⟨x, y, rfl, h, k⟩ := h
    refine ⟨_, (pss_one (ps_ret (pe_make T.mk_Ring (ok_Ring_initX T) (hr.mono (by decide)) (by rfl) T.g_Ring (b_Ring_init T) .nil (passes_call (takes_of rfl rfl rfl rfl) (fun _ _ _ _ z => z)) (pa_cons (pv 0) pa_nil)))), ?_⟩
    repeat walk_at "s"
    exact fun p dx nx nd _ => ⟨p, x, rfl, h.mono (same_mk nx nd), fun H' s => k H' ((same_mk nx nd).trans s)⟩
def sp_law_with_tolls (T : Txt K mg) : Sp := sp_least T
theorem ok_law_with_tolls (T : Txt K mg) : FnOk P w K mg base (L2.CX P w) 4 T.f_law_with_tolls T.fd_law_with_tolls ["_law_ring_here", "_law_tolls_here"] (sp_law_with_tolls T) := by
  refine T.F_law_with_tolls.okX sc_law_with_tolls (fun vs H Q E h => ?_) (fun cdv A outer s H vs Q E hr h => ?_)
  · obtain ⟨_, _, _, rfl, _⟩ := h
    rfl
  · skip
    obtain ⟨p, hs, x, rfl, h⟩ := h
    refine ⟨_, (pss_one (ps_ret (pe_call (ok_least T) (hr.mono (by decide)) (by rfl) T.g_least T.F_least.kp (b_least T) .nil (passes_call (takes_of rfl rfl rfl rfl) (fun _ _ _ _ z => z)) (pa_cons (pv 0) (pa_cons (pv 1) pa_nil))))), ?_⟩
    repeat walk_at "s"
    exact ⟨p, hs, x, rfl, h⟩
def sp_law_ends (T : Txt K mg) : Sp := sp_ends T
theorem ok_law_ends (T : Txt K mg) : FnOk P w K mg base (L2.CX P w) 5 T.f_law_ends T.fd_law_ends ["_law_ring_here", "_law_tolls_here"] (sp_law_ends T) := by
  refine T.F_law_ends.okX sc_law_ends (fun vs H Q E h => ?_) (fun cdv A outer s H vs Q E hr h => ?_)
  · obtain ⟨_, _, _, rfl, _⟩ := h
    rfl
  · skip
    obtain ⟨p, hs, x, rfl, h⟩ := h
    refine ⟨_, (pss_one (ps_ret (pe_call (ok_ends T) (hr.mono (by decide)) (by rfl) T.g_ends T.F_ends.kp (b_ends T) .nil (passes_call (takes_of rfl rfl rfl rfl) (fun _ _ _ _ z => z)) (pa_cons (pv 0) (pa_cons (pv 1) pa_nil))))), ?_⟩
    repeat walk_at "s"
    exact ⟨p, hs, x, rfl, h⟩
def sp_law_within (T : Txt K mg) : Sp := sp_within T
theorem ok_law_within (T : Txt K mg) : FnOk P w K mg base (L2.CX P w) 5 T.f_law_within T.fd_law_within ["_law_ring_here", "_law_most"] (sp_law_within T) := by
  refine T.F_law_within.okX sc_law_within (fun vs H Q E h => ?_) (fun cdv A outer s H vs Q E hr h => ?_)
  · obtain ⟨_, _, _, rfl, _⟩ := h
    rfl
  · skip
    obtain ⟨p, hs, x, rfl, h⟩ := h
    refine ⟨_, (pss_one (ps_ret (pe_call (ok_within T) (hr.mono (by decide)) (by rfl) T.g_within T.F_within.kp (b_within T) .nil (passes_call (takes_of rfl rfl rfl rfl) (fun _ _ _ _ z => z)) (pa_cons (pv 0) (pa_cons (pv 1) pa_nil))))), ?_⟩
    repeat walk_at "s"
    exact ⟨p, hs, x, rfl, h⟩
def sp_law_turned (T : Txt K mg) : Sp := sp_turned T
theorem ok_law_turned (T : Txt K mg) : FnOk P w K mg base (L2.CX P w) 3 T.f_law_turned T.fd_law_turned ["_law_ring_here", "_law_by"] (sp_law_turned T) := by
  refine T.F_law_turned.okX sc_law_turned (fun vs H Q E h => ?_) (fun cdv A outer s H vs Q E hr h => ?_)
  · obtain ⟨_, _, rfl, _⟩ := h
    rfl
  · skip
    obtain ⟨r, x, rfl, h⟩ := h
    refine ⟨_, (pss_one (ps_ret (pe_call (ok_turned T) (hr.mono (by decide)) (by rfl) T.g_turned T.F_turned.kp (b_turned T) .nil (passes_call (takes_of rfl rfl rfl rfl) (fun _ _ _ _ z => z)) (pa_cons (pv 0) (pa_cons (pv 1) pa_nil))))), ?_⟩
    repeat walk_at "s"
    exact ⟨r, x, rfl, h⟩
def sp_law_together (T : Txt K mg) : Sp := sp_together T
theorem ok_law_together (T : Txt K mg) : FnOk P w K mg base (L2.CX P w) 6 T.f_law_together T.fd_law_together ["_law_one", "_law_other"] (sp_law_together T) := by
  refine T.F_law_together.okX sc_law_together (fun vs H Q E h => ?_) (fun cdv A outer s H vs Q E hr h => ?_)
  · obtain ⟨_, _, _, _, rfl, _⟩ := h
    rfl
  · skip
    obtain ⟨p, q, hs, ms, rfl, R1, R2, h2, hn, k0, k1⟩ := h
    refine ⟨_, (pss_one (ps_ret (pe_call (ok_together T) (hr.mono (by decide)) (by rfl) T.g_together T.F_together.kp (b_together T) .nil (passes_call (takes_of rfl rfl rfl rfl) (fun _ _ _ _ z => z)) (pa_cons (pv 0) (pa_cons (pv 1) pa_nil))))), ?_⟩
    repeat walk_at "s"
    exact ⟨p, q, hs, ms, rfl, R1, R2, h2, hn, k0, k1⟩
def sp_law_plain (T : Txt K mg) : Sp := fun vs H _ E => ∃ (p : Addr) (hs : List Int) (i : Int), vs = [.ref p, .int i] ∧ RingAt T H p hs ∧ 0 < hs.length ∧ hs.length ≤ 1000 ∧ hs.sum ≠ 0 ∧ Lacks T H hs.sum E
theorem ok_law_plain (T : Txt K mg) : FnOk P w K mg base (L2.CX P w) 5 T.f_law_plain T.fd_law_plain ["_law_ring_here", "_law_door"] (sp_law_plain T) := by
  refine T.F_law_plain.okX sc_law_plain (fun vs H Q E h => ?_) (fun cdv A outer s H vs Q E hr h => ?_)
  · obtain ⟨_, _, _, rfl, _⟩ := h
    rfl
  · skip
    obtain ⟨p, hs, i, rfl, R, h0, hn, hz, k⟩ := h
    refine ⟨_, (pss_one (ps_ret (pe_ifExp (pt_cmpR op_eq (pv 1) pe_int (nomark _)) (pe_call (ok_along T) (hr.mono (by decide)) (by rfl) T.g_along T.F_along.kp (b_along T) .nil (passes_call (takes_of rfl rfl rfl rfl) (fun _ _ _ _ z => z)) (pa_cons (pv 0) pa_nil)) (pe_call (ok_widest T) (hr.mono (by decide)) (by rfl) T.g_widest T.F_widest.kp (b_widest T) .nil (passes_call (takes_of rfl rfl rfl rfl) (fun _ _ _ _ z => z)) (pa_cons (pv 0) pa_nil))))), ?_⟩
    repeat walk_at "s"
    refine r_ifD (fun _ => ?_) (fun _ => ?_)
    · repeat walk_at "s"
      exact ⟨p, hs, rfl, R, hn, fun _ => k, fun e => absurd e hz⟩
    · repeat walk_at "s"
      exact ⟨p, hs, rfl, R, h0, hn, fun _ => k, fun e => absurd e hz⟩
/-! the kinds of a caught error -/
def kin (j : Nat) : List Bool := [decide (j = 0), decide (j = 1), decide (j = 2), decide (j = 3), decide (j = 4), false, true]
structure KindT {K : PySem.W.Frag} {mg : Str → Option Value} (T : Txt K mg) (D : Addr) (j : Nat) : Prop where
  C : L2.ExcC K D
  k0 : PySem.W.kitOne K (.ref D) (.ref T.c_BadRing) = some (decide (j = 0))
  k1 : PySem.W.kitOne K (.ref D) (.ref T.c_BadTolls) = some (decide (j = 1))
  k2 : PySem.W.kitOne K (.ref D) (.ref T.c_BadMost) = some (decide (j = 2))
  k3 : PySem.W.kitOne K (.ref D) (.ref T.c_Unlike) = some (decide (j = 3))
  k4 : PySem.W.kitOne K (.ref D) (.ref T.c_Lacking) = some (decide (j = 4))
  k5 : PySem.W.kitOne K (.ref D) (.ref T.c_BadText) = some false
  k6 : PySem.W.kitOne K (.ref D) (.type "ValueError") = some true
  ex : PySem.W.exmOne K (.ref D) (.ref T.c_RingError) = some true
  nV : mg "ValueError" = none
def DictOf (H : Hp) (d : Option Addr) : Prop := d = none ∨ ∃ dd fs, d = some dd ∧ H dd = some (.xd fs)
theorem DictOf.mono {H H' : Hp} {d : Option Addr} (s : Same H H') (h : DictOf H d) : DictOf H' d := by
  rcases h with h | ⟨dd, fs, e, h⟩
  · exact .inl h
  · exact .inr ⟨dd, fs, e, s _ _ h⟩
theorem LackD.dict {H H' : Hp} {v : Int} {d : Option Addr} (h : LackD H H' v d) : DictOf H' d := by
  obtain ⟨dd, e, _, z⟩ := h
  exact .inr ⟨dd, _, e, z⟩
theorem r_isP {D a : Addr} {d : Option Addr} {H : Hp} {Q : VK} {c : V} {cv : Value} {b : Bool} (hd : DictOf H d) (hc : ∀ u, RelV c u → u = cv) (h : PySem.W.kitOne K (.ref D) cv = some b) (k : Q (.bl b) H) : EE.rIsP K D a d [.ref a, c] H Q := ⟨c, cv, b, rfl, hc, h, hd, k⟩
local macro_rules | `(tactic| walk_at "s") => `(tactic| ((with_reducible show EE.rIsP _ _ _ _ [V.ref _, _] _ _); refine r_isP (by first | assumption | exact DictOf.mono (by walk_at "stp") (by assumption)) (fun _ r => r) (by assumption) ?_))
def sp_law_kinds (a : Addr) (d : Option Addr) (j : Nat) : Sp := fun vs H Q _ => vs = [.ref a] ∧ DictOf H d ∧ ∀ l H', Same H H' → H l = none → H' l = some (.lst ((kin j).map V.bl)) → Q (.ref l) H'
theorem ok_law_kinds (T : Txt K mg) {p : Addr × Obj} {D : Addr} {d : Option Addr} {j : Nat} (Y : KindT T D j) (hz : Zc (.ref D) d p.2) (hf : ∃ vs, p.2.data = .fields vs) : EE.FnP P w K mg base p 1 T.f_law_kinds T.fd_law_kinds ["_law_error"] (sp_law_kinds p.1 d j) := by
  refine EE.okP T.F_law_kinds sc_law_kinds (fun vs H Q E h => ?_) (fun cdv A outer s H vs Q E hr h => ?_)
  · obtain ⟨rfl, _⟩ := h
    rfl
  · obtain ⟨rfl, hd, k⟩ := h
    have nV := Y.nV
    have y0 := Y.k0; have y1 := Y.k1; have y2 := Y.k2; have y3 := Y.k3; have y4 := Y.k4; have y5 := Y.k5; have y6 := Y.k6
    have A := At.nil H
    refine ⟨_, (pss_cons (ps_set (i := 1) sc_law_kinds.nd rfl (by first | exact Or.inl rfl | exact Or.inr rfl) (pe_lst (pa_cons (pe_callB ((EE.call_isP Y.C List.mem_cons_self hz hf)) (by rfl) T.n_isinstance EB.bt_isinstance (pa_cons (pv 0) (pa_cons (pe_glob (v := .ref T.c_BadRing) (by rfl) T.g_BadRing rfl) pa_nil))) (pa_cons (pe_callB ((EE.call_isP Y.C List.mem_cons_self hz hf)) (by rfl) T.n_isinstance EB.bt_isinstance (pa_cons (pv 0) (pa_cons (pe_glob (v := .ref T.c_BadTolls) (by rfl) T.g_BadTolls rfl) pa_nil))) (pa_cons (pe_callB ((EE.call_isP Y.C List.mem_cons_self hz hf)) (by rfl) T.n_isinstance EB.bt_isinstance (pa_cons (pv 0) (pa_cons (pe_glob (v := .ref T.c_BadMost) (by rfl) T.g_BadMost rfl) pa_nil))) pa_nil)))))
      (pss_cons (ps_set (i := 1) sc_law_kinds.nd rfl (by first | exact Or.inl rfl | exact Or.inr rfl) (pe_op op_cat (pv 1) (pe_lst (pa_cons (pe_callB ((EE.call_isP Y.C List.mem_cons_self hz hf)) (by rfl) T.n_isinstance EB.bt_isinstance (pa_cons (pv 0) (pa_cons (pe_glob (v := .ref T.c_Unlike) (by rfl) T.g_Unlike rfl) pa_nil))) (pa_cons (pe_callB ((EE.call_isP Y.C List.mem_cons_self hz hf)) (by rfl) T.n_isinstance EB.bt_isinstance (pa_cons (pv 0) (pa_cons (pe_glob (v := .ref T.c_Lacking) (by rfl) T.g_Lacking rfl) pa_nil))) (pa_cons (pe_callB ((EE.call_isP Y.C List.mem_cons_self hz hf)) (by rfl) T.n_isinstance EB.bt_isinstance (pa_cons (pv 0) (pa_cons (pe_glob (v := .ref T.c_BadText) (by rfl) T.g_BadText rfl) pa_nil))) pa_nil))))))
      (pss_one (ps_ret (pe_op op_cat (pv 1) (pe_lst (pa_cons (pe_callB ((EE.call_isP Y.C List.mem_cons_self hz hf)) (by rfl) T.n_isinstance EB.bt_isinstance (pa_cons (pv 0) (pa_cons (pe_bltn (v := .ty "ValueError") (by rfl) nV (by decide +kernel) rfl) pa_nil))) pa_nil))))))), ?_⟩
    repeat walk_at "s"
    refine r_mkL A (by show 3 ≤ 10000000; decide) (fun l1 H1 A1 => ?_)
    have hd1 := hd.mono A1.ex
    repeat walk_at "s"
    refine r_mkL A1 (by show 3 ≤ 10000000; decide) (fun l2 H2 A2 => ?_)
    repeat walk_at "s"
    refine r_cat A2 (A2.get (by walk_at "mem")) (A2.get (by walk_at "mem")) (by show 3 + 3 ≤ 10000000; decide) (fun l3 H3 A3 => ?_)
    have hd3 := hd.mono A3.ex
    repeat walk_at "s"
    refine r_mkL A3 (by show 1 ≤ 10000000; decide) (fun l4 H4 A4 => ?_)
    repeat walk_at "s"
    refine r_cat A4 (A4.get (by walk_at "mem")) (A4.get (by walk_at "mem")) (by show 6 + 1 ≤ 10000000; decide) (fun l5 H5 A5 => ?_)
    exact k l5 H5 A5.ex (A5.new _ List.mem_cons_self) (A5.get List.mem_cons_self)

theorem flat_rep (n : Nat) (v : V) : (List.replicate n [v]).flatten = List.replicate n v := by
  induction n with
  | zero => rfl
  | succ n ih => rw [List.replicate_succ, List.flatten_cons, ih, List.replicate_succ]; rfl
theorem r_repV {H0 H : Hp} {L : List (Addr × HO)} {Q : VK} {p : Addr} {v : V} {n : Nat} {i : Int} (A : At H0 L H) (h : H p = some (.lst [v])) (hi : i = (n : Int)) (hn : n ≤ 1000) (k : ∀ l H', At H0 ((l, .lst (List.replicate n v)) :: L) H' → Q (.ref l) H') : rRep (.ref p) (.int i) H Q := by
  subst hi
  refine ⟨p, _, _, rfl, rfl, h, by omega, by omega, ?_, fun l hl => ?_⟩
  · rw [Int.toNat_natCast]
    exact sz (by show 1 * n ≤ _; omega)
  · rw [Int.toNat_natCast, flat_rep]
    exact k l _ (A.alloc hl _)
/-- f, asked with x and y, refuses with the class at C -/
def Refuses (P : Program) (w : World) (K : PySem.W.Frag) (mg : Str → Option Value) (base : Heap) (f C : Addr) (H : Hp) (x y : V) : Prop :=
  ∃ (fd : FuncData) (ps : List Str) (sp : Sp), FnOk P w K mg base (L2.CX P w) 6 f fd ps sp ∧ PySem.W.keepIn K (.ref f) = true ∧ Binds K fd ps [] ∧ ∀ H', Same H H' → ∀ Q E, (∀ d H'', Same H' H'' → DictOf H'' d → E (.ref C) d H'') → sp [x, y] H' Q E
theorem Refuses.mono {f C : Addr} {H H' : Hp} {x y : V} (s : Same H H') (h : Refuses P w K mg base f C H x y) : Refuses P w K mg base f C H' x y := by
  obtain ⟨fd, ps, sp, F, hk, hb, k⟩ := h
  exact ⟨fd, ps, sp, F, hk, hb, fun H2 s2 => k H2 (s.trans s2)⟩
theorem pe_guard {X : Cx} {e : Expr} {t : TE} {p : Prop} (h : p → PE X e t) : PE X e (fun σ H Q => p ∧ t σ H Q) := ⟨fun pins s σ H Q I q => (h q.1).run pins s σ H Q I q.2⟩
theorem r_callS {sp : Sp} {E : L2.St → XK} {tl : TA} {σ : L2.St} {H : Hp} {Q : VK} (k : tl σ H fun vs H1 => sp vs H1 Q (E σ)) : tCallS sp E tl σ H Q := k
local macro_rules | `(tactic| walk_at "s") => `(tactic| (with_reducible refine r_callS ?_))
def sp_law_told (P : Program) (w : World) (base : Heap) (T : Txt K mg) : Sp := fun vs H Q _ => ∃ (f D : Addr) (x y : V) (j : Nat), vs = [.ref f, x, y] ∧ Refuses P w K mg base f D H x y ∧ KindT T D j ∧ ∀ l H', Same H H' → H l = none → H' l = some (.lst ((kin j).map V.bl)) → Q (.ref l) H'
theorem ok_law_told (T : Txt K mg) : FnOk P w K mg base CX0 7 T.f_law_told T.fd_law_told ["_law_ask", "_law_one", "_law_other"] (sp_law_told P w base T) := by
  refine T.F_law_told.ok sc_law_told (fun vs H Q E h => ?_) (fun cdv A outer s H vs Q E hr h => ?_)
  · obtain ⟨_, _, _, _, _, rfl, _⟩ := h
    rfl
  · obtain ⟨f, D, x, y, j, rfl, ⟨fd, ps, sp, F, hkp, hbi, hsp⟩, Y, k⟩ := h
    refine ⟨_, pss_cons (ps_try_as (i := 3) (tb := fun W => tDrop (fun σ H Q => σ[0]? = some (some (.ref f)) ∧ (tCons (tVar 1) (tCons (tVar 2) tNil)) σ H fun vs H1 => sp vs H1 Q (WE W σ))) (ts := fun a cls d => tRet (fun σ H Q => cls = .ref D ∧ tCall (sp_law_kinds a d j) [] E0 (tCons (tVar 3) tNil) σ H Q)) (Wout := fun _ _ _ _ => False) rfl rfl sc_law_told.nd rfl rfl ⟨rfl, by decide, Or.inl T.g_RingError⟩ takes0
        (fun W pn xe tk _ => pss_one (ps_expr (by exact (EE.pe_callLS (i := 0) F (hr.mono (by decide)) rfl (.inl rfl) hkp hbi (fun σ => passAt tk σ) (pa_cons (pv 1) (pa_cons (pv 2) pa_nil))))))
        (fun a oe cls d pn hz hf => pss_one (ps_ret (pe_guard fun hc => EE.pe_callP (ok_law_kinds T Y (p := (a, oe)) (by rw [← hc]; exact hz) hf) ⟨(hr.mono (by decide : 1 ≤ 6)).dp, (hr.mono (by decide : 1 ≤ 6)).un⟩ List.mem_cons_self (by rfl) T.g_law_kinds T.F_law_kinds.kp (b_law_kinds T) (pa_cons (pv 3) pa_nil)))))
      (pss_one (ps_ret (pe_lst pa_nil))), ?_⟩
    repeat walk_at "s"
    refine ⟨rfl, ?_⟩
    repeat walk_at "s"
    refine hsp H (Same.refl _) _ _ fun d H1 s1 hd => ⟨true, Y.ex, fun _ a ha => ?_, fun q => nomatch q⟩
    repeat walk_at "s"
    refine ⟨rfl, ?_⟩
    repeat walk_at "s"
    exact ⟨rfl, hd, fun l H' s' n hl => k l H' (s1.trans s') (s1.free n) hl⟩
def sp_law_all (P : Program) (w : World) (base : Heap) (T : Txt K mg) : Sp := fun vs H Q _ => ∃ (f D a b : Addr) (one : V) (xs : List V) (j : Nat), vs = [.ref f, one, .ref a, .ref b] ∧ SqL K H a xs ∧ xs.length ≤ 1000 ∧ (∀ x ∈ xs, Refuses P w K mg base f D H one x) ∧ KindT T D j ∧ SqL K H b ((kin j).map V.bl) ∧ ∀ H', Same H H' → Q (.bl true) H'
theorem ok_law_all (T : Txt K mg) : FnOk P w K mg base CX0 8 T.f_law_all T.fd_law_all ["_law_ask", "_law_one", "_law_things", "_law_due"] (sp_law_all P w base T) := by
  refine T.F_law_all.ok sc_law_all (fun vs H Q E h => ?_) (fun cdv A outer s H vs Q E hr h => ?_)
  · obtain ⟨_, _, _, _, _, _, _, rfl, _⟩ := h
    rfl
  · skip
    obtain ⟨f, D, a, b, one, xs, j, rfl, ha, hn, hx, Y, hb, k⟩ := h
    have A := At.nil H
    refine ⟨_, (pss_one (ps_ret (pe_callB (kAll (K := K)) (by rfl) T.n_all EB.bt_all (pa_cons (pe_lc (own := [("_law_thing", 4)]) (g := gName 4) rfl sc_law_all.nd (kPiL (K := K) (pv 2)) (blkOk_by (own := [("_law_thing", 4)]) (N := ["_law_ask", "_law_one", "_law_things", "_law_due", "_law_thing"]) (sc := defScope s_law_all) (by decide +kernel)) (fun _ _ _ _ _ => (pg_name (i := 4) sc_law_all.nd rfl (by first | exact Or.inl rfl | exact Or.inr rfl))) (fun _ _ _ _ _ => pts_nil) (fun _ _ _ _ _ => (pe_cmpR (kEqD (K := K) hr.units) (pe_call (ok_law_told T (P := P) (w := w) (base := base)) (hr.mono (by decide)) (by rfl) T.g_law_told T.F_law_told.kp (b_law_told T) .nil pass0 (pa_cons (pv 0) (pa_cons (pv 1) (pa_cons (pv 4) pa_nil)))) (pv 3) (nomark _)))) pa_nil)))), ?_⟩
    repeat walk_at "s"
    refine r_lcItl (K := K) (xs := xs) (fun _ => V.bl true) A (fun L' H' A' => A'.sq ha) (by omega) (fun _ => rfl) (fun i y D H' Q' hy A' q => ?_) (fun D1 H1 A1 => ?_)
    · repeat walk_at "s"
      refine ⟨f, _, one, y, j, rfl, (hx y (List.mem_of_getElem? hy)).mono A'.ex, Y, fun l H2 s2 n hl => ?_⟩
      have A2 := A'.made s2 n hl
      have h1 : SqL K H2 l ((kin j).map V.bl) := A2.sqo List.mem_cons_self
      have h2 : SqL K H2 b ((kin j).map V.bl) := A2.sq hb
      repeat walk_at "s"
      rw [decide_eq_true rfl]
      exact q.t0 rfl (A'.same s2)
    have A1 : At H [(D1, .lst ((xs.map fun _ => true).map V.bl))] H1 := by rw [List.map_map]; exact A1
    have hq : SqL K H1 D1 ((xs.map fun _ => true).map V.bl) := A1.sqo List.mem_cons_self
    repeat walk_at "s"
    rw [show ((xs.map fun _ => true).all id) = true by simp]
    exact k _ A1.ex
def sp_law_lack (T : Txt K mg) : Sp := fun vs H Q _ => ∃ (p : Addr) (hs : List Int) (i : Int), vs = [.ref p, .int i] ∧ RingAt T H p hs ∧ 0 < hs.length ∧ hs.length ≤ 1000 ∧ hs.sum ≠ 0 ∧ ∀ H', Same H H' → Q (.int hs.sum) H'
theorem ok_law_lack (T : Txt K mg) (te : PySem.W.exmOne K (.ref T.c_Lacking) (.ref T.c_Lacking) = some true) : FnOk P w K mg base CX0 7 T.f_law_lack T.fd_law_lack ["_law_ring_here", "_law_door"] (sp_law_lack T) := by
  refine T.F_law_lack.ok sc_law_lack (fun vs H Q E h => ?_) (fun cdv A outer s H vs Q E hr h => ?_)
  · obtain ⟨_, _, _, rfl, _⟩ := h
    rfl
  · obtain ⟨p, hs, i, rfl, R, h0, hn, hz, k⟩ := h
    refine ⟨_, pss_cons (ps_try_as (i := 2) (ts := fun a cls d => tRet (tXf a cls d T.c_Lacking "total" (tVar 2))) (Wout := fun _ _ _ _ => False) rfl rfl sc_law_lack.nd rfl rfl ⟨rfl, by decide, Or.inl T.g_Lacking⟩ takes0
        (fun W pn xe tk _ => pss_one (ps_if (pt_cmpR op_lt (pv 1) pe_int (nomark _))
          (pss_one (ps_expr (pe_callS (ok_law_plain T) (hr.mono (by decide)) (by rfl) T.g_law_plain T.F_law_plain.kp (b_law_plain T) (fun σ => passAt tk σ) (pa_cons (pv 0) (pa_cons (pv 1) pa_nil)))))
          (pss_one (ps_if (pt_cmpR op_eq (pv 1) pe_int (nomark _))
            (pss_one (ps_expr (pe_callS (ok_ends T) (hr.mono (by decide)) (by rfl) T.g_ends T.F_ends.kp (b_ends T) (fun σ => passAt tk σ) (pa_cons (pv 0) (pa_cons (pe_op op_rep (pe_lst (pa_cons pe_int pa_nil)) (pe_callB (kLen (K := K)) (by rfl) T.n_len PySem.boot_len (pa_cons (pe_meth0 (pv 0) T.cl_Ring T.m_Ring_houses (ok_Ring_houses T) (hr.mono (by decide)) (b_Ring_houses T) .nil pass0) pa_nil))) pa_nil)))))
            (pss_one (ps_expr (pe_callS (ok_within T) (hr.mono (by decide)) (by rfl) T.g_within T.F_within.kp (b_within T) (fun σ => passAt tk σ) (pa_cons (pv 0) (pa_cons pe_int pa_nil)))))))))
        (fun a oe cls d pn hz hf => pss_one (ps_ret (pe_xf T.xf_Lacking T.no_Lacking_total hz hf (pv 2)))))
      (pss_one (ps_ret pe_int)), ?_⟩
    have done : ∀ (D : Ends) (σ : L2.St) H1 d H2, σ.length = 3 → D.rt = Q → Same H H1 → Same H1 H2 → LackD H1 H2 hs.sum d → wAs K (.ref T.c_Lacking) 2 (fun a cls d => tRet (tXf a cls d T.c_Lacking "total" (tVar 2))) (fun _ _ _ _ => False) D (.ref T.c_Lacking) d σ H2 := fun D σ H1 d H2 hσ hD s1 s2 hd => ⟨true, te, fun _ a ha => ?_, fun q => nomatch q⟩
    · have A := At.nil H
      repeat walk_at "s"
      refine r_ifD (fun e => ?_) (fun e => ?_)
      · repeat walk_at "s"
        exact ⟨p, hs, i, rfl, R, h0, hn, hz, fun d H2 s2 hd => done _ _ H d H2 rfl rfl (Same.refl _) s2 hd⟩
      · repeat walk_at "s"
        refine r_ifD (fun e => ?_) (fun e => ?_)
        · repeat walk_at "s"
          refine r_mkL A (by show 1 ≤ 10000000; decide) (fun l H1 A1 => ?_)
          repeat walk_at "s"
          refine use_houses (R.mono A1.ex) (fun l2 H2 s2 n2 h2 => ?_)
          have A2 := A1.made s2 n2 h2
          have hq2 : SqL K H2 l2 (hs.map V.int) := A2.sqo List.mem_cons_self
          repeat walk_at "s"
          refine r_repV (n := hs.length) A2 (A2.get (by walk_at "mem")) rfl (by omega) (fun l3 H3 A3 => ?_)
          repeat walk_at "s"
          have e3 : (List.replicate hs.length (V.int 1)) = (List.replicate hs.length (1 : Int)).map V.int := by rw [List.map_replicate]
          rw [e3] at A3
          refine ⟨p, hs, _, rfl, R.mono A3.ex, .inr ⟨l3, List.replicate hs.length 1, rfl, A3.sqo List.mem_cons_self, List.length_replicate, hn, fun t ht => ?_, .inl ⟨hz, fun d H4 s4 hd => done _ _ H3 d H4 rfl rfl A3.ex s4 hd⟩⟩⟩
          rw [List.eq_of_mem_replicate ht]
          decide
        · repeat walk_at "s"
          exact ⟨p, hs, .int 5, rfl, R, .inr (.inl ⟨5, rfl⟩), .inr ⟨5, rfl, by decide, hz, fun d H2 s2 hd => done _ _ H d H2 rfl rfl (Same.refl _) s2 hd⟩⟩
    · obtain ⟨dd, rfl, n, hz2⟩ := hd
      have e2 : (σ.set 2 (some (V.ref a)))[2]? = some (some (V.ref a)) := by rw [List.getElem?_set]; simp [hσ]
      refine ⟨.ref a, e2, rfl, rfl, dd, _, .int hs.sum, rfl, hz2, by simp [List.lookup], ?_⟩
      show D.rt _ _
      rw [hD]
      exact k H2 (s1.trans s2)

local macro_rules | `(tactic| walk_at "memd") => `(tactic| repeat (first | exact List.mem_cons_self | refine List.mem_cons_of_mem _ ?_))
theorem r_dnew {H0 H : Hp} {L : List (Addr × HO)} {Q : VK} {σ : L2.St} (A : At H0 L H) (k : ∀ d H', At H0 ((d, .dK []) :: L) H' → Q (.ref d) H') : tDNewK σ H Q := fun d hd => k d _ (A.alloc hd _)
/-! the doors refuse -/
theorem refuses_ring {T : Txt K mg} {H : Hp} {x y : V} (h : BadR K H x) : Refuses P w K mg base T.f_law_ring T.c_BadRing H x y :=
  ⟨T.fd_law_ring, _, sp_law_ring T, (ok_law_ring T).mono (by decide), T.F_law_ring.kp, b_law_ring T, fun H' s Q E hE => ⟨x, y, rfl, h.mono s, fun H'' s2 => hE none H'' s2 (.inl rfl)⟩⟩
theorem refuses_tolls {T : Txt K mg} {H : Hp} {p : Addr} {hs : List Int} {x : V} (R : RingAt T H p hs) (h : BadT K H hs.length x) : Refuses P w K mg base T.f_law_with_tolls T.c_BadTolls H (.ref p) x :=
  ⟨T.fd_law_with_tolls, _, sp_law_with_tolls T, (ok_law_with_tolls T).mono (by decide), T.F_law_with_tolls.kp, b_law_with_tolls T, fun H' s Q E hE => ⟨p, hs, x, rfl, R.mono s, h.mono s, fun H'' s2 => hE none H'' s2 (.inl rfl)⟩⟩
theorem refuses_ends {T : Txt K mg} {H : Hp} {p : Addr} {hs : List Int} {x : V} (R : RingAt T H p hs) (h : BadT K H hs.length x) : Refuses P w K mg base T.f_law_ends T.c_BadTolls H (.ref p) x :=
  ⟨T.fd_law_ends, _, sp_law_ends T, (ok_law_ends T).mono (by decide), T.F_law_ends.kp, b_law_ends T, fun H' s Q E hE => ⟨p, hs, x, rfl, R.mono s, .inl ⟨h.mono s, fun H'' s2 => hE none H'' s2 (.inl rfl)⟩⟩⟩
theorem refuses_noughts {T : Txt K mg} {H : Hp} {p a : Addr} {hs : List Int} (R : RingAt T H p hs) (h0 : hs.sum = 0) (hn : 0 < hs.length ∧ hs.length ≤ 1000) (ha : SqL K H a ((List.replicate hs.length (0 : Int)).map V.int)) : Refuses P w K mg base T.f_law_ends T.c_BadTolls H (.ref p) (.ref a) :=
  ⟨T.fd_law_ends, _, sp_law_ends T, (ok_law_ends T).mono (by decide), T.F_law_ends.kp, b_law_ends T, fun H' s Q E hE => ⟨p, hs, _, rfl, R.mono s, .inr ⟨a, List.replicate hs.length 0, rfl, s.seq ha, List.length_replicate, hn.2, (fun t ht => by rw [List.eq_of_mem_replicate ht]; decide),
    .inr ⟨h0, hn.1, fun t ht => List.eq_of_mem_replicate ht, fun H'' s2 => hE none H'' s2 (.inl rfl)⟩⟩⟩⟩
theorem refuses_lack_ends {T : Txt K mg} {H : Hp} {p a : Addr} {hs : List Int} (R : RingAt T H p hs) (h0 : hs.sum ≠ 0) (hn : hs.length ≤ 1000) (ha : SqL K H a ((List.replicate hs.length (0 : Int)).map V.int)) : Refuses P w K mg base T.f_law_ends T.c_Lacking H (.ref p) (.ref a) :=
  ⟨T.fd_law_ends, _, sp_law_ends T, (ok_law_ends T).mono (by decide), T.F_law_ends.kp, b_law_ends T, fun H' s Q E hE => ⟨p, hs, _, rfl, R.mono s, .inr ⟨a, List.replicate hs.length 0, rfl, s.seq ha, List.length_replicate, hn, (fun t ht => by rw [List.eq_of_mem_replicate ht]; decide),
    .inl ⟨h0, fun d H'' s2 hd => hE d H'' s2 hd.dict⟩⟩⟩⟩
theorem refuses_most {T : Txt K mg} {H : Hp} {p : Addr} {hs : List Int} {x : V} (R : RingAt T H p hs) (hx : Th K H x) (h : BadM x) : Refuses P w K mg base T.f_law_within T.c_BadMost H (.ref p) x :=
  ⟨T.fd_law_within, _, sp_law_within T, (ok_law_within T).mono (by decide), T.F_law_within.kp, b_law_within T, fun H' s Q E hE => ⟨p, hs, x, rfl, R.mono s, hx.mono s, .inl ⟨h, fun H'' s2 => hE none H'' s2 (.inl rfl)⟩⟩⟩
theorem refuses_lack_within {T : Txt K mg} {H : Hp} {p : Addr} {hs : List Int} {i : Int} (R : RingAt T H p hs) (hi : 0 ≤ i) (h0 : hs.sum ≠ 0) : Refuses P w K mg base T.f_law_within T.c_Lacking H (.ref p) (.int i) :=
  ⟨T.fd_law_within, _, sp_law_within T, (ok_law_within T).mono (by decide), T.F_law_within.kp, b_law_within T, fun H' s Q E hE => ⟨p, hs, _, rfl, R.mono s, .inr (.inl ⟨i, rfl⟩), .inr ⟨i, rfl, hi, h0, fun d H'' s2 hd => hE d H'' s2 hd.dict⟩⟩⟩
theorem refuses_by {T : Txt K mg} {H : Hp} {r x : V} (hx : Th K H x) (h : isI x = false) : Refuses P w K mg base T.f_law_turned T.c_BadMost H r x :=
  ⟨T.fd_law_turned, _, sp_law_turned T, (ok_law_turned T).mono (by decide), T.F_law_turned.kp, b_law_turned T, fun H' s Q E hE => ⟨r, x, rfl, hx.mono s, h, fun H'' s2 => hE none H'' s2 (.inl rfl)⟩⟩
theorem refuses_plain {T : Txt K mg} {H : Hp} {p : Addr} {hs : List Int} {i : Int} (R : RingAt T H p hs) (h0 : hs.sum ≠ 0) (hn : 0 < hs.length ∧ hs.length ≤ 1000) : Refuses P w K mg base T.f_law_plain T.c_Lacking H (.ref p) (.int i) :=
  ⟨T.fd_law_plain, _, sp_law_plain T, (ok_law_plain T).mono (by decide), T.F_law_plain.kp, b_law_plain T, fun H' s Q E hE => ⟨p, hs, i, rfl, R.mono s, hn.1, hn.2, h0, fun d H'' s2 hd => hE d H'' s2 hd.dict⟩⟩
theorem refuses_unlike {T : Txt K mg} {H : Hp} {p q : Addr} {hs ms : List Int} (R1 : RingAt T H p hs) (R2 : RingAt T H q ms) (h2 : 2 ≤ hs.length) (hn : hs.length ≤ 1000) (h : ms.length ≠ hs.length ∨ (ms.length = hs.length ∧ (sums hs ms).all inB = false)) : Refuses P w K mg base T.f_law_together T.c_Unlike H (.ref p) (.ref q) :=
  ⟨T.fd_law_together, _, sp_law_together T, (ok_law_together T).mono (by decide), T.F_law_together.kp, b_law_together T, fun H' s Q E hE => ⟨p, q, hs, ms, rfl, R1.mono s, R2.mono s, h2, hn, (fun _ H'' s2 => hE none H'' s2 (.inl rfl)), fun z => by
    rcases h with h | h
    · exact absurd z.1 h
    · rw [z.2] at h
      cases h.2⟩⟩
theorem bad2 {H : Hp} {l : Addr} {a b : V} (h : SqL K H l [a, b]) (ha : Th K H a) (hb : Th K H b) (hg : (isH a && isH b) = false) : BadR K H (.ref l) :=
  .inr ⟨l, _, rfl, h, by show 2 ≤ 1000; decide, fun y hy => by
    rcases List.mem_cons.mp hy with rfl | hy
    · exact ha
    · rw [List.mem_singleton.mp hy]
      exact hb, by show (true && (isH a && (isH b && true))) = false; rw [Bool.and_true, Bool.true_and]; exact hg⟩
def sp_law_rings_right (T : Txt K mg) : Sp := fun vs H Q _ => ∃ (b : Addr) (far : Int), vs = [.ref b, .int far] ∧ SqL K H b ((kin 0).map V.bl) ∧ 0 ≤ far ∧ KindT T T.c_BadRing 0 ∧ ∀ H', Same H H' → Q (.bl true) H'
theorem ok_law_rings_right (T : Txt K mg) : FnOk P w K mg base CX0 8 T.f_law_rings_right T.fd_law_rings_right ["_law_due", "_law_far"] (sp_law_rings_right T) := by
  refine T.F_law_rings_right.ok sc_law_rings_right (fun vs H Q E h => ?_) (fun cdv A outer s H vs Q E hr h => ?_)
  · obtain ⟨_, _, rfl, _⟩ := h
    rfl
  · skip
    obtain ⟨b, far, rfl, hb, hf, Y, k⟩ := h
    have A := At.nil H
    refine ⟨_, (pss_cons (ps_set (i := 2) sc_law_rings_right.nd rfl (by first | exact Or.inl rfl | exact Or.inr rfl) (pe_lst (pa_cons pe_non (pa_cons (pe_tup (pa_cons pe_int (pa_cons (pe_un un_neg pe_int) pa_nil))) (pa_cons (pe_lst pa_nil) (pa_cons (pe_lst (pa_cons pe_int pa_nil)) (pa_cons pe_str (pa_cons pe_dnewK (pa_cons (pe_lst (pa_cons pe_int (pa_cons pe_non pa_nil))) (pa_cons (pe_lst (pa_cons pe_int (pa_cons pe_str pa_nil))) (pa_cons (pe_lst (pa_cons pe_int (pa_cons pe_bl pa_nil))) (pa_cons (pe_lst (pa_cons pe_int (pa_cons pe_int pa_nil))) (pa_cons (pe_lst (pa_cons (pe_op op_sub (pe_un un_neg pe_int) (pv 1)) (pa_cons pe_int pa_nil))) pa_nil)))))))))))))
      (pss_cons (ps_expr (pe_bm PySem.F.plainAttrs_list PySem.F.slot_list_append PySem.F.type_list_append mt_append (pv 2) (pa_cons (pe_lst (pa_cons (pe_lst (pa_cons pe_int pa_nil)) (pa_cons pe_int pa_nil))) pa_nil)))
      (pss_one (ps_ret (pe_callB (kAll (K := K)) (by rfl) T.n_all EB.bt_all (pa_cons (pe_lc (own := [("_law_thing", 3)]) (g := gName 3) rfl sc_law_rings_right.nd (kPiL (K := K) (pv 2)) (blkOk_by (own := [("_law_thing", 3)]) (N := ["_law_due", "_law_far", "_law_bad", "_law_thing"]) (sc := defScope s_law_rings_right) (by decide +kernel)) (fun _ _ _ _ _ => (pg_name (i := 3) sc_law_rings_right.nd rfl (by first | exact Or.inl rfl | exact Or.inr rfl))) (fun _ _ _ _ _ => pts_nil) (fun _ _ _ _ _ => (pe_cmpR (kEqD (K := K) hr.units) (pe_call (ok_law_told T (P := P) (w := w) (base := base)) (hr.mono (by decide)) (by rfl) T.g_law_told T.F_law_told.kp (b_law_told T) .nil pass0 (pa_cons (pe_glob (v := .ref T.f_law_ring) (by rfl) T.g_law_ring rfl) (pa_cons (pv 3) (pa_cons pe_int pa_nil)))) (pv 0) (nomark _)))) pa_nil)))))), ?_⟩
    repeat walk_at "s"
    refine r_mkT A (by show 2 ≤ 10000000; decide) (fun t1 H1 A => ?_)
    repeat walk_at "s"
    refine r_mkL A (by show 0 ≤ 10000000; decide) (fun l1 H2 A => ?_)
    repeat walk_at "s"
    refine r_mkL A (by show 1 ≤ 10000000; decide) (fun l2 H3 A => ?_)
    repeat walk_at "s"
    refine r_dnew A (fun d1 H4 A => ?_)
    repeat walk_at "s"
    refine r_mkL A (by show 2 ≤ 10000000; decide) (fun l3 H5 A => ?_)
    repeat walk_at "s"
    refine r_mkL A (by show 2 ≤ 10000000; decide) (fun l4 H6 A => ?_)
    repeat walk_at "s"
    refine r_mkL A (by show 2 ≤ 10000000; decide) (fun l5 H7 A => ?_)
    repeat walk_at "s"
    refine r_mkL A (by show 2 ≤ 10000000; decide) (fun l6 H8 A => ?_)
    repeat walk_at "s"
    refine r_mkL A (by show 2 ≤ 10000000; decide) (fun l7 H9 A => ?_)
    repeat walk_at "s"
    have b1 : BadR K H9 (.ref t1) := .inl (.inr (.inr (.inl ⟨t1, _, rfl, A.sto (by walk_at "memd")⟩)))
    have b2 : BadR K H9 (.ref l1) := .inr ⟨l1, [], rfl, A.sqo (by walk_at "memd"), by show 0 ≤ 1000; decide, (fun _ h => nomatch h), rfl⟩
    have b3 : BadR K H9 (.ref l2) := .inr ⟨l2, _, rfl, A.sqo (by walk_at "memd"), by show 1 ≤ 1000; decide, (fun y hy => by rw [List.mem_singleton.mp hy]; exact .inr (.inl ⟨_, rfl⟩)), rfl⟩
    have b4 : BadR K H9 (.ref d1) := .inl (.inr (.inr (.inr ⟨d1, rfl, A.get (by walk_at "memd")⟩)))
    have b5 : BadR K H9 (.ref l3) := bad2 (A.sqo (by walk_at "memd")) (.inr (.inl ⟨_, rfl⟩)) (.inl rfl) rfl
    have b6 : BadR K H9 (.ref l4) := bad2 (A.sqo (by walk_at "memd")) (.inr (.inl ⟨_, rfl⟩)) (.inr (.inr (.inr (.inl ⟨_, rfl⟩)))) rfl
    have b7 : BadR K H9 (.ref l5) := bad2 (A.sqo (by walk_at "memd")) (.inr (.inl ⟨_, rfl⟩)) (.inr (.inr (.inl ⟨_, rfl⟩))) rfl
    have b8 : BadR K H9 (.ref l6) := bad2 (A.sqo (by walk_at "memd")) (.inr (.inl ⟨_, rfl⟩)) (.inr (.inl ⟨_, rfl⟩)) rfl
    have b9 : BadR K H9 (.ref l7) := bad2 (A.sqo (by walk_at "memd")) (.inr (.inl ⟨_, rfl⟩)) (.inr (.inl ⟨_, rfl⟩)) (by
      show (decide (-1000000 ≤ -1000001 - far ∧ -1000001 - far ≤ 1000000) && inB 0) = false
      rw [decide_eq_false (by omega)]
      rfl)
    have s0 := A.ex
    have A0 := At.nil H9
    clear A
    refine r_mkL A0 (by show 11 ≤ 10000000; decide) (fun l8 H10 A => ?_)
    repeat walk_at "s"
    refine r_mkL A (by show 1 ≤ 10000000; decide) (fun l9 H11 A => ?_)
    repeat walk_at "s"
    refine r_mkL A (by show 2 ≤ 10000000; decide) (fun l10 H12 A => ?_)
    repeat walk_at "s"
    have A2 : At H9 [(l8, _), (l10, _), (l9, _)] H12 := A.perm ((List.Perm.cons _ (List.Perm.swap ..)).trans (List.Perm.swap ..)|>.symm)
    refine r_append A2 (by show 11 < 10000000; decide) (fun H13 A3 => ?_)
    have b10 : BadR K H13 (.ref l10) := bad2 (A3.sqo (by walk_at "memd")) (.inr (.inr (.inr (.inr (.inl ⟨l9, _, rfl, A3.sqo (by walk_at "memd")⟩))))) (.inr (.inl ⟨_, rfl⟩)) rfl
    have s1 := A3.ex
    have ball : ∀ y ∈ [V.non, V.ref t1, V.ref l1, V.ref l2, V.str (Str.ofString "0 0"), V.ref d1, V.ref l3, V.ref l4, V.ref l5, V.ref l6, V.ref l7] ++ [V.ref l10], BadR K H13 y := fun y hy => by
      simp only [List.cons_append, List.nil_append, List.mem_cons, List.not_mem_nil, or_false] at hy
      rcases hy with rfl | rfl | rfl | rfl | rfl | rfl | rfl | rfl | rfl | rfl | rfl | rfl
      · exact .inl (.inl rfl)
      · exact b1.mono s1
      · exact b2.mono s1
      · exact b3.mono s1
      · exact .inl (.inr (.inl ⟨_, rfl⟩))
      · exact b4.mono s1
      · exact b5.mono s1
      · exact b6.mono s1
      · exact b7.mono s1
      · exact b8.mono s1
      · exact b9.mono s1
      · exact b10
    have hxs : SqL K H13 l8 ([V.non, V.ref t1, V.ref l1, V.ref l2, V.str (Str.ofString "0 0"), V.ref d1, V.ref l3, V.ref l4, V.ref l5, V.ref l6, V.ref l7] ++ [V.ref l10]) := A3.sqo List.mem_cons_self
    have hb3 : SqL K H13 b ((kin 0).map V.bl) := (s0.trans s1).seq hb
    have hlen : ([V.non, V.ref t1, V.ref l1, V.ref l2, V.str (Str.ofString "0 0"), V.ref d1, V.ref l3, V.ref l4, V.ref l5, V.ref l6, V.ref l7] ++ [V.ref l10]).length < 10000000 := by show 12 < 10000000; decide
    generalize [V.non, V.ref t1, V.ref l1, V.ref l2, V.str (Str.ofString "0 0"), V.ref d1, V.ref l3, V.ref l4, V.ref l5, V.ref l6, V.ref l7] ++ [V.ref l10] = xs at ball hxs hlen
    have A4 := At.nil H13
    clear A A2 A3
    repeat walk_at "s"
    refine r_lcItl (K := K) (xs := xs) (fun _ => V.bl true) A4 (fun L' H' A' => A'.sq hxs) hlen (fun _ => rfl) (fun i y D H' Q' hy A' q => ?_) (fun D1 H14 A1 => ?_)
    · repeat walk_at "s"
      refine ⟨T.f_law_ring, _, y, .int 0, 0, rfl, refuses_ring ((ball y (List.mem_of_getElem? hy)).mono A'.ex), Y, fun l H2 s2 n hl => ?_⟩
      have A2 := A'.made s2 n hl
      have h1 : SqL K H2 l ((kin 0).map V.bl) := A2.sqo List.mem_cons_self
      have h2 : SqL K H2 b ((kin 0).map V.bl) := A2.sq hb3
      repeat walk_at "s"
      rw [decide_eq_true rfl]
      exact q.t0 rfl (A'.same s2)
    have A1 : At H13 [(D1, .lst ((xs.map fun _ => true).map V.bl))] H14 := by rw [List.map_map]; exact A1
    have hq : SqL K H14 D1 ((xs.map fun _ => true).map V.bl) := A1.sqo List.mem_cons_self
    repeat walk_at "s"
    rw [show ((xs.map fun _ => true).all id) = true by simp]
    exact k _ ((s0.trans s1).trans A1.ex)

theorem kRepT {X : Cx} (h : X.K = K := by rfl) : OpR X (binaryOp .Mult) (rRepT K) := by subst h; exact op_repT
theorem r_repT1 {H0 H : Hp} {L : List (Addr × HO)} {Q : VK} {p : Addr} {v : V} {n : Nat} {i : Int} (A : At H0 L H) (h : SqT K H p [v]) (hi : i = (n : Int)) (h2 : 2 ≤ n) (hn : n ≤ 1000) (k : ∀ l H', At H0 ((l, .tup (List.replicate n v)) :: L) H' → Q (.ref l) H') : rRepT K (.ref p) (.int i) H Q := by
  subst hi
  refine ⟨p, _, _, rfl, rfl, h, (fun z => nomatch z), by omega, by omega, by show 1 ≤ 1000; decide, fun l hl => ?_⟩
  rw [Int.toNat_natCast, flat_rep]
  exact k l _ (A.alloc hl _)
/-- what is due, by the number of its class -/
def Dues (K : PySem.W.Frag) (H : Hp) (dl : Addr) (ds : List Addr) : Prop := SqL K H dl (ds.map V.ref) ∧ ds.length = 5 ∧ ∀ (j : Nat) d, ds[j]? = some d → SqL K H d ((kin j).map V.bl)
theorem Dues.mono {H H' : Hp} {dl : Addr} {ds : List Addr} (s : Same H H') (h : Dues K H dl ds) : Dues K H' dl ds := ⟨s.seq h.1, h.2.1, fun j d e => s.seq (h.2.2 j d e)⟩
theorem r_due {H : Hp} {dl : Addr} {ds : List Addr} {Q : VK} {i : Int} (j : Nat) (hi : i = (j : Int)) (hj : j < 5) (D : Dues K H dl ds) (k : ∀ d, SqL K H d ((kin j).map V.bl) → Q (.ref d) H) : rIxL K (.ref dl) (.int i) H Q := by
  subst hi
  obtain ⟨d, hd⟩ : ∃ d, ds[j]? = some d := ⟨_, List.getElem?_eq_getElem (by rw [D.2.1]; exact hj)⟩
  exact ⟨dl, _, _, .ref d, rfl, rfl, D.1, atI_nat (by rw [List.getElem?_map, hd]; rfl), k d (D.2.2 j d hd)⟩
theorem badl {H : Hp} {l : Addr} {xs : List V} {n : Nat} (h : SqL K H l xs) (hn : xs.length ≤ 1000) (hy : ∀ y ∈ xs, Th K H y) (hg : xs.length ≠ n ∨ ∃ y ∈ xs, isT y = false) : BadT K H n (.ref l) := by
  refine .inr ⟨l, xs, rfl, h, hn, hy, ?_⟩
  unfold goodTl
  rcases hg with hg | ⟨y, hm, e⟩
  · rw [decide_eq_false hg]
    rfl
  · cases q : xs.all isT with
    | false => exact Bool.and_false _
    | true =>
      rw [List.all_eq_true.mp q y hm] at e
      cases e
theorem th_int {H : Hp} {i : Int} : Th K H (.int i) := .inr (.inl ⟨i, rfl⟩)
theorem th_rep {H : Hp} {v : V} {n : Nat} (h : Th K H v) : ∀ y ∈ List.replicate n v, Th K H y := fun y hy => by rw [List.eq_of_mem_replicate hy]; exact h
theorem th_app {H : Hp} {xs ys : List V} (h1 : ∀ y ∈ xs, Th K H y) (h2 : ∀ y ∈ ys, Th K H y) : ∀ y ∈ xs ++ ys, Th K H y := fun y hy => (List.mem_append.mp hy).elim (h1 y) (h2 y)
theorem th_one {H : Hp} {v : V} (h : Th K H v) : ∀ y ∈ [v], Th K H y := fun y hy => by rw [List.mem_singleton.mp hy]; exact h
def sp_law_tolls_right (T : Txt K mg) : Sp := fun vs H Q _ => ∃ (p q dl : Addr) (hs gs : List Int) (ds : List Addr) (far : Int), vs = [.ref p, .ref q, .ref dl, .int far] ∧ RingAt T H p hs ∧ RingAt T H q gs ∧ gs.length = hs.length ∧ 2 ≤ hs.length ∧ hs.length ≤ 900 ∧ hs.sum = 0 ∧ gs.sum ≠ 0 ∧
  Dues K H dl ds ∧ 0 ≤ far ∧ KindT T T.c_BadTolls 1 ∧ KindT T T.c_Lacking 4 ∧ ∀ H', Same H H' → Q (.bl true) H'
theorem ok_law_tolls_right (T : Txt K mg) : FnOk P w K mg base CX0 9 T.f_law_tolls_right T.fd_law_tolls_right ["_law_ring_here", "_law_lacking", "_law_due", "_law_far"] (sp_law_tolls_right T) := by
  refine T.F_law_tolls_right.ok sc_law_tolls_right (fun vs H Q E h => ?_) (fun cdv A outer s H vs Q E hr h => ?_)
  · obtain ⟨_, _, _, _, _, _, _, rfl, _⟩ := h
    rfl
  · skip
    obtain ⟨p, q, dl, hs, gs, ds, far, rfl, R, R2, hgl, h2, hn, hs0, hg0, D, hf, Y1, Y4, k⟩ := h
    have A := At.nil H
    refine ⟨_, (pss_cons (ps_set (i := 4) sc_law_tolls_right.nd rfl (by first | exact Or.inl rfl | exact Or.inr rfl) (pe_callB (kLen (K := K)) (by rfl) T.n_len PySem.boot_len (pa_cons (pe_meth0 (pv 0) T.cl_Ring T.m_Ring_houses (ok_Ring_houses T) (hr.mono (by decide)) (b_Ring_houses T) .nil pass0) pa_nil)))
      (pss_cons (ps_set (i := 5) sc_law_tolls_right.nd rfl (by first | exact Or.inl rfl | exact Or.inr rfl) (pe_op op_rep (pe_lst (pa_cons pe_int pa_nil)) (pe_op op_sub (pv 4) pe_int)))
      (pss_cons (ps_set (i := 6) sc_law_tolls_right.nd rfl (by first | exact Or.inl rfl | exact Or.inr rfl) (pe_lst (pa_cons pe_non (pa_cons (pe_lst pa_nil) (pa_cons (pv 5) (pa_cons (pe_op op_cat (pv 5) (pe_lst (pa_cons pe_int (pa_cons pe_int pa_nil)))) (pa_cons (pe_op (kRepT (K := K)) (pe_tup (pa_cons pe_int pa_nil)) (pv 4)) (pa_cons (pe_op op_cat (pe_lst (pa_cons (pe_un un_neg pe_int) pa_nil)) (pv 5)) (pa_cons (pe_op op_cat (pv 5) (pe_lst (pa_cons pe_int pa_nil))) (pa_cons (pe_op op_cat (pv 5) (pe_lst (pa_cons (pe_op op_add pe_int (pv 3)) pa_nil))) pa_nil))))))))))
      (pss_cons (ps_set (i := 6) sc_law_tolls_right.nd rfl (by first | exact Or.inl rfl | exact Or.inr rfl) (pe_op op_cat (pv 6) (pe_lst (pa_cons (pe_op op_cat (pe_lst (pa_cons pe_bl pa_nil)) (pv 5)) (pa_cons (pe_op op_rep (pe_lst (pa_cons pe_str pa_nil)) (pv 4)) (pa_cons pe_dnewK (pa_cons (pe_op op_rep (pe_lst (pa_cons pe_non pa_nil)) (pv 4)) pa_nil)))))))
      (pss_cons (ps_for PassesOwn.never rfl (kPiT (K := K) (pe_tup (pa_cons (pv 0) (pa_cons (pv 1) pa_nil)))) (pg_name (i := 7) sc_law_tolls_right.nd rfl (by first | exact Or.inl rfl | exact Or.inr rfl)) (pss_one (ps_if (PW.pt (pw_or (pt_not (pt_val (pe_call (ok_law_all T (P := P) (w := w) (base := base)) (hr.mono (by decide)) (by rfl) T.g_law_all T.F_law_all.kp (b_law_all T) .nil pass0 (pa_cons (pe_glob (v := .ref T.f_law_with_tolls) (by rfl) T.g_law_with_tolls rfl) (pa_cons (pv 7) (pa_cons (pv 6) (pa_cons (pe_ix (kIxL (K := K)) (pv 2) pe_int (fun _ _ => rfl)) pa_nil))))))) (pw_or1 (pt_not (pt_val (pe_call (ok_law_all T (P := P) (w := w) (base := base)) (hr.mono (by decide)) (by rfl) T.g_law_all T.F_law_all.kp (b_law_all T) .nil pass0 (pa_cons (pe_glob (v := .ref T.f_law_ends) (by rfl) T.g_law_ends rfl) (pa_cons (pv 7) (pa_cons (pv 6) (pa_cons (pe_ix (kIxL (K := K)) (pv 2) pe_int (fun _ _ => rfl)) pa_nil)))))))))) (pss_one (ps_ret pe_bl)) pss_nil)))
      (pss_cons (ps_if (pt_cmpR (kNeD (K := K) hr.units) (pe_call (ok_law_told T (P := P) (w := w) (base := base)) (hr.mono (by decide)) (by rfl) T.g_law_told T.F_law_told.kp (b_law_told T) .nil pass0 (pa_cons (pe_glob (v := .ref T.f_law_ends) (by rfl) T.g_law_ends rfl) (pa_cons (pv 0) (pa_cons (pe_op op_rep (pe_lst (pa_cons pe_int pa_nil)) (pv 4)) pa_nil)))) (pe_ix (kIxL (K := K)) (pv 2) pe_int (fun _ _ => rfl)) (nomark _)) (pss_one (ps_ret pe_bl)) pss_nil)
      (pss_one (ps_ret (pe_cmpR (kEqD (K := K) hr.units) (pe_call (ok_law_told T (P := P) (w := w) (base := base)) (hr.mono (by decide)) (by rfl) T.g_law_told T.F_law_told.kp (b_law_told T) .nil pass0 (pa_cons (pe_glob (v := .ref T.f_law_ends) (by rfl) T.g_law_ends rfl) (pa_cons (pv 1) (pa_cons (pe_op op_rep (pe_lst (pa_cons pe_int pa_nil)) (pv 4)) pa_nil)))) (pe_ix (kIxL (K := K)) (pv 2) pe_int (fun _ _ => rfl)) (nomark _)))))))))), ?_⟩
    repeat walk_at "s"
    refine use_houses R (fun l0 H0 s0 n0 hl0 => ?_)
    have A := A.made s0 n0 hl0
    have hq0 : SqL K H0 l0 (hs.map V.int) := A.sqo List.mem_cons_self
    repeat walk_at "s"
    refine r_mkL A (by show 1 ≤ 10000000; decide) (fun l1 H1 A => ?_)
    repeat walk_at "s"
    refine r_repV (n := hs.length - 1) A (A.get (by walk_at "memd")) (by omega) (by omega) (fun on H2 A => ?_)
    have hon : (List.replicate (hs.length - 1) (V.int 1)).length = hs.length - 1 := List.length_replicate
    repeat walk_at "s"
    refine r_mkL A (by show 0 ≤ 10000000; decide) (fun x1 H3 A => ?_)
    repeat walk_at "s"
    refine r_mkL A (by show 2 ≤ 10000000; decide) (fun y1 H4 A => ?_)
    repeat walk_at "s"
    refine r_cat A (A.get (by walk_at "memd")) (A.get (by walk_at "memd")) (by rw [hon]; show _ + 2 ≤ _; omega) (fun x2 H5 A => ?_)
    repeat walk_at "s"
    refine r_mkT A (by show 1 ≤ 10000000; decide) (fun y2 H6 A => ?_)
    repeat walk_at "s"
    refine r_repT1 A (A.sto (by walk_at "memd")) rfl h2 (by omega) (fun x3 H7 A => ?_)
    repeat walk_at "s"
    refine r_mkL A (by show 1 ≤ 10000000; decide) (fun y3 H8 A => ?_)
    repeat walk_at "s"
    refine r_cat A (A.get (by walk_at "memd")) (A.get (by walk_at "memd")) (by rw [hon]; show 1 + _ ≤ _; omega) (fun x4 H9 A => ?_)
    repeat walk_at "s"
    refine r_mkL A (by show 1 ≤ 10000000; decide) (fun y4 H10 A => ?_)
    repeat walk_at "s"
    refine r_cat A (A.get (by walk_at "memd")) (A.get (by walk_at "memd")) (by rw [hon]; show _ + 1 ≤ _; omega) (fun x5 H11 A => ?_)
    repeat walk_at "s"
    refine r_mkL A (by show 1 ≤ 10000000; decide) (fun y5 H12 A => ?_)
    repeat walk_at "s"
    refine r_cat A (A.get (by walk_at "memd")) (A.get (by walk_at "memd")) (by rw [hon]; show _ + 1 ≤ _; omega) (fun x6 H13 A => ?_)
    repeat walk_at "s"
    have oneT : Th K H13 (.int 1) := th_int
    have hon2 : 1 ≤ hs.length - 1 := by omega
    have b1 : BadT K H13 hs.length (.ref x1) := badl (xs := []) (A.sqo (by walk_at "memd")) (by show 0 ≤ 1000; decide) (fun _ h => nomatch h) (.inl (by show 0 ≠ _; omega))
    have b2 : BadT K H13 hs.length (.ref on) := badl (A.sqo (by walk_at "memd")) (by omega) (th_rep oneT) (.inl (by omega))
    have b3 : BadT K H13 hs.length (.ref x2) := badl (A.sqo (by walk_at "memd")) (by rw [List.length_append, hon]; show _ + 2 ≤ _; omega) (th_app (th_rep oneT) (th_app (ys := [V.int 1]) (th_one oneT) (th_one oneT))) (.inl (by rw [List.length_append, hon]; show _ + 2 ≠ _; omega))
    have b4 : BadT K H13 hs.length (.ref x3) := .inl (.inr (.inr (.inl ⟨x3, _, rfl, A.sto (by walk_at "memd")⟩)))
    have b5 : BadT K H13 hs.length (.ref x4) := badl (A.sqo (by walk_at "memd")) (by rw [List.length_append, hon]; show 1 + _ ≤ _; omega) (th_app (th_one th_int) (th_rep oneT)) (.inr ⟨.int (-1), List.mem_append_left _ List.mem_cons_self, rfl⟩)
    have b6 : BadT K H13 hs.length (.ref x5) := badl (A.sqo (by walk_at "memd")) (by rw [List.length_append, hon]; show _ + 1 ≤ _; omega) (th_app (th_rep oneT) (th_one th_int)) (.inr ⟨.int 1001, List.mem_append_right _ List.mem_cons_self, rfl⟩)
    have b7 : BadT K H13 hs.length (.ref x6) := badl (A.sqo (by walk_at "memd")) (by rw [List.length_append, hon]; show _ + 1 ≤ _; omega) (th_app (th_rep oneT) (th_one th_int)) (.inr ⟨.int (1001 + far), List.mem_append_right _ List.mem_cons_self, decide_eq_false (by omega)⟩)
    have s1 := A.ex
    have hon' := A.get (p := on) (by walk_at "memd")
    have A1 := At.nil H13
    clear A
    refine r_mkL A1 (by show 8 ≤ 10000000; decide) (fun m1 H14 A => ?_)
    repeat walk_at "s"
    refine r_mkL A (by show 1 ≤ 10000000; decide) (fun y6 H15 A => ?_)
    repeat walk_at "s"
    refine r_cat A (A.get (by walk_at "memd")) (A.ex _ _ hon') (by rw [hon]; show 1 + _ ≤ _; omega) (fun x7 H16 A => ?_)
    repeat walk_at "s"
    refine r_mkL A (by show 1 ≤ 10000000; decide) (fun y7 H17 A => ?_)
    repeat walk_at "s"
    refine r_repV (n := hs.length) A (A.get (by walk_at "memd")) rfl (by omega) (fun x8 H18 A => ?_)
    repeat walk_at "s"
    refine r_dnew A (fun x9 H19 A => ?_)
    repeat walk_at "s"
    refine r_mkL A (by show 1 ≤ 10000000; decide) (fun y8 H20 A => ?_)
    repeat walk_at "s"
    refine r_repV (n := hs.length) A (A.get (by walk_at "memd")) rfl (by omega) (fun x10 H21 A => ?_)
    repeat walk_at "s"
    refine r_mkL A (by show 4 ≤ 10000000; decide) (fun m2 H22 A => ?_)
    repeat walk_at "s"
    refine r_cat A (A.get (by walk_at "memd")) (A.get (by walk_at "memd")) (by show 8 + 4 ≤ 10000000; decide) (fun tl H23 A => ?_)
    have b8 : BadT K H23 hs.length (.ref x7) := badl (A.sqo (by walk_at "memd")) (by rw [List.length_append, hon]; show 1 + _ ≤ _; omega) (th_app (th_one (.inr (.inr (.inl ⟨_, rfl⟩)))) (th_rep th_int)) (.inr ⟨.bl true, List.mem_append_left _ List.mem_cons_self, rfl⟩)
    have b9 : BadT K H23 hs.length (.ref x8) := badl (A.sqo (by walk_at "memd")) (by rw [List.length_replicate]; omega) (th_rep (.inr (.inr (.inr (.inl ⟨_, rfl⟩))))) (.inr ⟨_, List.mem_replicate.mpr ⟨by omega, rfl⟩, rfl⟩)
    have b10 : BadT K H23 hs.length (.ref x9) := .inl (.inr (.inr (.inr ⟨x9, rfl, A.get (by walk_at "memd")⟩)))
    have b11 : BadT K H23 hs.length (.ref x10) := badl (A.sqo (by walk_at "memd")) (by rw [List.length_replicate]; omega) (th_rep (.inl rfl)) (.inr ⟨_, List.mem_replicate.mpr ⟨by omega, rfl⟩, rfl⟩)
    have s2 := A.ex
    have hxs : SqL K H23 tl ([V.non, V.ref x1, V.ref on, V.ref x2, V.ref x3, V.ref x4, V.ref x5, V.ref x6] ++ [V.ref x7, V.ref x8, V.ref x9, V.ref x10]) := A.sqo List.mem_cons_self
    have ball : ∀ y ∈ [V.non, V.ref x1, V.ref on, V.ref x2, V.ref x3, V.ref x4, V.ref x5, V.ref x6] ++ [V.ref x7, V.ref x8, V.ref x9, V.ref x10], BadT K H23 hs.length y := fun y hy => by
      simp only [List.cons_append, List.nil_append, List.mem_cons, List.not_mem_nil, or_false] at hy
      rcases hy with rfl | rfl | rfl | rfl | rfl | rfl | rfl | rfl | rfl | rfl | rfl | rfl
      · exact .inl (.inl rfl)
      · exact b1.mono s2
      · exact b2.mono s2
      · exact b3.mono s2
      · exact b4.mono s2
      · exact b5.mono s2
      · exact b6.mono s2
      · exact b7.mono s2
      · exact b8
      · exact b9
      · exact b10
      · exact b11
    have hlen : ([V.non, V.ref x1, V.ref on, V.ref x2, V.ref x3, V.ref x4, V.ref x5, V.ref x6] ++ [V.ref x7, V.ref x8, V.ref x9, V.ref x10]).length ≤ 1000 := by show 12 ≤ 1000; decide
    generalize [V.non, V.ref x1, V.ref on, V.ref x2, V.ref x3, V.ref x4, V.ref x5, V.ref x6] ++ [V.ref x7, V.ref x8, V.ref x9, V.ref x10] = xs at ball hxs hlen
    have R := R.mono (s1.trans s2)
    have R2 := R2.mono (s1.trans s2)
    have D := D.mono (s1.trans s2)
    have A3 := At.nil H23
    have s3 := s1.trans s2
    clear A b1 b2 b3 b4 b5 b6 b7 b8 b9 b10 b11
    repeat walk_at "s"
    refine r_mkT A3 (by show 2 ≤ 10000000; decide) (fun t1 H24 A4 => ?_)
    repeat walk_at "s"
    refine r_forItt [V.ref p, V.ref q] (fun i σ H' => ∃ (v : Option V), σ = [some (.ref p), some (.ref q), some (.ref dl), some (.int far), some (.int (hs.length : Int)), some (.ref on), some (.ref tl), v] ∧ At H23 [(t1, .tup [V.ref p, V.ref q])] H') ⟨none, rfl, A4⟩ (fun i σ H' _ ⟨v, _, A'⟩ => A'.sto (by walk_at "mem")) ?_ ?_
    · rintro i y σ H25 N hy ⟨v, rfl, A5⟩ hN
      obtain ⟨z, zs, rfl, Rz, hzl⟩ : ∃ z zs, y = V.ref z ∧ RingAt T H23 z zs ∧ zs.length = hs.length := by
        match i, hy with
        | 0, h => exact ⟨p, hs, (Option.some.inj h).symm, R, rfl⟩
        | 1, h => exact ⟨q, gs, (Option.some.inj h).symm, R2, hgl⟩
        | i + 2, h => simp at h
      have Rz5 := Rz.mono A5.ex
      repeat walk_at "s"
      refine r_due 1 rfl (by decide) (D.mono A5.ex) (fun d hd => ?_)
      repeat walk_at "s"
      refine ⟨T.f_law_with_tolls, _, tl, d, _, xs, 1, rfl, A5.sq hxs, hlen, fun u hu => refuses_tolls Rz5 (by rw [hzl]; exact (ball u hu).mono A5.ex), Y1, hd, fun H26 s26 => ?_⟩
      have A6 := A5.same s26
      have Rz6 := Rz.mono A6.ex
      repeat walk_at "s"
      refine r_due 1 rfl (by decide) (D.mono A6.ex) (fun d hd => ?_)
      repeat walk_at "s"
      refine ⟨T.f_law_ends, _, tl, d, _, xs, 1, rfl, A6.sq hxs, hlen, fun u hu => refuses_ends Rz6 (by rw [hzl]; exact (ball u hu).mono A6.ex), Y1, hd, fun H27 s27 => ?_⟩
      have A7 := A6.same s27
      repeat walk_at "s"
      exact hN _ _ ⟨_, rfl, A7⟩
    · rintro σ H25 ⟨v, rfl, A5⟩
      repeat walk_at "s"
      refine r_mkL A5 (by show 1 ≤ 10000000; decide) (fun y9 H26 A6 => ?_)
      repeat walk_at "s"
      refine r_repV (n := hs.length) A6 (A6.get (by walk_at "memd")) rfl (by omega) (fun z1 H27 A7 => ?_)
      repeat walk_at "s"
      have hz1 : SqL K H27 z1 ((List.replicate hs.length (0 : Int)).map V.int) := by rw [List.map_replicate]; exact A7.sqo List.mem_cons_self
      refine ⟨T.f_law_ends, _, _, _, 1, rfl, refuses_noughts (R.mono A7.ex) hs0 ⟨by omega, by omega⟩ hz1, Y1, fun l1' H28 s28 n28 hl28 => ?_⟩
      have A8 := A7.made s28 n28 hl28
      repeat walk_at "s"
      refine r_due 1 rfl (by decide) (D.mono A8.ex) (fun d hd => ?_)
      have hq8 : SqL K H28 l1' ((kin 1).map V.bl) := A8.sqo List.mem_cons_self
      repeat walk_at "s"
      refine r_mkL A8 (by show 1 ≤ 10000000; decide) (fun y10 H29 A9 => ?_)
      repeat walk_at "s"
      refine r_repV (n := hs.length) A9 (A9.get (by walk_at "memd")) rfl (by omega) (fun z2 H30 A10 => ?_)
      repeat walk_at "s"
      have hz2 : SqL K H30 z2 ((List.replicate gs.length (0 : Int)).map V.int) := by rw [List.map_replicate, hgl]; exact A10.sqo List.mem_cons_self
      refine ⟨T.f_law_ends, _, _, _, 4, rfl, refuses_lack_ends (R2.mono A10.ex) hg0 (by omega) hz2, Y4, fun l2' H31 s31 n31 hl31 => ?_⟩
      have A11 := A10.made s31 n31 hl31
      repeat walk_at "s"
      refine r_due 4 rfl (by decide) (D.mono A11.ex) (fun d hd => ?_)
      have hq11 : SqL K H31 l2' ((kin 4).map V.bl) := A11.sqo List.mem_cons_self
      repeat walk_at "s"
      rw [decide_eq_true rfl]
      exact k _ (s3.trans A11.ex)

def sp_law_lacking_right (T : Txt K mg) : Sp := fun vs H Q _ => ∃ (p q dl : Addr) (hs gs : List Int) (ds : List Addr) (far : Int), vs = [.ref p, .ref q, .ref dl, .int far] ∧ RingAt T H p hs ∧ RingAt T H q gs ∧ gs.length = hs.length ∧ 2 ≤ hs.length ∧ hs.length ≤ 900 ∧ hs.sum = 0 ∧ gs.sum ≠ 0 ∧
  (∀ x ∈ hs, -1000000 ≤ x ∧ x ≤ 1000000) ∧ (-500000 ≤ gz hs 0 ∧ gz hs 0 ≤ 500000) ∧ Dues K H dl ds ∧ 0 ≤ far ∧ KindT T T.c_BadMost 2 ∧ KindT T T.c_Lacking 4 ∧ PySem.W.exmOne K (.ref T.c_Lacking) (.ref T.c_Lacking) = some true ∧ ∀ H', Same H H' → Q (.bl true) H'
theorem one_less {hs : List Int} (h2 : 2 ≤ hs.length) (h0 : hs.sum = 0) (b : Int) : ((gz hs 0 + b) :: hs.drop 1).sum = b ∧ ((gz hs 0 + b) :: hs.drop 1).length = hs.length := by
  cases hs with
  | nil => simp at h2
  | cons a r =>
    have e : gz (a :: r) 0 = a := gz_nat (k := 0)
    rw [e]
    rw [List.sum_cons] at h0
    show (a + b + r.sum = b) ∧ r.length + 1 = r.length + 1
    exact ⟨by omega, rfl⟩
theorem ok_law_lacking_right (T : Txt K mg) : FnOk P w K mg base CX0 9 T.f_law_lacking_right T.fd_law_lacking_right ["_law_ring_here", "_law_lacking", "_law_due", "_law_far"] (sp_law_lacking_right T) := by
  refine T.F_law_lacking_right.ok sc_law_lacking_right (fun vs H Q E h => ?_) (fun cdv A outer s H vs Q E hr h => ?_)
  · obtain ⟨_, _, _, _, _, _, _, rfl, _⟩ := h
    rfl
  · skip
    obtain ⟨p, q, dl, hs, gs, ds, far, rfl, R, R2, hgl, h2, hn, hs0, hg0, hb, hhd, D, hf, Y2, Y4, te, k⟩ := h
    have A := At.nil H
    refine ⟨_, (pss_cons (ps_set (i := 4) sc_law_lacking_right.nd rfl (by first | exact Or.inl rfl | exact Or.inr rfl) (pe_lst (pa_cons pe_non (pa_cons (pe_un un_neg pe_int) (pa_cons (pe_op op_sub (pe_un un_neg pe_int) (pv 3)) (pa_cons pe_str (pa_cons pe_bl (pa_cons (pe_lst (pa_cons pe_int pa_nil)) pa_nil))))))))
      (pss_cons (ps_if (PW.pt (pw_or (pt_not (pt_val (pe_call (ok_law_all T (P := P) (w := w) (base := base)) (hr.mono (by decide)) (by rfl) T.g_law_all T.F_law_all.kp (b_law_all T) .nil pass0 (pa_cons (pe_glob (v := .ref T.f_law_within) (by rfl) T.g_law_within rfl) (pa_cons (pv 0) (pa_cons (pv 4) (pa_cons (pe_ix (kIxL (K := K)) (pv 2) pe_int (fun _ _ => rfl)) pa_nil))))))) (pw_or1 (pt_not (pt_val (pe_call (ok_law_all T (P := P) (w := w) (base := base)) (hr.mono (by decide)) (by rfl) T.g_law_all T.F_law_all.kp (b_law_all T) .nil pass0 (pa_cons (pe_glob (v := .ref T.f_law_within) (by rfl) T.g_law_within rfl) (pa_cons (pv 1) (pa_cons (pv 4) (pa_cons (pe_ix (kIxL (K := K)) (pv 2) pe_int (fun _ _ => rfl)) pa_nil)))))))))) (pss_one (ps_ret pe_bl)) pss_nil)
      (pss_cons (ps_if (pt_not (pt_val (pe_call (ok_law_all T (P := P) (w := w) (base := base)) (hr.mono (by decide)) (by rfl) T.g_law_all T.F_law_all.kp (b_law_all T) .nil pass0 (pa_cons (pe_glob (v := .ref T.f_law_turned) (by rfl) T.g_law_turned rfl) (pa_cons (pv 0) (pa_cons (pe_lst (pa_cons pe_non (pa_cons pe_str (pa_cons pe_bl (pa_cons (pe_lst (pa_cons pe_int pa_nil)) (pa_cons (pe_tup (pa_cons pe_int pa_nil)) pa_nil)))))) (pa_cons (pe_ix (kIxL (K := K)) (pv 2) pe_int (fun _ _ => rfl)) pa_nil))))))) (pss_one (ps_ret pe_bl)) pss_nil)
      (pss_cons (ps_if (PW.pt (pw_or (pt_cmpR (kNeD (K := K) hr.units) (pe_call (ok_law_told T (P := P) (w := w) (base := base)) (hr.mono (by decide)) (by rfl) T.g_law_told T.F_law_told.kp (b_law_told T) .nil pass0 (pa_cons (pe_glob (v := .ref T.f_law_within) (by rfl) T.g_law_within rfl) (pa_cons (pv 1) (pa_cons pe_int pa_nil)))) (pe_ix (kIxL (K := K)) (pv 2) pe_int (fun _ _ => rfl)) (nomark _)) (pw_or1 (pt_not (pt_val (pe_call (ok_law_all T (P := P) (w := w) (base := base)) (hr.mono (by decide)) (by rfl) T.g_law_all T.F_law_all.kp (b_law_all T) .nil pass0 (pa_cons (pe_glob (v := .ref T.f_law_plain) (by rfl) T.g_law_plain rfl) (pa_cons (pv 1) (pa_cons (pe_lst (pa_cons pe_int (pa_cons pe_int pa_nil))) (pa_cons (pe_ix (kIxL (K := K)) (pv 2) pe_int (fun _ _ => rfl)) pa_nil)))))))))) (pss_one (ps_ret pe_bl)) pss_nil)
      (pss_cons (ps_set (i := 5) sc_law_lacking_right.nd rfl (by first | exact Or.inl rfl | exact Or.inr rfl) (pe_meth0 (pv 0) T.cl_Ring T.m_Ring_houses (ok_Ring_houses T) (hr.mono (by decide)) (b_Ring_houses T) .nil pass0))
      (pss_cons (ps_for PassesOwn.never rfl (kPiT (K := K) (pe_tup (pa_cons pe_int (pa_cons (pe_un un_neg pe_int) (pa_cons (pe_op op_add pe_int (pe_op op_mod (pv 3) pe_int)) (pa_cons (pe_op op_sub (pe_un un_neg pe_int) (pe_op op_mod (pv 3) pe_int)) pa_nil)))))) (pg_name (i := 6) sc_law_lacking_right.nd rfl (by first | exact Or.inl rfl | exact Or.inr rfl)) (pss_cons (ps_set (i := 7) sc_law_lacking_right.nd rfl (by first | exact Or.inl rfl | exact Or.inr rfl) (pe_make T.mk_Ring (ok_Ring_init T) (hr.mono (by decide)) (by rfl) T.g_Ring (b_Ring_init T) .nil pass0 (pa_cons (pe_op op_cat (pe_lst (pa_cons (pe_op op_add (pe_ix (kIxL (K := K)) (pv 5) pe_int (fun _ _ => rfl)) (pv 6)) pa_nil)) (pe_slice (kSlL (K := K)) (pv 5) (po_some pe_int) po_none)) pa_nil)))
      (pss_one (ps_if (pt_not (pt_val (pe_callB (kAll (K := K)) (by rfl) T.n_all EB.bt_all (pa_cons (pe_lc (own := [("_law_door", 8)]) (g := gName 8) rfl sc_law_lacking_right.nd (pi_range1 (by rfl) T.n_range (pa_cons pe_int pa_nil)) (blkOk_by (own := [("_law_door", 8)]) (N := ["_law_ring_here", "_law_lacking", "_law_due", "_law_far", "_law_bounds", "_law_houses_here", "_law_by", "_law_less", "_law_door"]) (sc := defScope s_law_lacking_right) (by decide +kernel)) (fun _ _ _ _ _ => (pg_name (i := 8) sc_law_lacking_right.nd rfl (by first | exact Or.inl rfl | exact Or.inr rfl))) (fun _ _ _ _ _ => pts_nil) (fun _ _ _ _ _ => (pe_cmpR op_eq (pe_call (ok_law_lack T te) (hr.mono (by decide)) (by rfl) T.g_law_lack T.F_law_lack.kp (b_law_lack T) .nil pass0 (pa_cons (pv 7) (pa_cons (pv 8) pa_nil))) (pv 6) (nomark _)))) pa_nil)))) (pss_one (ps_ret pe_bl)) pss_nil))))
      (pss_one (ps_ret pe_bl)))))))), ?_⟩
    repeat walk_at "s"
    refine r_mkL A (by show 1 ≤ 10000000; decide) (fun l1 H1 A => ?_)
    repeat walk_at "s"
    refine r_mkL A (by show 6 ≤ 10000000; decide) (fun bl H2 A => ?_)
    have ball : ∀ y ∈ [V.non, V.int (-1), V.int (-1 - far), V.str (Str.ofString "1"), V.bl true, V.ref l1], Th K H2 y ∧ BadM y := fun y hy => by
      simp only [List.mem_cons, List.not_mem_nil, or_false] at hy
      rcases hy with rfl | rfl | rfl | rfl | rfl | rfl
      · exact ⟨.inl rfl, .inl rfl⟩
      · exact ⟨th_int, .inr ⟨_, rfl, by decide⟩⟩
      · exact ⟨th_int, .inr ⟨_, rfl, by omega⟩⟩
      · exact ⟨.inr (.inr (.inr (.inl ⟨_, rfl⟩))), .inl rfl⟩
      · exact ⟨.inr (.inr (.inl ⟨_, rfl⟩)), .inl rfl⟩
      · exact ⟨.inr (.inr (.inr (.inr (.inl ⟨l1, _, rfl, A.sqo (by walk_at "memd")⟩)))), .inl rfl⟩
    have hxs : SqL K H2 bl [V.non, V.int (-1), V.int (-1 - far), V.str (Str.ofString "1"), V.bl true, V.ref l1] := A.sqo List.mem_cons_self
    have s1 := A.ex
    have A2 := At.nil H2
    clear A
    have R := R.mono s1
    have R2 := R2.mono s1
    have D := D.mono s1
    repeat walk_at "s"
    refine r_due 2 rfl (by decide) D (fun d hd => ?_)
    repeat walk_at "s"
    refine ⟨T.f_law_within, _, bl, d, _, _, 2, rfl, hxs, by show 6 ≤ 1000; decide, fun u hu => refuses_most R (ball u hu).1 (ball u hu).2, Y2, hd, fun H3 s3 => ?_⟩
    have A3 := A2.same s3
    repeat walk_at "s"
    refine r_due 2 rfl (by decide) (D.mono A3.ex) (fun d hd => ?_)
    repeat walk_at "s"
    refine ⟨T.f_law_within, _, bl, d, _, _, 2, rfl, A3.sq hxs, by show 6 ≤ 1000; decide, fun u hu => refuses_most (R2.mono A3.ex) ((ball u hu).1.mono A3.ex) (ball u hu).2, Y2, hd, fun H4 s4 => ?_⟩
    have A4 := A3.same s4
    repeat walk_at "s"
    refine r_mkL A4 (by show 1 ≤ 10000000; decide) (fun l2 H5 A5 => ?_)
    repeat walk_at "s"
    refine r_mkT A5 (by show 1 ≤ 10000000; decide) (fun t2 H6 A6 => ?_)
    repeat walk_at "s"
    refine r_mkL A6 (by show 5 ≤ 10000000; decide) (fun b2 H7 A7 => ?_)
    repeat walk_at "s"
    have ball2 : ∀ y ∈ [V.non, V.str (Str.ofString "1"), V.bl true, V.ref l2, V.ref t2], Th K H7 y ∧ isI y = false := fun y hy => by
      simp only [List.mem_cons, List.not_mem_nil, or_false] at hy
      rcases hy with rfl | rfl | rfl | rfl | rfl
      · exact ⟨.inl rfl, rfl⟩
      · exact ⟨.inr (.inr (.inr (.inl ⟨_, rfl⟩))), rfl⟩
      · exact ⟨.inr (.inr (.inl ⟨_, rfl⟩)), rfl⟩
      · exact ⟨.inr (.inr (.inr (.inr (.inl ⟨l2, _, rfl, A7.sqo (by walk_at "memd")⟩)))), rfl⟩
      · exact ⟨.inr (.inr (.inr (.inr (.inr (.inl ⟨t2, _, rfl, A7.sto (by walk_at "memd")⟩))))), rfl⟩
    refine r_due 2 rfl (by decide) (D.mono A7.ex) (fun d hd => ?_)
    repeat walk_at "s"
    refine ⟨T.f_law_turned, _, b2, d, _, _, 2, rfl, A7.sqo List.mem_cons_self, by show 5 ≤ 1000; decide, fun u hu => refuses_by (ball2 u hu).1 (ball2 u hu).2, Y2, hd, fun H8 s8 => ?_⟩
    have A8 : At H2 [] H8 := (A7.same s8).sub (List.nil_sublist _)
    repeat walk_at "s"
    refine ⟨T.f_law_within, _, _, _, 4, rfl, refuses_lack_within (R2.mono A8.ex) (by decide) hg0, Y4, fun l9 H9 s9 n9 hl9 => ?_⟩
    have A9 := A8.made s9 n9 hl9
    have hq9 : SqL K H9 l9 ((kin 4).map V.bl) := A9.sqo List.mem_cons_self
    repeat walk_at "s"
    refine r_due 4 rfl (by decide) (D.mono A9.ex) (fun d hd => ?_)
    repeat walk_at "s"
    refine r_mkL A9 (by show 2 ≤ 10000000; decide) (fun b3 H10 A10 => ?_)
    repeat walk_at "s"
    refine r_due 4 rfl (by decide) (D.mono A10.ex) (fun d hd => ?_)
    repeat walk_at "s"
    refine ⟨T.f_law_plain, _, b3, d, _, [V.int 0, V.int 1], 4, rfl, A10.sqo List.mem_cons_self, by show 2 ≤ 1000; decide, (fun u hu => by
      obtain ⟨i, rfl⟩ : ∃ i, u = V.int i := by
        simp only [List.mem_cons, List.not_mem_nil, or_false] at hu
        rcases hu with rfl | rfl <;> exact ⟨_, rfl⟩
      exact refuses_plain (R2.mono A10.ex) hg0 ⟨by omega, by omega⟩), Y4, hd, fun H11 s11 => ?_⟩
    have A11 : At H2 [] H11 := (A10.same s11).sub (List.nil_sublist _)
    repeat walk_at "s"
    refine use_houses (R.mono A11.ex) (fun hh H12 s12 n12 hhh => ?_)
    have A12 := A11.made s12 n12 hhh
    repeat walk_at "s"
    refine r_mkT A12 (by show 4 ≤ 10000000; decide) (fun t4 H13 A13 => ?_)
    repeat walk_at "s"
    refine r_forItt [.int 1, .int (-1), .int (2 + far % 900), .int (-2 - far % 900)] (fun i σ H' => ∃ (v6 v7 : Option V), σ = [some (.ref p), some (.ref q), some (.ref dl), some (.int far), some (.ref bl), some (.ref hh), v6, v7, none] ∧ At H2 [(t4, .tup [.int 1, .int (-1), .int (2 + far % 900), .int (-2 - far % 900)]), (hh, .lst (hs.map V.int))] H') ⟨none, none, rfl, A13⟩ (fun i σ H' _ ⟨v6, v7, _, A'⟩ => A'.sto (by walk_at "mem")) ?_ ?_
    · rintro i y σ H14 N hy ⟨v6, v7, rfl, A14⟩ hN
      obtain ⟨b, rfl, hb0, hb1⟩ : ∃ b : Int, y = V.int b ∧ b ≠ 0 ∧ -1000 ≤ b ∧ b ≤ 1000 := by
        match i, hy with
        | 0, h => exact ⟨_, (Option.some.inj h).symm, by omega, by omega, by omega⟩
        | 1, h => exact ⟨_, (Option.some.inj h).symm, by omega, by omega, by omega⟩
        | 2, h => exact ⟨_, (Option.some.inj h).symm, by omega, by omega, by omega⟩
        | 3, h => exact ⟨_, (Option.some.inj h).symm, by omega, by omega, by omega⟩
        | i + 4, h => simp at h
      have hq14 : SqL K H14 hh (hs.map V.int) := A14.sqo (by walk_at "mem")
      repeat walk_at "s"
      refine r_mkL A14 (by show 1 ≤ 10000000; decide) (fun m1 H15 A15 => ?_)
      repeat walk_at "s"
      refine r_slL A15 (A15.sqo (by walk_at "memd")) (fun m2 H16 A16 => ?_)
      repeat walk_at "s"
      have ec : cutV (hs.map V.int) (some 1) none = (hs.drop 1).map V.int := EM.cut_from hs 1
      rw [ec] at A16
      refine r_cat A16 (A16.get (by walk_at "memd")) (A16.get (by walk_at "memd")) (by rw [List.length_map, List.length_drop]; show 1 + _ ≤ _; omega) (fun m3 H17 A17 => ?_)
      obtain ⟨e1, e2⟩ := one_less h2 hs0 b
      have hm3 : SqL K H17 m3 (((gz hs 0 + b) :: hs.drop 1).map V.int) := A17.sqo List.mem_cons_self
      have hb3 : ∀ x ∈ (gz hs 0 + b) :: hs.drop 1, -1000000 ≤ x ∧ x ≤ 1000000 := fun x hx => by
        rcases List.mem_cons.mp hx with rfl | hx
        · omega
        · exact hb x (List.mem_of_mem_drop hx)
      have A17' : At H2 [(t4, .tup [.int 1, .int (-1), .int (2 + far % 900), .int (-2 - far % 900)]), (hh, .lst (hs.map V.int))] H17 := A17.tl.tl.tl
      generalize (gz hs 0 + b) :: hs.drop 1 = ls at hm3 hb3 e1 e2
      clear A14 A15 A16 A17
      repeat walk_at "s"
      refine use_Ring hm3 (by omega) (by omega) hb3 (fun r H18 s18 n18 Rr => ?_)
      have A18 := A17'.same s18
      repeat walk_at "s"
      refine r_rng1 (n := 4) rfl (by omega) ?_
      refine r_lcRB (fun _ => true) (At.nil H18) (by omega) (fun _ => rfl) (fun j D1 H' Q' hj A' qq => ?_) (fun D1 H19 A19 => ?_)
      · repeat walk_at "s"
        refine ⟨r, ls, _, rfl, Rr.mono A'.ex, by omega, by omega, by omega, fun H'' s'' => ?_⟩
        rw [e1]
        repeat walk_at "s"
        exact qq.t0 (by rw [decide_eq_true rfl]) (A'.same s'')
      have hq19 : SqL K H19 D1 (((List.range 4).map fun _ => true).map V.bl) := A19.sqo List.mem_cons_self
      have ht : ((List.range 4).map fun _ => true).all id = true := rfl
      repeat walk_at "s"
      exact hN _ _ ⟨_, _, rfl, A18.same A19.ex⟩
    · rintro σ H14 ⟨v6, v7, rfl, A14⟩
      repeat walk_at "s"
      exact k _ (s1.trans A14.ex)

structure AllT {K : PySem.W.Frag} {mg : Str → Option Value} (T : Txt K mg) : Prop where
  y0 : KindT T T.c_BadRing 0
  y1 : KindT T T.c_BadTolls 1
  y2 : KindT T T.c_BadMost 2
  y3 : KindT T T.c_Unlike 3
  y4 : KindT T T.c_Lacking 4
  te : PySem.W.exmOne K (.ref T.c_Lacking) (.ref T.c_Lacking) = some true
theorem kin_eq (i : Nat) : [V.bl (decide ((i : Int) = 0)), V.bl (decide ((i : Int) = 1)), V.bl (decide ((i : Int) = 2)), V.bl (decide ((i : Int) = 3)), V.bl (decide ((i : Int) = 4)), V.bl false, V.bl true] = (kin i).map V.bl := by
  have e : ∀ n : Nat, decide ((i : Int) = (n : Int)) = decide (i = n) := fun n => decide_eq_decide.mpr ⟨fun z => by omega, fun z => by omega⟩
  show _ = [V.bl (decide (i = 0)), V.bl (decide (i = 1)), V.bl (decide (i = 2)), V.bl (decide (i = 3)), V.bl (decide (i = 4)), V.bl false, V.bl true]
  rw [← e 0, ← e 1, ← e 2, ← e 3, ← e 4]
  rfl
def gr (m : Nat) : List Int := [1000000, -1000000] ++ List.replicate m 0
theorem rep_take_sum (m k : Nat) : ((List.replicate m (0 : Int)).take k).sum = 0 := by
  rw [List.take_replicate]
  simp
theorem gr_sum (m : Nat) : (gr m).sum = 0 := by
  unfold gr
  simp
theorem gr_take (m k : Nat) : ((gr m).take (k + 1)).sum = if k = 0 then 1000000 else 0 := by
  cases k with
  | zero => rfl
  | succ k =>
    show (1000000 :: -1000000 :: (List.replicate m (0 : Int)).take k).sum = 0
    rw [List.sum_cons, List.sum_cons, rep_take_sum]
    rfl
theorem gr_len (m : Nat) : (gr m).length = m + 2 := by
  unfold gr
  rw [List.length_append, List.length_replicate]
  show 2 + m = m + 2
  omega
theorem gr_runs {m : Nat} {x : Int} (h : x ∈ EM.runs (gr m)) : 0 ≤ x ∧ x ≤ 1000000 := by
  unfold EM.runs at h
  obtain ⟨k, _, rfl⟩ := List.mem_map.mp h
  rw [gr_take]
  split <;> omega
theorem gr_runs2 (m : Nat) : (EM.runs (gr m)).take 2 = [1000000, 0] := by
  rw [EM.runs_take (i := 1) (x := -1000000) rfl, EM.runs_take (i := 0) (x := 1000000) rfl]
  rfl
theorem gr_mem (m : Nat) : (1000000 : Int) ∈ EM.runs (gr m) ∧ (0 : Int) ∈ EM.runs (gr m) := by
  have h := gr_runs2 m
  have s : ∀ x ∈ (EM.runs (gr m)).take 2, x ∈ EM.runs (gr m) := fun x hx => List.mem_of_mem_take hx
  rw [h] at s
  exact ⟨s _ List.mem_cons_self, s _ (List.mem_cons_of_mem _ List.mem_cons_self)⟩
theorem zz (m : Nat) : List.zipWith (fun a b : Int => a + b) (List.replicate m 0) (List.replicate m 0) = List.replicate m 0 := by
  induction m with
  | zero => rfl
  | succ m ih => rw [List.replicate_succ, List.zipWith_cons_cons, ih]; rfl
theorem sums_two (m : Nat) (a b : Int) : sums (gr m) ([a, b] ++ List.replicate m 0) = (1000000 + a) :: (-1000000 + b) :: List.replicate m 0 := by
  show (1000000 + a) :: (-1000000 + b) :: List.zipWith (fun a b : Int => a + b) (List.replicate m 0) (List.replicate m 0) = _
  rw [zz]
def sp_law0 (K : PySem.W.Frag) : Sp := fun vs H Q _ => ∃ (a : Addr) (ns : List Int), vs = [.ref a] ∧ SqL K H a (ns.map V.int) ∧ ns.length ≤ 63 ∧ ∀ H', Q (.bl true) H'
def sp_law (_ : Txt K mg) : Sp := sp_law0 K
theorem ok_law (T : Txt K mg) (Y : AllT T) : FnOk P w K mg base CX0 10 T.f_law T.fd_law ["_law_script"] (sp_law T) := by
  refine T.F_law.ok sc_law (fun vs H Q E h => ?_) (fun cdv A outer s H vs Q E hr h => ?_)
  · obtain ⟨_, _, rfl, _⟩ := h
    rfl
  · skip
    obtain ⟨a, ns, rfl, ha, hn, k⟩ := h
    have A := At.nil H
    refine ⟨_, (pss_cons (ps_set (i := 1) sc_law.nd rfl (by first | exact Or.inl rfl | exact Or.inr rfl) (pe_op op_mod (pe_call (ok_law_cell_at T) (hr.mono (by decide)) (by rfl) T.g_law_cell_at T.F_law_cell_at.kp (b_law_cell_at T) .nil pass0 (pa_cons (pv 0) (pa_cons pe_int pa_nil))) (pe_op op_pow pe_int pe_int)))
      (pss_cons (ps_set (i := 2) sc_law.nd rfl (by first | exact Or.inl rfl | exact Or.inr rfl) (pe_lst pa_nil))
      (pss_cons (ps_for PassesOwn.never rfl (pi_range1 (by rfl) T.n_range (pa_cons pe_int pa_nil)) (pg_name (i := 3) sc_law.nd rfl (by first | exact Or.inl rfl | exact Or.inr rfl)) (pss_one (ps_expr (pe_bm PySem.F.plainAttrs_list PySem.F.slot_list_append PySem.F.type_list_append mt_append (pv 2) (pa_cons (pe_lst (pa_cons (pe_cmpR op_eq (pv 3) pe_int (nomark _)) (pa_cons (pe_cmpR op_eq (pv 3) pe_int (nomark _)) (pa_cons (pe_cmpR op_eq (pv 3) pe_int (nomark _)) (pa_cons (pe_cmpR op_eq (pv 3) pe_int (nomark _)) (pa_cons (pe_cmpR op_eq (pv 3) pe_int (nomark _)) (pa_cons pe_bl (pa_cons pe_bl pa_nil)))))))) pa_nil)))))
      (pss_cons (ps_set (i := 4) sc_law.nd rfl (by first | exact Or.inl rfl | exact Or.inr rfl) (pe_call (ok_law_houses T) (hr.mono (by decide)) (by rfl) T.g_law_houses T.F_law_houses.kp (b_law_houses T) .nil pass0 (pa_cons (pv 0) (pa_cons pe_int pa_nil))))
      (pss_cons (ps_par (i := 5) (j := 6) (by rfl) sc_law.nd rfl rfl (by decide) rfl rfl (pa_cons (pe_make T.mk_Ring (ok_Ring_init T) (hr.mono (by decide)) (by rfl) T.g_Ring (b_Ring_init T) .nil pass0 (pa_cons (pv 4) pa_nil)) (pa_cons (pe_make T.mk_Ring (ok_Ring_init T) (hr.mono (by decide)) (by rfl) T.g_Ring (b_Ring_init T) .nil pass0 (pa_cons (pe_op op_cat (pe_lst (pa_cons (pe_op op_add (pe_ix (kIxL (K := K)) (pv 4) pe_int (fun _ _ => rfl)) pe_int) pa_nil)) (pe_slice (kSlL (K := K)) (pv 4) (po_some pe_int) po_none)) pa_nil)) pa_nil)) (by rfl))
      (pss_cons (ps_if (PW.pt (pw_or (pt_not (pt_val (pe_call (ok_law_rings_right T) (hr.mono (by decide)) (by rfl) T.g_law_rings_right T.F_law_rings_right.kp (b_law_rings_right T) .nil pass0 (pa_cons (pe_ix (kIxL (K := K)) (pv 2) pe_int (fun _ _ => rfl)) (pa_cons (pv 1) pa_nil))))) (pw_or1 (pt_not (pt_val (pe_call (ok_law_tolls_right T) (hr.mono (by decide)) (by rfl) T.g_law_tolls_right T.F_law_tolls_right.kp (b_law_tolls_right T) .nil pass0 (pa_cons (pv 5) (pa_cons (pv 6) (pa_cons (pv 2) (pa_cons (pv 1) pa_nil)))))))))) (pss_one (ps_ret pe_bl)) pss_nil)
      (pss_cons (ps_if (pt_not (pt_val (pe_call (ok_law_lacking_right T) (hr.mono (by decide)) (by rfl) T.g_law_lacking_right T.F_law_lacking_right.kp (b_law_lacking_right T) .nil pass0 (pa_cons (pv 5) (pa_cons (pv 6) (pa_cons (pv 2) (pa_cons (pv 1) pa_nil))))))) (pss_one (ps_ret pe_bl)) pss_nil)
      (pss_cons (ps_set (i := 7) sc_law.nd rfl (by first | exact Or.inl rfl | exact Or.inr rfl) (pe_op op_rep (pe_lst (pa_cons pe_int pa_nil)) (pe_op op_sub (pe_callB (kLen (K := K)) (by rfl) T.n_len PySem.boot_len (pa_cons (pv 4) pa_nil)) pe_int)))
      (pss_cons (ps_set (i := 8) sc_law.nd rfl (by first | exact Or.inl rfl | exact Or.inr rfl) (pe_make T.mk_Ring (ok_Ring_init T) (hr.mono (by decide)) (by rfl) T.g_Ring (b_Ring_init T) .nil pass0 (pa_cons (pe_op op_cat (pe_lst (pa_cons pe_int (pa_cons (pe_un un_neg pe_int) pa_nil))) (pv 7)) pa_nil)))
      (pss_cons (ps_if (pt_cmpR (kNeD (K := K) hr.units) (pe_call (ok_law_told T (P := P) (w := w) (base := base)) (hr.mono (by decide)) (by rfl) T.g_law_told T.F_law_told.kp (b_law_told T) .nil pass0 (pa_cons (pe_glob (v := .ref T.f_law_together) (by rfl) T.g_law_together rfl) (pa_cons (pv 5) (pa_cons (pe_make T.mk_Ring (ok_Ring_init T) (hr.mono (by decide)) (by rfl) T.g_Ring (b_Ring_init T) .nil pass0 (pa_cons (pe_op op_cat (pe_lst (pa_cons pe_int (pa_cons pe_int (pa_cons pe_int pa_nil)))) (pv 7)) pa_nil)) pa_nil)))) (pe_ix (kIxL (K := K)) (pv 2) pe_int (fun _ _ => rfl)) (nomark _)) (pss_one (ps_ret pe_bl)) pss_nil)
      (pss_cons (ps_if (pt_cmpR (kNeD (K := K) hr.units) (pe_call (ok_law_told T (P := P) (w := w) (base := base)) (hr.mono (by decide)) (by rfl) T.g_law_told T.F_law_told.kp (b_law_told T) .nil pass0 (pa_cons (pe_glob (v := .ref T.f_law_together) (by rfl) T.g_law_together rfl) (pa_cons (pe_make T.mk_Ring (ok_Ring_init T) (hr.mono (by decide)) (by rfl) T.g_Ring (b_Ring_init T) .nil pass0 (pa_cons (pe_op op_cat (pe_lst (pa_cons pe_int (pa_cons pe_int (pa_cons pe_int pa_nil)))) (pv 7)) pa_nil)) (pa_cons (pv 5) pa_nil)))) (pe_ix (kIxL (K := K)) (pv 2) pe_int (fun _ _ => rfl)) (nomark _)) (pss_one (ps_ret pe_bl)) pss_nil)
      (pss_cons (ps_for PassesOwn.never rfl (kPiT (K := K) (pe_tup (pa_cons (pe_lst (pa_cons pe_int (pa_cons pe_int pa_nil))) (pa_cons (pe_lst (pa_cons pe_int (pa_cons (pe_un un_neg pe_int) pa_nil))) pa_nil)))) (pg_name (i := 9) sc_law.nd rfl (by first | exact Or.inl rfl | exact Or.inr rfl)) (pss_one (ps_if (pt_cmpR (kNeD (K := K) hr.units) (pe_call (ok_law_told T (P := P) (w := w) (base := base)) (hr.mono (by decide)) (by rfl) T.g_law_told T.F_law_told.kp (b_law_told T) .nil pass0 (pa_cons (pe_glob (v := .ref T.f_law_together) (by rfl) T.g_law_together rfl) (pa_cons (pv 8) (pa_cons (pe_make T.mk_Ring (ok_Ring_init T) (hr.mono (by decide)) (by rfl) T.g_Ring (b_Ring_init T) .nil pass0 (pa_cons (pe_op op_cat (pv 9) (pv 7)) pa_nil)) pa_nil)))) (pe_ix (kIxL (K := K)) (pv 2) pe_int (fun _ _ => rfl)) (nomark _)) (pss_one (ps_ret pe_bl)) pss_nil)))
      (pss_cons (ps_if (pt_cmpR (kNeD (K := K) hr.units) (pe_slice (kSlL (K := K)) (pe_meth0 (pe_call (ok_together T) (hr.mono (by decide)) (by rfl) T.g_together T.F_together.kp (b_together T) .nil passL (pa_cons (pv 8) (pa_cons (pe_make T.mk_Ring (ok_Ring_init T) (hr.mono (by decide)) (by rfl) T.g_Ring (b_Ring_init T) .nil pass0 (pa_cons (pe_op op_cat (pe_lst (pa_cons (pe_un un_neg pe_int) (pa_cons pe_int pa_nil))) (pv 7)) pa_nil)) pa_nil))) T.cl_Ring T.m_Ring_houses (ok_Ring_houses T) (hr.mono (by decide)) (b_Ring_houses T) .nil pass0) po_none (po_some pe_int)) (pe_lst (pa_cons pe_int (pa_cons (pe_un un_neg pe_int) pa_nil))) (nomark _)) (pss_one (ps_ret pe_bl)) pss_nil)
      (pss_one (ps_ret (pe_and (pe_cmpR (kEqD (K := K) hr.units) (pe_meth0 (pv 5) T.cl_Ring T.m_Ring_houses (ok_Ring_houses T) (hr.mono (by decide)) (b_Ring_houses T) .nil pass0) (pv 4) (nomark _)) (pe_and (pe_cmpR op_eq (pe_call (ok_widest T) (hr.mono (by decide)) (by rfl) T.g_widest T.F_widest.kp (b_widest T) .nil passL (pa_cons (pv 8) pa_nil)) pe_int (nomark _)) (pe_one (pe_cmpR (kEqD (K := K) hr.units) (pe_slice (kSlL (K := K)) (pe_call (ok_along T) (hr.mono (by decide)) (by rfl) T.g_along T.F_along.kp (b_along T) .nil passL (pa_cons (pv 8) pa_nil)) po_none (po_some pe_int)) (pe_lst (pa_cons pe_int (pa_cons pe_int pa_nil))) (nomark _)))))))))))))))))))), ?_⟩
    repeat walk_at "s"
    rename_i c
    have hf : 0 ≤ c % 10 ^ (6 : Int).toNat := Int.emod_nonneg _ (by decide)
    refine r_mkL A (by show 0 ≤ 10000000; decide) (fun dl H1 A => ?_)
    repeat walk_at "s"
    generalize c % 10 ^ (6 : Int).toNat = far at hf ⊢
    refine r_rng1 (n := 5) rfl (by omega) ?_
    refine r_forItr (fun i σ H' => ∃ (ds : List Addr) (L0 : List (Addr × HO)) (v : Option V), σ = [some (.ref a), some (.int far), some (.ref dl), v, none, none, none, none, none, none] ∧ At H ((dl, .lst (ds.map V.ref)) :: L0) H' ∧ ds.length = i ∧ ∀ (j : Nat) d, ds[j]? = some d → (d, HO.lst ((kin j).map V.bl)) ∈ L0) ⟨[], [], none, rfl, A, rfl, fun j d e => by simp at e⟩ ?_ ?_
    · rintro i σ H2 N hi ⟨ds, L0, v, rfl, A2, hdl, hds⟩ hN
      repeat walk_at "s"
      refine r_mkL A2 (by show 7 ≤ 10000000; decide) (fun m H3 A3 => ?_)
      have A4 := A3.swap
      repeat walk_at "s"
      refine r_append A4 (by rw [List.length_map]; omega) (fun H4 A5 => ?_)
      refine hN _ _ ⟨ds ++ [m], (m, HO.lst ((kin i).map V.bl)) :: L0, _, rfl, ?_, by rw [List.length_append, hdl]; rfl, fun j d e => ?_⟩
      · rw [List.map_append, ← kin_eq]
        exact A5
      · rcases Nat.lt_or_ge j ds.length with hj | hj
        · rw [List.getElem?_append_left hj] at e
          exact List.mem_cons_of_mem _ (hds j d e)
        · rw [List.getElem?_append_right hj] at e
          cases q : j - ds.length with
          | zero =>
            rw [q] at e
            have e : some m = some d := e
            obtain rfl := Option.some.inj e
            have : j = i := by omega
            rw [this]
            exact List.mem_cons_self
          | succ z => rw [q] at e; cases e
    · rintro σ H2 ⟨ds, L0, v, rfl, A2, hdl, hds⟩
      have D : Dues K H2 dl ds := ⟨A2.sqo List.mem_cons_self, hdl, fun j d e => SqL.of (A2.get (List.mem_cons_of_mem _ (hds j d e)))⟩
      have ha2 : SqL K H2 a (ns.map V.int) := A2.sq ha
      have A3 := At.nil H2
      clear A A2
      repeat walk_at "s"
      refine ⟨a, ns, 6, rfl, ha2, hn, by decide, by decide, fun hs h H3 HH s3 n3 hh => ?_⟩
      have hl := HH.len
      have h0 := HH.sum
      have A4 := A3.made s3 n3 hh
      have hh4 : SqL K H3 h (hs.map V.int) := SqL.of hh
      repeat walk_at "s"
      refine use_Ring hh4 (by omega) (by omega) (fun x hx => by have := HH.bd x hx; omega) (fun r H4 s4 n4 R => ?_)
      have A5 := At.nil H4
      have hh5 := s4.seq hh4
      have D := D.mono (s3.trans s4)
      have s24 := s3.trans s4
      clear A3 A4
      repeat walk_at "s"
      refine r_mkL A5 (by show 1 ≤ 10000000; decide) (fun m1 H5 A6 => ?_)
      repeat walk_at "s"
      refine r_slL A6 (A6.sq hh5) (fun m2 H6 A7 => ?_)
      repeat walk_at "s"
      have ec : cutV (hs.map V.int) (some 1) none = (hs.drop 1).map V.int := EM.cut_from hs 1
      rw [ec] at A7
      refine r_cat A7 (A7.get (by walk_at "memd")) (A7.get (by walk_at "memd")) (by rw [List.length_map, List.length_drop]; show 1 + _ ≤ _; omega) (fun m3 H7 A8 => ?_)
      obtain ⟨e1, e2⟩ := one_less (by omega) h0 1
      have e0 : gz hs 0 = hs.getD 0 0 := gz_nat (k := 0)
      have hhd := HH.hd
      have hm3 : SqL K H7 m3 (((gz hs 0 + 1) :: hs.drop 1).map V.int) := A8.sqo List.mem_cons_self
      have hb3 : ∀ x ∈ (gz hs 0 + 1) :: hs.drop 1, -1000000 ≤ x ∧ x ≤ 1000000 := fun x hx => by
        rcases List.mem_cons.mp hx with rfl | hx
        · omega
        · have := HH.bd x (List.mem_of_mem_drop hx)
          omega
      have A9 : At H4 [] H7 := A8.sub (List.nil_sublist _)
      generalize (gz hs 0 + 1) :: hs.drop 1 = gs at hm3 hb3 e1 e2
      clear A5 A6 A7 A8
      repeat walk_at "s"
      refine use_Ring hm3 (by omega) (by omega) hb3 (fun q H8 s8 n8 R2 => ?_)
      have A10 := A9.same s8
      clear A9 hm3
      repeat walk_at "s"
      refine r_due 0 rfl (by decide) (D.mono A10.ex) (fun d hd => ?_)
      repeat walk_at "s"
      refine ⟨d, far, rfl, hd, hf, Y.y0, fun H9 s9 => ?_⟩
      have A11 := A10.same s9
      repeat walk_at "s"
      refine ⟨r, q, dl, hs, gs, ds, far, rfl, R.mono A11.ex, R2.mono s9, e2, by omega, by omega, h0, by omega, D.mono A11.ex, hf, Y.y1, Y.y4, fun H10 s10 => ?_⟩
      have A12 := A11.same s10
      repeat walk_at "s"
      refine ⟨r, q, dl, hs, gs, ds, far, rfl, R.mono A12.ex, R2.mono (s9.trans s10), e2, by omega, by omega, h0, by omega, (fun x hx => by have := HH.bd x hx; omega), by rw [e0]; exact HH.hd, D.mono A12.ex, hf, Y.y2, Y.y4, Y.te, fun H11 s11 => ?_⟩
      have A13 := A12.same s11
      clear A10 A11 A12
      have hh13 := A13.sq hh5
      repeat walk_at "s"
      refine r_mkL A13 (by show 1 ≤ 10000000; decide) (fun m4 H12 A14 => ?_)
      repeat walk_at "s"
      refine r_rep1 A14 (A14.get (by walk_at "memd")) (n := hs.length - 2) (by omega) (by omega) (fun no H13 A15 => ?_)
      have A16 : At H4 [(no, .lst ((List.replicate (hs.length - 2) (0 : Int)).map V.int))] H13 := A15.sub (List.Sublist.cons_cons _ (List.nil_sublist _))
      have hzl : (List.replicate (hs.length - 2) (0 : Int)).length = hs.length - 2 := List.length_replicate
      have hzb : ∀ x ∈ List.replicate (hs.length - 2) (0 : Int), -1000000 ≤ x ∧ x ≤ 1000000 := fun x hx => by rw [List.eq_of_mem_replicate hx]; decide
      clear A13 A14 A15
      repeat walk_at "s"
      obtain ⟨n, hn2⟩ : ∃ n, n = hs.length - 2 := ⟨_, rfl⟩
      rw [← hn2] at A16 hzl hzb
      have sm : ∀ {xs : List Int} {H' : Hp} {l : Addr}, H' l = some (.lst (xs.map V.int ++ (List.replicate n (0 : Int)).map V.int)) → SqL K H' l ((xs ++ List.replicate n 0).map V.int) := fun e => by rw [List.map_append]; exact SqL.of e
      have hbd : ∀ {xs : List Int}, (∀ x ∈ xs, -1000000 ≤ x ∧ x ≤ 1000000) → ∀ x ∈ xs ++ List.replicate n 0, -1000000 ≤ x ∧ x ≤ 1000000 := fun h x hx => (List.mem_append.mp hx).elim (h x) (hzb x)
      have zl : ∀ xs : List Int, (xs ++ List.replicate n 0).length = xs.length + n := fun xs => by rw [List.length_append, List.length_replicate]
      -- the great ring
      refine r_mkL A16 (by show 2 ≤ 10000000; decide) (fun g1 H14 A17 => ?_)
      repeat walk_at "s"
      refine r_cat A17 (A17.get (by walk_at "memd")) (A17.get (by walk_at "memd")) (by rw [List.length_map, hzl]; show 2 + _ ≤ _; omega) (fun g2 H15 A18 => ?_)
      repeat walk_at "s"
      refine use_Ring (sm (xs := [1000000, -1000000]) (A18.get (by walk_at "memd"))) (by rw [zl]; show 2 ≤ 2 + n; omega) (by rw [zl]; show 2 + n ≤ _; omega) (hbd (by decide)) (fun g H16 s16 n16 Rg => ?_)
      have A19 := (A18.tl.tl).same s16
      have Rg : RingAt T H16 g (gr n) := Rg
      have A20 := At.nil H16
      have s416 := A19.ex
      have hno : H16 no = some (.lst ((List.replicate n (0 : Int)).map V.int)) := A19.get List.mem_cons_self
      have R := R.mono s416
      have hh := s416.seq hh5
      have D := D.mono s416
      clear A16 A17 A18 A19 hh13 hh5
      have hgl := gr_len n
      have hsl : hs.length = n + 2 := by omega
      repeat walk_at "s"
      -- other counts
      refine r_mkL A20 (by show 3 ≤ 10000000; decide) (fun b1 H17 A => ?_)
      repeat walk_at "s"
      refine r_cat A (A.get (by walk_at "memd")) (A.ex _ _ hno) (by rw [List.length_map, hzl]; show 3 + _ ≤ _; omega) (fun b2 H18 A => ?_)
      repeat walk_at "s"
      refine use_Ring (sm (xs := [0, 0, 0]) (A.get (by walk_at "memd"))) (by rw [zl]; show 2 ≤ 3 + n; omega) (by rw [zl]; show 3 + n ≤ _; omega) (hbd (by decide)) (fun r3 H19 s19 n19 R3 => ?_)
      have A := (A.sub (List.nil_sublist _)).same s19
      repeat walk_at "s"
      refine ⟨T.f_law_together, _, _, _, 3, rfl, refuses_unlike (R.mono A.ex) R3 (by omega) (by omega) (.inl (by rw [zl]; show 3 + n ≠ _; omega)), Y.y3, fun l1 H20 s20 n20 hl20 => ?_⟩
      have A := A.made s20 n20 hl20
      have hq20 : SqL K H20 l1 ((kin 3).map V.bl) := A.sqo List.mem_cons_self
      repeat walk_at "s"
      refine r_due 3 rfl (by decide) (D.mono A.ex) (fun d hd => ?_)
      repeat walk_at "s"
      refine r_mkL A (by show 3 ≤ 10000000; decide) (fun b3 H21 A => ?_)
      repeat walk_at "s"
      refine r_cat A (A.get (by walk_at "memd")) (A.ex _ _ hno) (by rw [List.length_map, hzl]; show 3 + _ ≤ _; omega) (fun b4 H22 A => ?_)
      repeat walk_at "s"
      refine use_Ring (sm (xs := [0, 0, 0]) (A.get (by walk_at "memd"))) (by rw [zl]; show 2 ≤ 3 + n; omega) (by rw [zl]; show 3 + n ≤ _; omega) (hbd (by decide)) (fun r4 H23 s23 n23 R4 => ?_)
      have A := (A.sub (List.nil_sublist _)).same s23
      repeat walk_at "s"
      refine ⟨T.f_law_together, _, _, _, 3, rfl, refuses_unlike R4 (R.mono A.ex) (by rw [zl]; show 2 ≤ 3 + n; omega) (by rw [zl]; show 3 + n ≤ _; omega) (.inl (by rw [zl]; show _ ≠ 3 + n; omega)), Y.y3, fun l2 H24 s24 n24 hl24 => ?_⟩
      have A := A.made s24 n24 hl24
      have hq24 : SqL K H24 l2 ((kin 3).map V.bl) := A.sqo List.mem_cons_self
      repeat walk_at "s"
      refine r_due 3 rfl (by decide) (D.mono A.ex) (fun d hd => ?_)
      repeat walk_at "s"
      have s24b := A.ex
      have A := A.tl
      refine r_mkL A (by show 2 ≤ 10000000; decide) (fun c1 H25 A => ?_)
      repeat walk_at "s"
      refine r_mkL A (by show 2 ≤ 10000000; decide) (fun c2 H26 A => ?_)
      repeat walk_at "s"
      refine r_mkT A (by show 2 ≤ 10000000; decide) (fun t3 H27 A => ?_)
      repeat walk_at "s"
      refine r_forItt [.ref c1, .ref c2] (fun i σ H' => ∃ (v9 : Option V), σ = [some (.ref a), some (.int far), some (.ref dl), v, some (.ref h), some (.ref r), some (.ref q), some (.ref no), some (.ref g), v9] ∧ At H16 [(t3, .tup [.ref c1, .ref c2]), (c2, .lst [.int 0, .int (-1)]), (c1, .lst [.int 1, .int 0])] H') ⟨none, rfl, A⟩ (fun i σ H' _ ⟨v9, _, A'⟩ => A'.sto (by walk_at "mem")) ?_ ?_
      · rintro i y σ H28 N hy ⟨v9, rfl, A28⟩ hN
        obtain ⟨c, x1, x2, rfl, hc, hx, hbad⟩ : ∃ (c : Addr) (x1 x2 : Int), y = V.ref c ∧ H28 c = some (.lst (([x1, x2] : List Int).map V.int)) ∧ (∀ x ∈ [x1, x2], -1000000 ≤ x ∧ x ≤ 1000000) ∧ (sums (gr n) ([x1, x2] ++ List.replicate n 0)).all inB = false := by
          match i, hy with
          | 0, e => exact ⟨c1, 1, 0, (Option.some.inj e).symm, A28.get (by walk_at "memd"), by decide, by rw [sums_two]; rfl⟩
          | 1, e => exact ⟨c2, 0, -1, (Option.some.inj e).symm, A28.get (by walk_at "memd"), by decide, by rw [sums_two]; rfl⟩
          | i + 2, e => simp at e
        repeat walk_at "s"
        refine r_cat A28 hc (A28.ex _ _ hno) (by rw [List.length_map, List.length_map, hzl]; show 2 + _ ≤ _; omega) (fun b5 H29 A29 => ?_)
        repeat walk_at "s"
        refine use_Ring (sm (xs := [x1, x2]) (A29.get (by walk_at "memd"))) (by rw [zl]; show 2 ≤ 2 + n; omega) (by rw [zl]; show 2 + n ≤ _; omega) (hbd hx) (fun r5 H30 s30 n30 R5 => ?_)
        have A30 := A29.tl.same s30
        repeat walk_at "s"
        refine ⟨T.f_law_together, _, _, _, 3, rfl, refuses_unlike (Rg.mono A30.ex) R5 (by omega) (by omega) (.inr ⟨by rw [zl, hgl]; show 2 + n = n + 2; omega, hbad⟩), Y.y3, fun l5 H31 s31 n31 hl31 => ?_⟩
        have A31 := A30.made s31 n31 hl31
        have hq31 : SqL K H31 l5 ((kin 3).map V.bl) := A31.sqo List.mem_cons_self
        repeat walk_at "s"
        refine r_due 3 rfl (by decide) (D.mono A31.ex) (fun d hd => ?_)
        repeat walk_at "s"
        exact hN _ _ ⟨_, rfl, A31.tl⟩
      · rintro σ H28 ⟨v9, rfl, A28⟩
        repeat walk_at "s"
        refine r_mkL A28 (by show 2 ≤ 10000000; decide) (fun b6 H29 A29 => ?_)
        repeat walk_at "s"
        refine r_cat A29 (A29.get (by walk_at "memd")) (A29.ex _ _ hno) (by rw [List.length_map, hzl]; show 2 + _ ≤ _; omega) (fun b7 H30 A30 => ?_)
        repeat walk_at "s"
        refine use_Ring (sm (xs := [-1, 1]) (A30.get (by walk_at "memd"))) (by rw [zl]; show 2 ≤ 2 + n; omega) (by rw [zl]; show 2 + n ≤ _; omega) (hbd (by decide)) (fun r6 H31 s31 n31 R6 => ?_)
        have A31 := (A30.sub (List.nil_sublist _)).same s31
        have hgood : (sums (gr n) ([-1, 1] ++ List.replicate n 0)).all inB = true := by
          rw [sums_two, List.all_cons, List.all_cons, List.all_eq_true.mpr (fun x hx => by rw [List.eq_of_mem_replicate hx]; rfl)]
          rfl
        repeat walk_at "s"
        refine ⟨g, r6, gr n, _, rfl, Rg.mono A31.ex, R6, by omega, by omega, (fun z => by
          rcases z with z | z
          · exact absurd (by rw [zl, hgl]; show 2 + n = n + 2; omega) z
          · rw [hgood] at z
            cases z.2), fun _ r7 H32 s32 n32 R7 => ?_⟩
        have A32 := A31.same s32
        rw [sums_two] at R7
        repeat walk_at "s"
        refine use_houses R7 (fun l7 H33 s33 n33 hl33 => ?_)
        have A33 := A32.made s33 n33 hl33
        repeat walk_at "s"
        refine r_slL A33 (A33.sqo List.mem_cons_self) (fun l8 H34 A34 => ?_)
        have ec2 : cutV (List.map V.int ((1000000 + -1) :: (-1000000 + 1) :: List.replicate n 0)) none (some 2) = ([999999, -999999] : List Int).map V.int := EM.cut_to _ 2
        rw [ec2] at A34
        have hq34 : SqL K H34 l8 (([999999, -999999] : List Int).map V.int) := A34.sqo List.mem_cons_self
        repeat walk_at "s"
        refine r_mkL A34 (by show 2 ≤ 10000000; decide) (fun l9 H35 A35 => ?_)
        have hq35 : SqL K H35 l8 (([999999, -999999] : List Int).map V.int) := A35.sqo (by walk_at "memd")
        have hq36 : SqL K H35 l9 (([999999, -999999] : List Int).map V.int) := A35.sqo List.mem_cons_self
        repeat walk_at "s"
        have A36 : At H16 [] H35 := A35.sub (List.nil_sublist _)
        refine use_houses (R.mono A36.ex) (fun l10 H36 s36 n36 hl36 => ?_)
        have A37 := A36.made s36 n36 hl36
        have hqa : SqL K H36 l10 (hs.map V.int) := A37.sqo List.mem_cons_self
        have hqb : SqL K H36 h (hs.map V.int) := A37.sq hh
        repeat walk_at "s"
        refine ⟨g, gr n, rfl, Rg.mono A37.ex, by omega, by omega, (fun z => absurd (gr_sum n) z), fun _ lo hi H37 m1 m2 mb s37 => ?_⟩
        have A38 := A37.same s37
        obtain ⟨w1, w2⟩ := gr_mem n
        have v1 := gr_runs m1
        have v2 := gr_runs m2
        have v3 := mb _ w1
        have v4 := mb _ w2
        have ehl : (hi - lo + 1) / 2 = 500000 := by omega
        rw [ehl]
        repeat walk_at "s"
        refine ⟨g, gr n, rfl, Rg.mono A38.ex, by omega, (fun z => absurd (gr_sum n) z), fun _ l11 H38 s38 n38 hl38 => ?_⟩
        have A39 := A38.made s38 n38 hl38
        repeat walk_at "s"
        refine r_slL A39 (A39.sqo List.mem_cons_self) (fun l12 H39 A40 => ?_)
        have ec3 : cutV ((EM.runs (gr n)).map V.int) none (some 2) = ((EM.runs (gr n)).take 2).map V.int := EM.cut_to _ 2
        rw [ec3, gr_runs2] at A40
        repeat walk_at "s"
        refine r_mkL A40 (by show 2 ≤ 10000000; decide) (fun l13 H40 A41 => ?_)
        have hqc : SqL K H40 l12 (([1000000, 0] : List Int).map V.int) := A41.sqo (by walk_at "memd")
        have hqd : SqL K H40 l13 (([1000000, 0] : List Int).map V.int) := A41.sqo List.mem_cons_self
        repeat walk_at "s"
        rw [decide_eq_true rfl]
        exact k _

end
theorem all_mk {l : PySem.W.OpenLaw} {w : World} {K : PySem.W.Frag} {h : Heap} {mg : Str → Option Value} {fa : Addr} (X : K.In h) (G : h.Ns mainGlobals mg) (hfa : mg "law" = some (.ref fa))
    {tk_GREATEST_rings : Tok}
    {tk_GREATEST_carrying : Tok}
    {c_RingError : Addr}
    {c_BadRing : Addr}
    {c_BadTolls : Addr}
    {c_BadMost : Addr}
    {c_Unlike : Addr}
    {c_Lacking : Addr}
    {c_BadText : Addr}
    {c_Ring : Addr}
    {f_Lacking_init : Addr} {od_Lacking_init an_Lacking_init : Option Addr} {sl_Lacking_init : Array (Option Value)} {oc_Lacking_init kV_Lacking_init dc_Lacking_init pm_Lacking_init cd_Lacking_init ct_Lacking_init : Value}
    {nm_Lacking q_Lacking : Str} {N_Lacking : Addr} {bs_Lacking : List Value} {sn_Lacking : List Str} {sub_Lacking : List Value} {ab_Lacking : Bool} {col_Lacking : Option Bool} {dd_Lacking : Option Addr} {m0_Lacking m1_Lacking m2_Lacking m3_Lacking m5_Lacking : Option Value}
    {f_is_whole : Addr} {od_is_whole an_is_whole : Option Addr} {sl_is_whole : Array (Option Value)} {oc_is_whole kV_is_whole dc_is_whole pm_is_whole cd_is_whole ct_is_whole : Value}
    {f_is_house : Addr} {od_is_house an_is_house : Option Addr} {sl_is_house : Array (Option Value)} {oc_is_house kV_is_house dc_is_house pm_is_house cd_is_house ct_is_house : Value}
    {f_Ring_init : Addr} {od_Ring_init an_Ring_init : Option Addr} {sl_Ring_init : Array (Option Value)} {oc_Ring_init kV_Ring_init dc_Ring_init pm_Ring_init cd_Ring_init ct_Ring_init : Value}
    {f_Ring_houses : Addr} {od_Ring_houses an_Ring_houses : Option Addr} {sl_Ring_houses : Array (Option Value)} {oc_Ring_houses kV_Ring_houses dc_Ring_houses pm_Ring_houses cd_Ring_houses ct_Ring_houses : Value}
    {f_Ring_whole : Addr} {od_Ring_whole an_Ring_whole : Option Addr} {sl_Ring_whole : Array (Option Value)} {oc_Ring_whole kV_Ring_whole dc_Ring_whole pm_Ring_whole cd_Ring_whole ct_Ring_whole : Value}
    {f_turned : Addr} {od_turned an_turned : Option Addr} {sl_turned : Array (Option Value)} {oc_turned kV_turned dc_turned pm_turned cd_turned ct_turned : Value}
    {f_together : Addr} {od_together an_together : Option Addr} {sl_together : Array (Option Value)} {oc_together kV_together dc_together pm_together cd_together ct_together : Value}
    {f_check_tolls : Addr} {od_check_tolls an_check_tolls : Option Addr} {sl_check_tolls : Array (Option Value)} {oc_check_tolls kV_check_tolls dc_check_tolls pm_check_tolls cd_check_tolls ct_check_tolls : Value}
    {f_check_total : Addr} {od_check_total an_check_total : Option Addr} {sl_check_total : Array (Option Value)} {oc_check_total kV_check_total dc_check_total pm_check_total cd_check_total ct_check_total : Value}
    {f_running : Addr} {od_running an_running : Option Addr} {sl_running : Array (Option Value)} {oc_running kV_running dc_running pm_running cd_running ct_running : Value}
    {f_least : Addr} {od_least an_least : Option Addr} {sl_least : Array (Option Value)} {oc_least kV_least dc_least pm_least cd_least ct_least : Value}
    {f_ends : Addr} {od_ends an_ends : Option Addr} {sl_ends : Array (Option Value)} {oc_ends kV_ends dc_ends pm_ends cd_ends ct_ends : Value}
    {f_along : Addr} {od_along an_along : Option Addr} {sl_along : Array (Option Value)} {oc_along kV_along dc_along pm_along cd_along ct_along : Value}
    {f_within : Addr} {od_within an_within : Option Addr} {sl_within : Array (Option Value)} {oc_within kV_within dc_within pm_within cd_within ct_within : Value}
    {f_widest : Addr} {od_widest an_widest : Option Addr} {sl_widest : Array (Option Value)} {oc_widest kV_widest dc_widest pm_widest cd_widest ct_widest : Value}
    {f_law_cell_at : Addr} {od_law_cell_at an_law_cell_at : Option Addr} {sl_law_cell_at : Array (Option Value)} {oc_law_cell_at kV_law_cell_at dc_law_cell_at pm_law_cell_at cd_law_cell_at ct_law_cell_at : Value}
    {f_law_draw : Addr} {od_law_draw an_law_draw : Option Addr} {sl_law_draw : Array (Option Value)} {oc_law_draw kV_law_draw dc_law_draw pm_law_draw cd_law_draw ct_law_draw : Value}
    {f_law_houses : Addr} {od_law_houses an_law_houses : Option Addr} {sl_law_houses : Array (Option Value)} {oc_law_houses kV_law_houses dc_law_houses pm_law_houses cd_law_houses ct_law_houses : Value}
    {f_law_kinds : Addr} {od_law_kinds an_law_kinds : Option Addr} {sl_law_kinds : Array (Option Value)} {oc_law_kinds kV_law_kinds dc_law_kinds pm_law_kinds cd_law_kinds ct_law_kinds : Value}
    {f_law_told : Addr} {od_law_told an_law_told : Option Addr} {sl_law_told : Array (Option Value)} {oc_law_told kV_law_told dc_law_told pm_law_told cd_law_told ct_law_told : Value}
    {f_law_ring : Addr} {od_law_ring an_law_ring : Option Addr} {sl_law_ring : Array (Option Value)} {oc_law_ring kV_law_ring dc_law_ring pm_law_ring cd_law_ring ct_law_ring : Value}
    {f_law_with_tolls : Addr} {od_law_with_tolls an_law_with_tolls : Option Addr} {sl_law_with_tolls : Array (Option Value)} {oc_law_with_tolls kV_law_with_tolls dc_law_with_tolls pm_law_with_tolls cd_law_with_tolls ct_law_with_tolls : Value}
    {f_law_ends : Addr} {od_law_ends an_law_ends : Option Addr} {sl_law_ends : Array (Option Value)} {oc_law_ends kV_law_ends dc_law_ends pm_law_ends cd_law_ends ct_law_ends : Value}
    {f_law_within : Addr} {od_law_within an_law_within : Option Addr} {sl_law_within : Array (Option Value)} {oc_law_within kV_law_within dc_law_within pm_law_within cd_law_within ct_law_within : Value}
    {f_law_turned : Addr} {od_law_turned an_law_turned : Option Addr} {sl_law_turned : Array (Option Value)} {oc_law_turned kV_law_turned dc_law_turned pm_law_turned cd_law_turned ct_law_turned : Value}
    {f_law_together : Addr} {od_law_together an_law_together : Option Addr} {sl_law_together : Array (Option Value)} {oc_law_together kV_law_together dc_law_together pm_law_together cd_law_together ct_law_together : Value}
    {f_law_plain : Addr} {od_law_plain an_law_plain : Option Addr} {sl_law_plain : Array (Option Value)} {oc_law_plain kV_law_plain dc_law_plain pm_law_plain cd_law_plain ct_law_plain : Value}
    {f_law_lack : Addr} {od_law_lack an_law_lack : Option Addr} {sl_law_lack : Array (Option Value)} {oc_law_lack kV_law_lack dc_law_lack pm_law_lack cd_law_lack ct_law_lack : Value}
    {f_law_all : Addr} {od_law_all an_law_all : Option Addr} {sl_law_all : Array (Option Value)} {oc_law_all kV_law_all dc_law_all pm_law_all cd_law_all ct_law_all : Value}
    {f_law_rings_right : Addr} {od_law_rings_right an_law_rings_right : Option Addr} {sl_law_rings_right : Array (Option Value)} {oc_law_rings_right kV_law_rings_right dc_law_rings_right pm_law_rings_right cd_law_rings_right ct_law_rings_right : Value}
    {f_law_tolls_right : Addr} {od_law_tolls_right an_law_tolls_right : Option Addr} {sl_law_tolls_right : Array (Option Value)} {oc_law_tolls_right kV_law_tolls_right dc_law_tolls_right pm_law_tolls_right cd_law_tolls_right ct_law_tolls_right : Value}
    {f_law_lacking_right : Addr} {od_law_lacking_right an_law_lacking_right : Option Addr} {sl_law_lacking_right : Array (Option Value)} {oc_law_lacking_right kV_law_lacking_right dc_law_lacking_right pm_law_lacking_right cd_law_lacking_right ct_law_lacking_right : Value}
    {f_law : Addr} {od_law an_law : Option Addr} {sl_law : Array (Option Value)} {oc_law kV_law dc_law pm_law cd_law ct_law : Value}
    (z_abs : PySem.W.nsIn K mainGlobals "abs" = some none)
    (z_all : PySem.W.nsIn K mainGlobals "all" = some none)
    (z_any : PySem.W.nsIn K mainGlobals "any" = some none)
    (z_bool : PySem.W.nsIn K mainGlobals "bool" = some none)
    (z_int : PySem.W.nsIn K mainGlobals "int" = some none)
    (z_isinstance : PySem.W.nsIn K mainGlobals "isinstance" = some none)
    (z_len : PySem.W.nsIn K mainGlobals "len" = some none)
    (z_list : PySem.W.nsIn K mainGlobals "list" = some none)
    (z_max : PySem.W.nsIn K mainGlobals "max" = some none)
    (z_min : PySem.W.nsIn K mainGlobals "min" = some none)
    (z_range : PySem.W.nsIn K mainGlobals "range" = some none)
    (z_sorted : PySem.W.nsIn K mainGlobals "sorted" = some none)
    (z_sum : PySem.W.nsIn K mainGlobals "sum" = some none)
    (y_GREATEST_rings : PySem.W.nsIn K mainGlobals "GREATEST_rings" = some (some (.int 1000000 tk_GREATEST_rings)))
    (y_GREATEST_carrying : PySem.W.nsIn K mainGlobals "GREATEST_carrying" = some (some (.int 1000 tk_GREATEST_carrying)))
    (a_RingError : PySem.W.nsIn K mainGlobals "RingError" = some (some (.ref c_RingError)))
    (xx_RingError : PySem.W.excIn K c_RingError [.type "ValueError", .type "Exception", .type "BaseException", .type "object"] "ValueError.__new__" = true)
    (kc_RingError : PySem.W.keepIn K (.ref c_RingError) = true)
    (be_RingError : PySem.W.subIn K (.ref c_RingError) (.type "BaseException") = some true)
    (ty_RingError : PySem.W.typeIn K (.ref c_RingError) = some (.type "type"))
    (hd_RingError : PySem.W.hasDictIn K c_RingError = true)
    (a_BadRing : PySem.W.nsIn K mainGlobals "BadRing" = some (some (.ref c_BadRing)))
    (xx_BadRing : PySem.W.excIn K c_BadRing [.type "ValueError", .type "Exception", .type "BaseException", .type "object"] "ValueError.__new__" = true)
    (kc_BadRing : PySem.W.keepIn K (.ref c_BadRing) = true)
    (be_BadRing : PySem.W.subIn K (.ref c_BadRing) (.type "BaseException") = some true)
    (ty_BadRing : PySem.W.typeIn K (.ref c_BadRing) = some (.type "type"))
    (hd_BadRing : PySem.W.hasDictIn K c_BadRing = true)
    (a_BadTolls : PySem.W.nsIn K mainGlobals "BadTolls" = some (some (.ref c_BadTolls)))
    (xx_BadTolls : PySem.W.excIn K c_BadTolls [.type "ValueError", .type "Exception", .type "BaseException", .type "object"] "ValueError.__new__" = true)
    (kc_BadTolls : PySem.W.keepIn K (.ref c_BadTolls) = true)
    (be_BadTolls : PySem.W.subIn K (.ref c_BadTolls) (.type "BaseException") = some true)
    (ty_BadTolls : PySem.W.typeIn K (.ref c_BadTolls) = some (.type "type"))
    (hd_BadTolls : PySem.W.hasDictIn K c_BadTolls = true)
    (a_BadMost : PySem.W.nsIn K mainGlobals "BadMost" = some (some (.ref c_BadMost)))
    (xx_BadMost : PySem.W.excIn K c_BadMost [.type "ValueError", .type "Exception", .type "BaseException", .type "object"] "ValueError.__new__" = true)
    (kc_BadMost : PySem.W.keepIn K (.ref c_BadMost) = true)
    (be_BadMost : PySem.W.subIn K (.ref c_BadMost) (.type "BaseException") = some true)
    (ty_BadMost : PySem.W.typeIn K (.ref c_BadMost) = some (.type "type"))
    (hd_BadMost : PySem.W.hasDictIn K c_BadMost = true)
    (a_Unlike : PySem.W.nsIn K mainGlobals "Unlike" = some (some (.ref c_Unlike)))
    (xx_Unlike : PySem.W.excIn K c_Unlike [.type "ValueError", .type "Exception", .type "BaseException", .type "object"] "ValueError.__new__" = true)
    (kc_Unlike : PySem.W.keepIn K (.ref c_Unlike) = true)
    (be_Unlike : PySem.W.subIn K (.ref c_Unlike) (.type "BaseException") = some true)
    (ty_Unlike : PySem.W.typeIn K (.ref c_Unlike) = some (.type "type"))
    (hd_Unlike : PySem.W.hasDictIn K c_Unlike = true)
    (a_Lacking : PySem.W.nsIn K mainGlobals "Lacking" = some (some (.ref c_Lacking)))
    (kc_Lacking : PySem.W.keepIn K (.ref c_Lacking) = true)
    (be_Lacking : PySem.W.subIn K (.ref c_Lacking) (.type "BaseException") = some true)
    (ty_Lacking : PySem.W.typeIn K (.ref c_Lacking) = some (.type "type"))
    (hd_Lacking : PySem.W.hasDictIn K c_Lacking = true)
    (a_BadText : PySem.W.nsIn K mainGlobals "BadText" = some (some (.ref c_BadText)))
    (xx_BadText : PySem.W.excIn K c_BadText [.type "ValueError", .type "Exception", .type "BaseException", .type "object"] "ValueError.__new__" = true)
    (kc_BadText : PySem.W.keepIn K (.ref c_BadText) = true)
    (be_BadText : PySem.W.subIn K (.ref c_BadText) (.type "BaseException") = some true)
    (ty_BadText : PySem.W.typeIn K (.ref c_BadText) = some (.type "type"))
    (hd_BadText : PySem.W.hasDictIn K c_BadText = true)
    (a_Ring : PySem.W.nsIn K mainGlobals "Ring" = some (some (.ref c_Ring)))
    (pg_Ring : PySem.W.plainGet K c_Ring Str.empty = true)
    (hd_Ring : PySem.W.hasDictIn K c_Ring = true)
    (po_Ring : PySem.W.plainOver K c_Ring = true)
    (sa_Ring : PySem.W.findIn K (.ref c_Ring) "__setattr__" = some (some (.builtin "object.__setattr__")))
    (no_Ring_over : PySem.W.findIn K (.ref c_Ring) "over" = some none)
    (ia_Ring : PySem.W.findIn K (.ref c_Ring) "__class__" = some (some (.builtin "object.__class__")))
    (ib_Ring : PySem.W.specialIn K (.builtin "object.__class__") "__get__" = some (some (.builtin "getset_descriptor.__get__")))
    (ic_Ring : PySem.W.takesIn K (.builtin "object.__class__") = some true)
    (id_Ring : PySem.W.mroIn K c_Ring (.type "object") = some true)
    (sg_RingError : PySem.W.specialIn K (.ref c_RingError) "__getattribute__" = some (some (.builtin "type.__getattribute__")))
    (rd_RingError : PySem.W.readsIn K c_RingError (.type "type") = true)
    (fc_RingError : PySem.W.findCls K (.ref c_RingError) (.type "type") "__init__" = some (.val (.builtin "ValueError.__init__")))
    (sx_BadRing_RingError : PySem.W.subIn K (.ref c_BadRing) (.ref c_RingError) = some true)
    (sx_BadTolls_RingError : PySem.W.subIn K (.ref c_BadTolls) (.ref c_RingError) = some true)
    (sx_BadMost_RingError : PySem.W.subIn K (.ref c_BadMost) (.ref c_RingError) = some true)
    (sx_Unlike_RingError : PySem.W.subIn K (.ref c_Unlike) (.ref c_RingError) = some true)
    (sx_Lacking_RingError : PySem.W.subIn K (.ref c_Lacking) (.ref c_RingError) = some true)
    (sx_Lacking_Lacking : PySem.W.subIn K (.ref c_Lacking) (.ref c_Lacking) = some true)
    (ehn : PySem.W.specialIn K (.builtin "object.__class__") "__get__" = some (some (.builtin "getset_descriptor.__get__")))
    (eht : PySem.W.takesIn K (.builtin "object.__class__") = some true)
    (z_ValueError : PySem.W.nsIn K mainGlobals "ValueError" = some none)
    (ehg_BadRing : PySem.W.findIn K (.ref c_BadRing) "__getattribute__" = some (some (.builtin "BaseException.__getattribute__")))
    (ehk_BadRing : PySem.W.findIn K (.ref c_BadRing) "__getattr__" = some none)
    (eha_BadRing : PySem.W.findIn K (.ref c_BadRing) "__class__" = some (some (.builtin "object.__class__")))
    (ehm_BadRing : PySem.W.mroIn K c_BadRing (.type "object") = some true)
    (kit_BadRing_BadRing : PySem.W.kitOne K (.ref c_BadRing) (.ref c_BadRing) = some true)
    (kit_BadRing_BadTolls : PySem.W.kitOne K (.ref c_BadRing) (.ref c_BadTolls) = some false)
    (kit_BadRing_BadMost : PySem.W.kitOne K (.ref c_BadRing) (.ref c_BadMost) = some false)
    (kit_BadRing_Unlike : PySem.W.kitOne K (.ref c_BadRing) (.ref c_Unlike) = some false)
    (kit_BadRing_Lacking : PySem.W.kitOne K (.ref c_BadRing) (.ref c_Lacking) = some false)
    (kit_BadRing_BadText : PySem.W.kitOne K (.ref c_BadRing) (.ref c_BadText) = some false)
    (kit_BadRing_ValueError : PySem.W.kitOne K (.ref c_BadRing) (.type "ValueError") = some true)
    (ehg_BadTolls : PySem.W.findIn K (.ref c_BadTolls) "__getattribute__" = some (some (.builtin "BaseException.__getattribute__")))
    (ehk_BadTolls : PySem.W.findIn K (.ref c_BadTolls) "__getattr__" = some none)
    (eha_BadTolls : PySem.W.findIn K (.ref c_BadTolls) "__class__" = some (some (.builtin "object.__class__")))
    (ehm_BadTolls : PySem.W.mroIn K c_BadTolls (.type "object") = some true)
    (kit_BadTolls_BadRing : PySem.W.kitOne K (.ref c_BadTolls) (.ref c_BadRing) = some false)
    (kit_BadTolls_BadTolls : PySem.W.kitOne K (.ref c_BadTolls) (.ref c_BadTolls) = some true)
    (kit_BadTolls_BadMost : PySem.W.kitOne K (.ref c_BadTolls) (.ref c_BadMost) = some false)
    (kit_BadTolls_Unlike : PySem.W.kitOne K (.ref c_BadTolls) (.ref c_Unlike) = some false)
    (kit_BadTolls_Lacking : PySem.W.kitOne K (.ref c_BadTolls) (.ref c_Lacking) = some false)
    (kit_BadTolls_BadText : PySem.W.kitOne K (.ref c_BadTolls) (.ref c_BadText) = some false)
    (kit_BadTolls_ValueError : PySem.W.kitOne K (.ref c_BadTolls) (.type "ValueError") = some true)
    (ehg_BadMost : PySem.W.findIn K (.ref c_BadMost) "__getattribute__" = some (some (.builtin "BaseException.__getattribute__")))
    (ehk_BadMost : PySem.W.findIn K (.ref c_BadMost) "__getattr__" = some none)
    (eha_BadMost : PySem.W.findIn K (.ref c_BadMost) "__class__" = some (some (.builtin "object.__class__")))
    (ehm_BadMost : PySem.W.mroIn K c_BadMost (.type "object") = some true)
    (kit_BadMost_BadRing : PySem.W.kitOne K (.ref c_BadMost) (.ref c_BadRing) = some false)
    (kit_BadMost_BadTolls : PySem.W.kitOne K (.ref c_BadMost) (.ref c_BadTolls) = some false)
    (kit_BadMost_BadMost : PySem.W.kitOne K (.ref c_BadMost) (.ref c_BadMost) = some true)
    (kit_BadMost_Unlike : PySem.W.kitOne K (.ref c_BadMost) (.ref c_Unlike) = some false)
    (kit_BadMost_Lacking : PySem.W.kitOne K (.ref c_BadMost) (.ref c_Lacking) = some false)
    (kit_BadMost_BadText : PySem.W.kitOne K (.ref c_BadMost) (.ref c_BadText) = some false)
    (kit_BadMost_ValueError : PySem.W.kitOne K (.ref c_BadMost) (.type "ValueError") = some true)
    (ehg_Unlike : PySem.W.findIn K (.ref c_Unlike) "__getattribute__" = some (some (.builtin "BaseException.__getattribute__")))
    (ehk_Unlike : PySem.W.findIn K (.ref c_Unlike) "__getattr__" = some none)
    (eha_Unlike : PySem.W.findIn K (.ref c_Unlike) "__class__" = some (some (.builtin "object.__class__")))
    (ehm_Unlike : PySem.W.mroIn K c_Unlike (.type "object") = some true)
    (kit_Unlike_BadRing : PySem.W.kitOne K (.ref c_Unlike) (.ref c_BadRing) = some false)
    (kit_Unlike_BadTolls : PySem.W.kitOne K (.ref c_Unlike) (.ref c_BadTolls) = some false)
    (kit_Unlike_BadMost : PySem.W.kitOne K (.ref c_Unlike) (.ref c_BadMost) = some false)
    (kit_Unlike_Unlike : PySem.W.kitOne K (.ref c_Unlike) (.ref c_Unlike) = some true)
    (kit_Unlike_Lacking : PySem.W.kitOne K (.ref c_Unlike) (.ref c_Lacking) = some false)
    (kit_Unlike_BadText : PySem.W.kitOne K (.ref c_Unlike) (.ref c_BadText) = some false)
    (kit_Unlike_ValueError : PySem.W.kitOne K (.ref c_Unlike) (.type "ValueError") = some true)
    (ehg_Lacking : PySem.W.findIn K (.ref c_Lacking) "__getattribute__" = some (some (.builtin "BaseException.__getattribute__")))
    (ehk_Lacking : PySem.W.findIn K (.ref c_Lacking) "__getattr__" = some none)
    (eha_Lacking : PySem.W.findIn K (.ref c_Lacking) "__class__" = some (some (.builtin "object.__class__")))
    (ehm_Lacking : PySem.W.mroIn K c_Lacking (.type "object") = some true)
    (kit_Lacking_BadRing : PySem.W.kitOne K (.ref c_Lacking) (.ref c_BadRing) = some false)
    (kit_Lacking_BadTolls : PySem.W.kitOne K (.ref c_Lacking) (.ref c_BadTolls) = some false)
    (kit_Lacking_BadMost : PySem.W.kitOne K (.ref c_Lacking) (.ref c_BadMost) = some false)
    (kit_Lacking_Unlike : PySem.W.kitOne K (.ref c_Lacking) (.ref c_Unlike) = some false)
    (kit_Lacking_Lacking : PySem.W.kitOne K (.ref c_Lacking) (.ref c_Lacking) = some true)
    (kit_Lacking_BadText : PySem.W.kitOne K (.ref c_Lacking) (.ref c_BadText) = some false)
    (kit_Lacking_ValueError : PySem.W.kitOne K (.ref c_Lacking) (.type "ValueError") = some true)
    (xL_Lacking : K.lookup c_Lacking = some (excClassObj nm_Lacking q_Lacking c_Lacking N_Lacking bs_Lacking [.ref c_RingError, .type "ValueError", .type "Exception", .type "BaseException", .type "object"] true sn_Lacking sub_Lacking ab_Lacking col_Lacking dd_Lacking m0_Lacking m1_Lacking m2_Lacking m3_Lacking m5_Lacking "ValueError.__new__"))
    (xsa_Lacking : PySem.W.findIn K (.ref c_Lacking) "__setattr__" = some (some (.builtin "object.__setattr__")))
    (xga_Lacking : PySem.W.findIn K (.ref c_Lacking) "__getattribute__" = some (some (.builtin "BaseException.__getattribute__")))
    (xgg_Lacking : PySem.W.findIn K (.ref c_Lacking) "__getattr__" = some none)
    (a_Lacking_init : PySem.W.findIn K (.ref c_Lacking) "__init__" = some (some (.ref f_Lacking_init)))
    (t_Lacking_init : PySem.W.typeIn K (.ref f_Lacking_init) = some (.type "function"))
    (no_Lacking_total : PySem.W.findIn K (.ref c_Lacking) "total" = some none)
    (l_Lacking_init : K.lookup f_Lacking_init = some ⟨oc_Lacking_init, od_Lacking_init, .func (PySem.W.fnOf "__init__" "Lacking.__init__" (defArgs s_Lacking_init) (defBody s_Lacking_init) (defScope s_Lacking_init) .none kV_Lacking_init dc_Lacking_init pm_Lacking_init an_Lacking_init cd_Lacking_init ct_Lacking_init), sl_Lacking_init⟩)
    (c_Lacking_init_ : PySem.W.codeIn K cd_Lacking_init "Lacking.__init__" = true)
    (k_Lacking_init_ : PySem.W.keepIn K (.ref f_Lacking_init) = true)
    (a_is_whole : PySem.W.nsIn K mainGlobals "is_whole" = some (some (.ref f_is_whole)))
    (l_is_whole : K.lookup f_is_whole = some ⟨oc_is_whole, od_is_whole, .func (PySem.W.fnOf "is_whole" "is_whole" (defArgs s_is_whole) (defBody s_is_whole) (defScope s_is_whole) .none kV_is_whole dc_is_whole pm_is_whole an_is_whole cd_is_whole ct_is_whole), sl_is_whole⟩)
    (c_is_whole_ : PySem.W.codeIn K cd_is_whole "is_whole" = true)
    (k_is_whole_ : PySem.W.keepIn K (.ref f_is_whole) = true)
    (a_is_house : PySem.W.nsIn K mainGlobals "is_house" = some (some (.ref f_is_house)))
    (l_is_house : K.lookup f_is_house = some ⟨oc_is_house, od_is_house, .func (PySem.W.fnOf "is_house" "is_house" (defArgs s_is_house) (defBody s_is_house) (defScope s_is_house) .none kV_is_house dc_is_house pm_is_house an_is_house cd_is_house ct_is_house), sl_is_house⟩)
    (c_is_house_ : PySem.W.codeIn K cd_is_house "is_house" = true)
    (k_is_house_ : PySem.W.keepIn K (.ref f_is_house) = true)
    (a_Ring_init : PySem.W.findIn K (.ref c_Ring) "__init__" = some (some (.ref f_Ring_init)))
    (i_Ring_init : PySem.W.isFn K (.ref f_Ring_init) = true)
    (l_Ring_init : K.lookup f_Ring_init = some ⟨oc_Ring_init, od_Ring_init, .func (PySem.W.fnOf "__init__" "Ring.__init__" (defArgs s_Ring_init) (defBody s_Ring_init) (defScope s_Ring_init) .none kV_Ring_init dc_Ring_init pm_Ring_init an_Ring_init cd_Ring_init ct_Ring_init), sl_Ring_init⟩)
    (c_Ring_init_ : PySem.W.codeIn K cd_Ring_init "Ring.__init__" = true)
    (k_Ring_init_ : PySem.W.keepIn K (.ref f_Ring_init) = true)
    (mk_Ring : PySem.W.makesIn K c_Ring = true)
    (kp_Ring : PySem.W.keepIn K (.ref c_Ring) = true)
    (a_Ring_houses : PySem.W.findIn K (.ref c_Ring) "houses" = some (some (.ref f_Ring_houses)))
    (i_Ring_houses : PySem.W.isFn K (.ref f_Ring_houses) = true)
    (l_Ring_houses : K.lookup f_Ring_houses = some ⟨oc_Ring_houses, od_Ring_houses, .func (PySem.W.fnOf "houses" "Ring.houses" (defArgs s_Ring_houses) (defBody s_Ring_houses) (defScope s_Ring_houses) .none kV_Ring_houses dc_Ring_houses pm_Ring_houses an_Ring_houses cd_Ring_houses ct_Ring_houses), sl_Ring_houses⟩)
    (c_Ring_houses_ : PySem.W.codeIn K cd_Ring_houses "Ring.houses" = true)
    (k_Ring_houses_ : PySem.W.keepIn K (.ref f_Ring_houses) = true)
    (a_Ring_whole : PySem.W.findIn K (.ref c_Ring) "whole" = some (some (.ref f_Ring_whole)))
    (i_Ring_whole : PySem.W.isFn K (.ref f_Ring_whole) = true)
    (l_Ring_whole : K.lookup f_Ring_whole = some ⟨oc_Ring_whole, od_Ring_whole, .func (PySem.W.fnOf "whole" "Ring.whole" (defArgs s_Ring_whole) (defBody s_Ring_whole) (defScope s_Ring_whole) .none kV_Ring_whole dc_Ring_whole pm_Ring_whole an_Ring_whole cd_Ring_whole ct_Ring_whole), sl_Ring_whole⟩)
    (c_Ring_whole_ : PySem.W.codeIn K cd_Ring_whole "Ring.whole" = true)
    (k_Ring_whole_ : PySem.W.keepIn K (.ref f_Ring_whole) = true)
    (a_turned : PySem.W.nsIn K mainGlobals "turned" = some (some (.ref f_turned)))
    (l_turned : K.lookup f_turned = some ⟨oc_turned, od_turned, .func (PySem.W.fnOf "turned" "turned" (defArgs s_turned) (defBody s_turned) (defScope s_turned) .none kV_turned dc_turned pm_turned an_turned cd_turned ct_turned), sl_turned⟩)
    (c_turned_ : PySem.W.codeIn K cd_turned "turned" = true)
    (k_turned_ : PySem.W.keepIn K (.ref f_turned) = true)
    (a_together : PySem.W.nsIn K mainGlobals "together" = some (some (.ref f_together)))
    (l_together : K.lookup f_together = some ⟨oc_together, od_together, .func (PySem.W.fnOf "together" "together" (defArgs s_together) (defBody s_together) (defScope s_together) .none kV_together dc_together pm_together an_together cd_together ct_together), sl_together⟩)
    (c_together_ : PySem.W.codeIn K cd_together "together" = true)
    (k_together_ : PySem.W.keepIn K (.ref f_together) = true)
    (a_check_tolls : PySem.W.nsIn K mainGlobals "check_tolls" = some (some (.ref f_check_tolls)))
    (l_check_tolls : K.lookup f_check_tolls = some ⟨oc_check_tolls, od_check_tolls, .func (PySem.W.fnOf "check_tolls" "check_tolls" (defArgs s_check_tolls) (defBody s_check_tolls) (defScope s_check_tolls) .none kV_check_tolls dc_check_tolls pm_check_tolls an_check_tolls cd_check_tolls ct_check_tolls), sl_check_tolls⟩)
    (c_check_tolls_ : PySem.W.codeIn K cd_check_tolls "check_tolls" = true)
    (k_check_tolls_ : PySem.W.keepIn K (.ref f_check_tolls) = true)
    (a_check_total : PySem.W.nsIn K mainGlobals "check_total" = some (some (.ref f_check_total)))
    (l_check_total : K.lookup f_check_total = some ⟨oc_check_total, od_check_total, .func (PySem.W.fnOf "check_total" "check_total" (defArgs s_check_total) (defBody s_check_total) (defScope s_check_total) .none kV_check_total dc_check_total pm_check_total an_check_total cd_check_total ct_check_total), sl_check_total⟩)
    (c_check_total_ : PySem.W.codeIn K cd_check_total "check_total" = true)
    (k_check_total_ : PySem.W.keepIn K (.ref f_check_total) = true)
    (a_running : PySem.W.nsIn K mainGlobals "running" = some (some (.ref f_running)))
    (l_running : K.lookup f_running = some ⟨oc_running, od_running, .func (PySem.W.fnOf "running" "running" (defArgs s_running) (defBody s_running) (defScope s_running) .none kV_running dc_running pm_running an_running cd_running ct_running), sl_running⟩)
    (c_running_ : PySem.W.codeIn K cd_running "running" = true)
    (k_running_ : PySem.W.keepIn K (.ref f_running) = true)
    (a_least : PySem.W.nsIn K mainGlobals "least" = some (some (.ref f_least)))
    (l_least : K.lookup f_least = some ⟨oc_least, od_least, .func (PySem.W.fnOf "least" "least" (defArgs s_least) (defBody s_least) (defScope s_least) .none kV_least dc_least pm_least an_least cd_least ct_least), sl_least⟩)
    (c_least_ : PySem.W.codeIn K cd_least "least" = true)
    (k_least_ : PySem.W.keepIn K (.ref f_least) = true)
    (a_ends : PySem.W.nsIn K mainGlobals "ends" = some (some (.ref f_ends)))
    (l_ends : K.lookup f_ends = some ⟨oc_ends, od_ends, .func (PySem.W.fnOf "ends" "ends" (defArgs s_ends) (defBody s_ends) (defScope s_ends) .none kV_ends dc_ends pm_ends an_ends cd_ends ct_ends), sl_ends⟩)
    (c_ends_ : PySem.W.codeIn K cd_ends "ends" = true)
    (k_ends_ : PySem.W.keepIn K (.ref f_ends) = true)
    (a_along : PySem.W.nsIn K mainGlobals "along" = some (some (.ref f_along)))
    (l_along : K.lookup f_along = some ⟨oc_along, od_along, .func (PySem.W.fnOf "along" "along" (defArgs s_along) (defBody s_along) (defScope s_along) .none kV_along dc_along pm_along an_along cd_along ct_along), sl_along⟩)
    (c_along_ : PySem.W.codeIn K cd_along "along" = true)
    (k_along_ : PySem.W.keepIn K (.ref f_along) = true)
    (a_within : PySem.W.nsIn K mainGlobals "within" = some (some (.ref f_within)))
    (l_within : K.lookup f_within = some ⟨oc_within, od_within, .func (PySem.W.fnOf "within" "within" (defArgs s_within) (defBody s_within) (defScope s_within) .none kV_within dc_within pm_within an_within cd_within ct_within), sl_within⟩)
    (c_within_ : PySem.W.codeIn K cd_within "within" = true)
    (k_within_ : PySem.W.keepIn K (.ref f_within) = true)
    (a_widest : PySem.W.nsIn K mainGlobals "widest" = some (some (.ref f_widest)))
    (l_widest : K.lookup f_widest = some ⟨oc_widest, od_widest, .func (PySem.W.fnOf "widest" "widest" (defArgs s_widest) (defBody s_widest) (defScope s_widest) .none kV_widest dc_widest pm_widest an_widest cd_widest ct_widest), sl_widest⟩)
    (c_widest_ : PySem.W.codeIn K cd_widest "widest" = true)
    (k_widest_ : PySem.W.keepIn K (.ref f_widest) = true)
    (a_law_cell_at : PySem.W.nsIn K mainGlobals "_law_cell_at" = some (some (.ref f_law_cell_at)))
    (l_law_cell_at : K.lookup f_law_cell_at = some ⟨oc_law_cell_at, od_law_cell_at, .func (PySem.W.fnOf "_law_cell_at" "_law_cell_at" (defArgs s_law_cell_at) (defBody s_law_cell_at) (defScope s_law_cell_at) .none kV_law_cell_at dc_law_cell_at pm_law_cell_at an_law_cell_at cd_law_cell_at ct_law_cell_at), sl_law_cell_at⟩)
    (c_law_cell_at_ : PySem.W.codeIn K cd_law_cell_at "_law_cell_at" = true)
    (k_law_cell_at_ : PySem.W.keepIn K (.ref f_law_cell_at) = true)
    (a_law_draw : PySem.W.nsIn K mainGlobals "_law_draw" = some (some (.ref f_law_draw)))
    (l_law_draw : K.lookup f_law_draw = some ⟨oc_law_draw, od_law_draw, .func (PySem.W.fnOf "_law_draw" "_law_draw" (defArgs s_law_draw) (defBody s_law_draw) (defScope s_law_draw) .none kV_law_draw dc_law_draw pm_law_draw an_law_draw cd_law_draw ct_law_draw), sl_law_draw⟩)
    (c_law_draw_ : PySem.W.codeIn K cd_law_draw "_law_draw" = true)
    (k_law_draw_ : PySem.W.keepIn K (.ref f_law_draw) = true)
    (a_law_houses : PySem.W.nsIn K mainGlobals "_law_houses" = some (some (.ref f_law_houses)))
    (l_law_houses : K.lookup f_law_houses = some ⟨oc_law_houses, od_law_houses, .func (PySem.W.fnOf "_law_houses" "_law_houses" (defArgs s_law_houses) (defBody s_law_houses) (defScope s_law_houses) .none kV_law_houses dc_law_houses pm_law_houses an_law_houses cd_law_houses ct_law_houses), sl_law_houses⟩)
    (c_law_houses_ : PySem.W.codeIn K cd_law_houses "_law_houses" = true)
    (k_law_houses_ : PySem.W.keepIn K (.ref f_law_houses) = true)
    (a_law_kinds : PySem.W.nsIn K mainGlobals "_law_kinds" = some (some (.ref f_law_kinds)))
    (l_law_kinds : K.lookup f_law_kinds = some ⟨oc_law_kinds, od_law_kinds, .func (PySem.W.fnOf "_law_kinds" "_law_kinds" (defArgs s_law_kinds) (defBody s_law_kinds) (defScope s_law_kinds) .none kV_law_kinds dc_law_kinds pm_law_kinds an_law_kinds cd_law_kinds ct_law_kinds), sl_law_kinds⟩)
    (c_law_kinds_ : PySem.W.codeIn K cd_law_kinds "_law_kinds" = true)
    (k_law_kinds_ : PySem.W.keepIn K (.ref f_law_kinds) = true)
    (a_law_told : PySem.W.nsIn K mainGlobals "_law_told" = some (some (.ref f_law_told)))
    (l_law_told : K.lookup f_law_told = some ⟨oc_law_told, od_law_told, .func (PySem.W.fnOf "_law_told" "_law_told" (defArgs s_law_told) (defBody s_law_told) (defScope s_law_told) .none kV_law_told dc_law_told pm_law_told an_law_told cd_law_told ct_law_told), sl_law_told⟩)
    (c_law_told_ : PySem.W.codeIn K cd_law_told "_law_told" = true)
    (k_law_told_ : PySem.W.keepIn K (.ref f_law_told) = true)
    (a_law_ring : PySem.W.nsIn K mainGlobals "_law_ring" = some (some (.ref f_law_ring)))
    (l_law_ring : K.lookup f_law_ring = some ⟨oc_law_ring, od_law_ring, .func (PySem.W.fnOf "_law_ring" "_law_ring" (defArgs s_law_ring) (defBody s_law_ring) (defScope s_law_ring) .none kV_law_ring dc_law_ring pm_law_ring an_law_ring cd_law_ring ct_law_ring), sl_law_ring⟩)
    (c_law_ring_ : PySem.W.codeIn K cd_law_ring "_law_ring" = true)
    (k_law_ring_ : PySem.W.keepIn K (.ref f_law_ring) = true)
    (a_law_with_tolls : PySem.W.nsIn K mainGlobals "_law_with_tolls" = some (some (.ref f_law_with_tolls)))
    (l_law_with_tolls : K.lookup f_law_with_tolls = some ⟨oc_law_with_tolls, od_law_with_tolls, .func (PySem.W.fnOf "_law_with_tolls" "_law_with_tolls" (defArgs s_law_with_tolls) (defBody s_law_with_tolls) (defScope s_law_with_tolls) .none kV_law_with_tolls dc_law_with_tolls pm_law_with_tolls an_law_with_tolls cd_law_with_tolls ct_law_with_tolls), sl_law_with_tolls⟩)
    (c_law_with_tolls_ : PySem.W.codeIn K cd_law_with_tolls "_law_with_tolls" = true)
    (k_law_with_tolls_ : PySem.W.keepIn K (.ref f_law_with_tolls) = true)
    (a_law_ends : PySem.W.nsIn K mainGlobals "_law_ends" = some (some (.ref f_law_ends)))
    (l_law_ends : K.lookup f_law_ends = some ⟨oc_law_ends, od_law_ends, .func (PySem.W.fnOf "_law_ends" "_law_ends" (defArgs s_law_ends) (defBody s_law_ends) (defScope s_law_ends) .none kV_law_ends dc_law_ends pm_law_ends an_law_ends cd_law_ends ct_law_ends), sl_law_ends⟩)
    (c_law_ends_ : PySem.W.codeIn K cd_law_ends "_law_ends" = true)
    (k_law_ends_ : PySem.W.keepIn K (.ref f_law_ends) = true)
    (a_law_within : PySem.W.nsIn K mainGlobals "_law_within" = some (some (.ref f_law_within)))
    (l_law_within : K.lookup f_law_within = some ⟨oc_law_within, od_law_within, .func (PySem.W.fnOf "_law_within" "_law_within" (defArgs s_law_within) (defBody s_law_within) (defScope s_law_within) .none kV_law_within dc_law_within pm_law_within an_law_within cd_law_within ct_law_within), sl_law_within⟩)
    (c_law_within_ : PySem.W.codeIn K cd_law_within "_law_within" = true)
    (k_law_within_ : PySem.W.keepIn K (.ref f_law_within) = true)
    (a_law_turned : PySem.W.nsIn K mainGlobals "_law_turned" = some (some (.ref f_law_turned)))
    (l_law_turned : K.lookup f_law_turned = some ⟨oc_law_turned, od_law_turned, .func (PySem.W.fnOf "_law_turned" "_law_turned" (defArgs s_law_turned) (defBody s_law_turned) (defScope s_law_turned) .none kV_law_turned dc_law_turned pm_law_turned an_law_turned cd_law_turned ct_law_turned), sl_law_turned⟩)
    (c_law_turned_ : PySem.W.codeIn K cd_law_turned "_law_turned" = true)
    (k_law_turned_ : PySem.W.keepIn K (.ref f_law_turned) = true)
    (a_law_together : PySem.W.nsIn K mainGlobals "_law_together" = some (some (.ref f_law_together)))
    (l_law_together : K.lookup f_law_together = some ⟨oc_law_together, od_law_together, .func (PySem.W.fnOf "_law_together" "_law_together" (defArgs s_law_together) (defBody s_law_together) (defScope s_law_together) .none kV_law_together dc_law_together pm_law_together an_law_together cd_law_together ct_law_together), sl_law_together⟩)
    (c_law_together_ : PySem.W.codeIn K cd_law_together "_law_together" = true)
    (k_law_together_ : PySem.W.keepIn K (.ref f_law_together) = true)
    (a_law_plain : PySem.W.nsIn K mainGlobals "_law_plain" = some (some (.ref f_law_plain)))
    (l_law_plain : K.lookup f_law_plain = some ⟨oc_law_plain, od_law_plain, .func (PySem.W.fnOf "_law_plain" "_law_plain" (defArgs s_law_plain) (defBody s_law_plain) (defScope s_law_plain) .none kV_law_plain dc_law_plain pm_law_plain an_law_plain cd_law_plain ct_law_plain), sl_law_plain⟩)
    (c_law_plain_ : PySem.W.codeIn K cd_law_plain "_law_plain" = true)
    (k_law_plain_ : PySem.W.keepIn K (.ref f_law_plain) = true)
    (a_law_lack : PySem.W.nsIn K mainGlobals "_law_lack" = some (some (.ref f_law_lack)))
    (l_law_lack : K.lookup f_law_lack = some ⟨oc_law_lack, od_law_lack, .func (PySem.W.fnOf "_law_lack" "_law_lack" (defArgs s_law_lack) (defBody s_law_lack) (defScope s_law_lack) .none kV_law_lack dc_law_lack pm_law_lack an_law_lack cd_law_lack ct_law_lack), sl_law_lack⟩)
    (c_law_lack_ : PySem.W.codeIn K cd_law_lack "_law_lack" = true)
    (k_law_lack_ : PySem.W.keepIn K (.ref f_law_lack) = true)
    (a_law_all : PySem.W.nsIn K mainGlobals "_law_all" = some (some (.ref f_law_all)))
    (l_law_all : K.lookup f_law_all = some ⟨oc_law_all, od_law_all, .func (PySem.W.fnOf "_law_all" "_law_all" (defArgs s_law_all) (defBody s_law_all) (defScope s_law_all) .none kV_law_all dc_law_all pm_law_all an_law_all cd_law_all ct_law_all), sl_law_all⟩)
    (c_law_all_ : PySem.W.codeIn K cd_law_all "_law_all" = true)
    (k_law_all_ : PySem.W.keepIn K (.ref f_law_all) = true)
    (a_law_rings_right : PySem.W.nsIn K mainGlobals "_law_rings_right" = some (some (.ref f_law_rings_right)))
    (l_law_rings_right : K.lookup f_law_rings_right = some ⟨oc_law_rings_right, od_law_rings_right, .func (PySem.W.fnOf "_law_rings_right" "_law_rings_right" (defArgs s_law_rings_right) (defBody s_law_rings_right) (defScope s_law_rings_right) .none kV_law_rings_right dc_law_rings_right pm_law_rings_right an_law_rings_right cd_law_rings_right ct_law_rings_right), sl_law_rings_right⟩)
    (c_law_rings_right_ : PySem.W.codeIn K cd_law_rings_right "_law_rings_right" = true)
    (k_law_rings_right_ : PySem.W.keepIn K (.ref f_law_rings_right) = true)
    (a_law_tolls_right : PySem.W.nsIn K mainGlobals "_law_tolls_right" = some (some (.ref f_law_tolls_right)))
    (l_law_tolls_right : K.lookup f_law_tolls_right = some ⟨oc_law_tolls_right, od_law_tolls_right, .func (PySem.W.fnOf "_law_tolls_right" "_law_tolls_right" (defArgs s_law_tolls_right) (defBody s_law_tolls_right) (defScope s_law_tolls_right) .none kV_law_tolls_right dc_law_tolls_right pm_law_tolls_right an_law_tolls_right cd_law_tolls_right ct_law_tolls_right), sl_law_tolls_right⟩)
    (c_law_tolls_right_ : PySem.W.codeIn K cd_law_tolls_right "_law_tolls_right" = true)
    (k_law_tolls_right_ : PySem.W.keepIn K (.ref f_law_tolls_right) = true)
    (a_law_lacking_right : PySem.W.nsIn K mainGlobals "_law_lacking_right" = some (some (.ref f_law_lacking_right)))
    (l_law_lacking_right : K.lookup f_law_lacking_right = some ⟨oc_law_lacking_right, od_law_lacking_right, .func (PySem.W.fnOf "_law_lacking_right" "_law_lacking_right" (defArgs s_law_lacking_right) (defBody s_law_lacking_right) (defScope s_law_lacking_right) .none kV_law_lacking_right dc_law_lacking_right pm_law_lacking_right an_law_lacking_right cd_law_lacking_right ct_law_lacking_right), sl_law_lacking_right⟩)
    (c_law_lacking_right_ : PySem.W.codeIn K cd_law_lacking_right "_law_lacking_right" = true)
    (k_law_lacking_right_ : PySem.W.keepIn K (.ref f_law_lacking_right) = true)
    (a_law : PySem.W.nsIn K mainGlobals "law" = some (some (.ref f_law)))
    (l_law : K.lookup f_law = some ⟨oc_law, od_law, .func (PySem.W.fnOf "law" "law" (defArgs s_law) (defBody s_law) (defScope s_law) .none kV_law dc_law pm_law an_law cd_law ct_law), sl_law⟩)
    (c_law_ : PySem.W.codeIn K cd_law "law" = true)
    (k_law_ : PySem.W.keepIn K (.ref f_law) = true)
    : ∃ fd : FuncData, (∀ (s : Shared) (v : Value), BindsTo s fd ⟨[v], []⟩ [("_law_script", v)]) ∧ ∀ base : Heap, K.In base → base.Ns mainGlobals mg → FnOk l.prog w K mg base CX0 10 fa fd ["_law_script"] (sp_law0 K) := by
  have e := hfa.symm.trans (PySem.W.mg_of X G a_law)
  cases e
  exact ⟨PySem.W.fnOf "law" "law" (defArgs s_law) (defBody s_law) (defScope s_law) .none kV_law dc_law pm_law an_law cd_law ct_law, fun s v => .of_eq rfl, fun base _ _ => ok_law (K := K) (mg := mg) { n_abs := PySem.W.mg_none_of X G z_abs, n_all := PySem.W.mg_none_of X G z_all, n_any := PySem.W.mg_none_of X G z_any, n_bool := PySem.W.mg_none_of X G z_bool, n_int := PySem.W.mg_none_of X G z_int, n_isinstance := PySem.W.mg_none_of X G z_isinstance, n_len := PySem.W.mg_none_of X G z_len, n_list := PySem.W.mg_none_of X G z_list, n_max := PySem.W.mg_none_of X G z_max, n_min := PySem.W.mg_none_of X G z_min, n_range := PySem.W.mg_none_of X G z_range, n_sorted := PySem.W.mg_none_of X G z_sorted, n_sum := PySem.W.mg_none_of X G z_sum, k_GREATEST_rings := ⟨tk_GREATEST_rings, PySem.W.mg_of X G y_GREATEST_rings⟩, k_GREATEST_carrying := ⟨tk_GREATEST_carrying, PySem.W.mg_of X G y_GREATEST_carrying⟩, c_RingError := c_RingError, g_RingError := PySem.W.mg_of X G a_RingError, x_RingError := xx_RingError, kc_RingError := kc_RingError, be_RingError := be_RingError, ty_RingError := ty_RingError, hd_RingError := hd_RingError, c_BadRing := c_BadRing, g_BadRing := PySem.W.mg_of X G a_BadRing, x_BadRing := xx_BadRing, kc_BadRing := kc_BadRing, be_BadRing := be_BadRing, ty_BadRing := ty_BadRing, hd_BadRing := hd_BadRing, c_BadTolls := c_BadTolls, g_BadTolls := PySem.W.mg_of X G a_BadTolls, x_BadTolls := xx_BadTolls, kc_BadTolls := kc_BadTolls, be_BadTolls := be_BadTolls, ty_BadTolls := ty_BadTolls, hd_BadTolls := hd_BadTolls, c_BadMost := c_BadMost, g_BadMost := PySem.W.mg_of X G a_BadMost, x_BadMost := xx_BadMost, kc_BadMost := kc_BadMost, be_BadMost := be_BadMost, ty_BadMost := ty_BadMost, hd_BadMost := hd_BadMost, c_Unlike := c_Unlike, g_Unlike := PySem.W.mg_of X G a_Unlike, x_Unlike := xx_Unlike, kc_Unlike := kc_Unlike, be_Unlike := be_Unlike, ty_Unlike := ty_Unlike, hd_Unlike := hd_Unlike, c_Lacking := c_Lacking, g_Lacking := PySem.W.mg_of X G a_Lacking, kc_Lacking := kc_Lacking, be_Lacking := be_Lacking, ty_Lacking := ty_Lacking, hd_Lacking := hd_Lacking, c_BadText := c_BadText, g_BadText := PySem.W.mg_of X G a_BadText, x_BadText := xx_BadText, kc_BadText := kc_BadText, be_BadText := be_BadText, ty_BadText := ty_BadText, hd_BadText := hd_BadText, c_Ring := c_Ring, g_Ring := PySem.W.mg_of X G a_Ring, cl_Ring := ⟨pg_Ring, hd_Ring, po_Ring, sa_Ring⟩, no_Ring_over := no_Ring_over, in_Ring := ⟨ia_Ring, ib_Ring, ic_Ring, id_Ring⟩, sg_RingError := sg_RingError, rd_RingError := rd_RingError, fc_RingError := fc_RingError, sx_BadRing_RingError := sx_BadRing_RingError, sx_BadTolls_RingError := sx_BadTolls_RingError, sx_BadMost_RingError := sx_BadMost_RingError, sx_Unlike_RingError := sx_Unlike_RingError, sx_Lacking_RingError := sx_Lacking_RingError, sx_Lacking_Lacking := sx_Lacking_Lacking, no_Lacking_total := no_Lacking_total, ox_Lacking := ⟨⟨nm_Lacking, q_Lacking, N_Lacking, bs_Lacking, _, sn_Lacking, sub_Lacking, ab_Lacking, col_Lacking, dd_Lacking, m0_Lacking, m1_Lacking, m2_Lacking, m3_Lacking, m5_Lacking, xL_Lacking, rfl⟩, xsa_Lacking, be_Lacking, ty_Lacking, kc_Lacking⟩, iC_Lacking := a_Lacking_init, tI_Lacking := t_Lacking_init, xf_Lacking := ⟨xga_Lacking, xgg_Lacking, be_Lacking, hd_Lacking⟩, f_Lacking_init := f_Lacking_init, fd_Lacking_init := _, F_Lacking_init := fun_mk (st := s_Lacking_init) l_Lacking_init c_Lacking_init_ k_Lacking_init_, f_is_whole := f_is_whole, fd_is_whole := _, F_is_whole := fun_mk (st := s_is_whole) l_is_whole c_is_whole_ k_is_whole_, g_is_whole := PySem.W.mg_of X G a_is_whole, f_is_house := f_is_house, fd_is_house := _, F_is_house := fun_mk (st := s_is_house) l_is_house c_is_house_ k_is_house_, g_is_house := PySem.W.mg_of X G a_is_house, f_Ring_init := f_Ring_init, fd_Ring_init := _, F_Ring_init := fun_mk (st := s_Ring_init) l_Ring_init c_Ring_init_ k_Ring_init_, mk_Ring := ⟨mk_Ring, a_Ring_init, i_Ring_init, kp_Ring⟩, f_Ring_houses := f_Ring_houses, fd_Ring_houses := _, F_Ring_houses := fun_mk (st := s_Ring_houses) l_Ring_houses c_Ring_houses_ k_Ring_houses_, m_Ring_houses := ⟨a_Ring_houses, i_Ring_houses, k_Ring_houses_⟩, f_Ring_whole := f_Ring_whole, fd_Ring_whole := _, F_Ring_whole := fun_mk (st := s_Ring_whole) l_Ring_whole c_Ring_whole_ k_Ring_whole_, m_Ring_whole := ⟨a_Ring_whole, i_Ring_whole, k_Ring_whole_⟩, f_turned := f_turned, fd_turned := _, F_turned := fun_mk (st := s_turned) l_turned c_turned_ k_turned_, g_turned := PySem.W.mg_of X G a_turned, f_together := f_together, fd_together := _, F_together := fun_mk (st := s_together) l_together c_together_ k_together_, g_together := PySem.W.mg_of X G a_together, f_check_tolls := f_check_tolls, fd_check_tolls := _, F_check_tolls := fun_mk (st := s_check_tolls) l_check_tolls c_check_tolls_ k_check_tolls_, g_check_tolls := PySem.W.mg_of X G a_check_tolls, f_check_total := f_check_total, fd_check_total := _, F_check_total := fun_mk (st := s_check_total) l_check_total c_check_total_ k_check_total_, g_check_total := PySem.W.mg_of X G a_check_total, f_running := f_running, fd_running := _, F_running := fun_mk (st := s_running) l_running c_running_ k_running_, g_running := PySem.W.mg_of X G a_running, f_least := f_least, fd_least := _, F_least := fun_mk (st := s_least) l_least c_least_ k_least_, g_least := PySem.W.mg_of X G a_least, f_ends := f_ends, fd_ends := _, F_ends := fun_mk (st := s_ends) l_ends c_ends_ k_ends_, g_ends := PySem.W.mg_of X G a_ends, f_along := f_along, fd_along := _, F_along := fun_mk (st := s_along) l_along c_along_ k_along_, g_along := PySem.W.mg_of X G a_along, f_within := f_within, fd_within := _, F_within := fun_mk (st := s_within) l_within c_within_ k_within_, g_within := PySem.W.mg_of X G a_within, f_widest := f_widest, fd_widest := _, F_widest := fun_mk (st := s_widest) l_widest c_widest_ k_widest_, g_widest := PySem.W.mg_of X G a_widest, f_law_cell_at := f_law_cell_at, fd_law_cell_at := _, F_law_cell_at := fun_mk (st := s_law_cell_at) l_law_cell_at c_law_cell_at_ k_law_cell_at_, g_law_cell_at := PySem.W.mg_of X G a_law_cell_at, f_law_draw := f_law_draw, fd_law_draw := _, F_law_draw := fun_mk (st := s_law_draw) l_law_draw c_law_draw_ k_law_draw_, g_law_draw := PySem.W.mg_of X G a_law_draw, f_law_houses := f_law_houses, fd_law_houses := _, F_law_houses := fun_mk (st := s_law_houses) l_law_houses c_law_houses_ k_law_houses_, g_law_houses := PySem.W.mg_of X G a_law_houses, f_law_kinds := f_law_kinds, fd_law_kinds := _, F_law_kinds := fun_mk (st := s_law_kinds) l_law_kinds c_law_kinds_ k_law_kinds_, g_law_kinds := PySem.W.mg_of X G a_law_kinds, f_law_told := f_law_told, fd_law_told := _, F_law_told := fun_mk (st := s_law_told) l_law_told c_law_told_ k_law_told_, g_law_told := PySem.W.mg_of X G a_law_told, f_law_ring := f_law_ring, fd_law_ring := _, F_law_ring := fun_mk (st := s_law_ring) l_law_ring c_law_ring_ k_law_ring_, g_law_ring := PySem.W.mg_of X G a_law_ring, f_law_with_tolls := f_law_with_tolls, fd_law_with_tolls := _, F_law_with_tolls := fun_mk (st := s_law_with_tolls) l_law_with_tolls c_law_with_tolls_ k_law_with_tolls_, g_law_with_tolls := PySem.W.mg_of X G a_law_with_tolls, f_law_ends := f_law_ends, fd_law_ends := _, F_law_ends := fun_mk (st := s_law_ends) l_law_ends c_law_ends_ k_law_ends_, g_law_ends := PySem.W.mg_of X G a_law_ends, f_law_within := f_law_within, fd_law_within := _, F_law_within := fun_mk (st := s_law_within) l_law_within c_law_within_ k_law_within_, g_law_within := PySem.W.mg_of X G a_law_within, f_law_turned := f_law_turned, fd_law_turned := _, F_law_turned := fun_mk (st := s_law_turned) l_law_turned c_law_turned_ k_law_turned_, g_law_turned := PySem.W.mg_of X G a_law_turned, f_law_together := f_law_together, fd_law_together := _, F_law_together := fun_mk (st := s_law_together) l_law_together c_law_together_ k_law_together_, g_law_together := PySem.W.mg_of X G a_law_together, f_law_plain := f_law_plain, fd_law_plain := _, F_law_plain := fun_mk (st := s_law_plain) l_law_plain c_law_plain_ k_law_plain_, g_law_plain := PySem.W.mg_of X G a_law_plain, f_law_lack := f_law_lack, fd_law_lack := _, F_law_lack := fun_mk (st := s_law_lack) l_law_lack c_law_lack_ k_law_lack_, g_law_lack := PySem.W.mg_of X G a_law_lack, f_law_all := f_law_all, fd_law_all := _, F_law_all := fun_mk (st := s_law_all) l_law_all c_law_all_ k_law_all_, g_law_all := PySem.W.mg_of X G a_law_all, f_law_rings_right := f_law_rings_right, fd_law_rings_right := _, F_law_rings_right := fun_mk (st := s_law_rings_right) l_law_rings_right c_law_rings_right_ k_law_rings_right_, g_law_rings_right := PySem.W.mg_of X G a_law_rings_right, f_law_tolls_right := f_law_tolls_right, fd_law_tolls_right := _, F_law_tolls_right := fun_mk (st := s_law_tolls_right) l_law_tolls_right c_law_tolls_right_ k_law_tolls_right_, g_law_tolls_right := PySem.W.mg_of X G a_law_tolls_right, f_law_lacking_right := f_law_lacking_right, fd_law_lacking_right := _, F_law_lacking_right := fun_mk (st := s_law_lacking_right) l_law_lacking_right c_law_lacking_right_ k_law_lacking_right_, g_law_lacking_right := PySem.W.mg_of X G a_law_lacking_right, f_law := fa, fd_law := _, F_law := fun_mk (st := s_law) l_law c_law_ k_law_, g_law := PySem.W.mg_of X G a_law } { y0 := { C := { hg := ehg_BadRing, hk := ehk_BadRing, ha := eha_BadRing, hm := ehm_BadRing, hn := ehn, ht := eht, hs := be_BadRing, hd := hd_BadRing }, k0 := kit_BadRing_BadRing, k1 := kit_BadRing_BadTolls, k2 := kit_BadRing_BadMost, k3 := kit_BadRing_Unlike, k4 := kit_BadRing_Lacking, k5 := kit_BadRing_BadText, k6 := kit_BadRing_ValueError, ex := PySem.W.exm_ref be_RingError hd_RingError ty_RingError sx_BadRing_RingError, nV := PySem.W.mg_none_of X G z_ValueError }, y1 := { C := { hg := ehg_BadTolls, hk := ehk_BadTolls, ha := eha_BadTolls, hm := ehm_BadTolls, hn := ehn, ht := eht, hs := be_BadTolls, hd := hd_BadTolls }, k0 := kit_BadTolls_BadRing, k1 := kit_BadTolls_BadTolls, k2 := kit_BadTolls_BadMost, k3 := kit_BadTolls_Unlike, k4 := kit_BadTolls_Lacking, k5 := kit_BadTolls_BadText, k6 := kit_BadTolls_ValueError, ex := PySem.W.exm_ref be_RingError hd_RingError ty_RingError sx_BadTolls_RingError, nV := PySem.W.mg_none_of X G z_ValueError }, y2 := { C := { hg := ehg_BadMost, hk := ehk_BadMost, ha := eha_BadMost, hm := ehm_BadMost, hn := ehn, ht := eht, hs := be_BadMost, hd := hd_BadMost }, k0 := kit_BadMost_BadRing, k1 := kit_BadMost_BadTolls, k2 := kit_BadMost_BadMost, k3 := kit_BadMost_Unlike, k4 := kit_BadMost_Lacking, k5 := kit_BadMost_BadText, k6 := kit_BadMost_ValueError, ex := PySem.W.exm_ref be_RingError hd_RingError ty_RingError sx_BadMost_RingError, nV := PySem.W.mg_none_of X G z_ValueError }, y3 := { C := { hg := ehg_Unlike, hk := ehk_Unlike, ha := eha_Unlike, hm := ehm_Unlike, hn := ehn, ht := eht, hs := be_Unlike, hd := hd_Unlike }, k0 := kit_Unlike_BadRing, k1 := kit_Unlike_BadTolls, k2 := kit_Unlike_BadMost, k3 := kit_Unlike_Unlike, k4 := kit_Unlike_Lacking, k5 := kit_Unlike_BadText, k6 := kit_Unlike_ValueError, ex := PySem.W.exm_ref be_RingError hd_RingError ty_RingError sx_Unlike_RingError, nV := PySem.W.mg_none_of X G z_ValueError }, y4 := { C := { hg := ehg_Lacking, hk := ehk_Lacking, ha := eha_Lacking, hm := ehm_Lacking, hn := ehn, ht := eht, hs := be_Lacking, hd := hd_Lacking }, k0 := kit_Lacking_BadRing, k1 := kit_Lacking_BadTolls, k2 := kit_Lacking_BadMost, k3 := kit_Lacking_Unlike, k4 := kit_Lacking_Lacking, k5 := kit_Lacking_BadText, k6 := kit_Lacking_ValueError, ex := PySem.W.exm_ref be_RingError hd_RingError ty_RingError sx_Lacking_RingError, nV := PySem.W.mg_none_of X G z_ValueError }, te := PySem.W.exm_ref be_Lacking hd_Lacking ty_Lacking sx_Lacking_Lacking }⟩
end K7
open PySem PySem.W PyProof.Rows
set_option maxRecDepth 100000 in
set_option maxHeartbeats 0 in
theorem PySem.Challenge.cw_evenring_k07_refused_holds : PySem.Challenge.rw_evenring_k07_refused.Holds := by
  w_on; o_law; k_head; (case hw => w_witness2)
  k_fill
  refine L2.walk_of (l := PySem.Challenge.rw_evenring_k07_refused) (n := 63) (k := 10) (x := "_law_script") (CX := fun _ => L2.CX0) (sp := fun w => K7.sp_law0 _) rfl (by decide) rfl ⟨rfl, by decide, by decide⟩ (fun w h Y => PySem.W.kIn_of Y) ?F (fun _ _ a ns hl _ hS => ⟨a, ns, rfl, hS, hl, fun _ => rfl⟩) (fun _ _ _ _ _ h => h)
  case F =>
    intro w mg fa h KX G hmg
    refine' K7.all_mk KX G hmg ?z_abs ?z_all ?z_any ?z_bool ?z_int ?z_isinstance ?z_len ?z_list ?z_max ?z_min ?z_range ?z_sorted ?z_sum ?y_GREATEST_rings ?y_GREATEST_carrying ?a_RingError ?xx_RingError ?kc_RingError ?be_RingError ?ty_RingError ?hd_RingError ?a_BadRing ?xx_BadRing ?kc_BadRing ?be_BadRing ?ty_BadRing ?hd_BadRing ?a_BadTolls ?xx_BadTolls ?kc_BadTolls ?be_BadTolls ?ty_BadTolls ?hd_BadTolls ?a_BadMost ?xx_BadMost ?kc_BadMost ?be_BadMost ?ty_BadMost ?hd_BadMost ?a_Unlike ?xx_Unlike ?kc_Unlike ?be_Unlike ?ty_Unlike ?hd_Unlike ?a_Lacking ?kc_Lacking ?be_Lacking ?ty_Lacking ?hd_Lacking ?a_BadText ?xx_BadText ?kc_BadText ?be_BadText ?ty_BadText ?hd_BadText ?a_Ring ?pg_Ring ?hd_Ring ?po_Ring ?sa_Ring ?no_Ring_over ?ia_Ring ?ib_Ring ?ic_Ring ?id_Ring ?sg_RingError ?rd_RingError ?fc_RingError ?sx_BadRing_RingError ?sx_BadTolls_RingError ?sx_BadMost_RingError ?sx_Unlike_RingError ?sx_Lacking_RingError ?sx_Lacking_Lacking ?ehn ?eht ?z_ValueError ?ehg_BadRing ?ehk_BadRing ?eha_BadRing ?ehm_BadRing ?kit_BadRing_BadRing ?kit_BadRing_BadTolls ?kit_BadRing_BadMost ?kit_BadRing_Unlike ?kit_BadRing_Lacking ?kit_BadRing_BadText ?kit_BadRing_ValueError ?ehg_BadTolls ?ehk_BadTolls ?eha_BadTolls ?ehm_BadTolls ?kit_BadTolls_BadRing ?kit_BadTolls_BadTolls ?kit_BadTolls_BadMost ?kit_BadTolls_Unlike ?kit_BadTolls_Lacking ?kit_BadTolls_BadText ?kit_BadTolls_ValueError ?ehg_BadMost ?ehk_BadMost ?eha_BadMost ?ehm_BadMost ?kit_BadMost_BadRing ?kit_BadMost_BadTolls ?kit_BadMost_BadMost ?kit_BadMost_Unlike ?kit_BadMost_Lacking ?kit_BadMost_BadText ?kit_BadMost_ValueError ?ehg_Unlike ?ehk_Unlike ?eha_Unlike ?ehm_Unlike ?kit_Unlike_BadRing ?kit_Unlike_BadTolls ?kit_Unlike_BadMost ?kit_Unlike_Unlike ?kit_Unlike_Lacking ?kit_Unlike_BadText ?kit_Unlike_ValueError ?ehg_Lacking ?ehk_Lacking ?eha_Lacking ?ehm_Lacking ?kit_Lacking_BadRing ?kit_Lacking_BadTolls ?kit_Lacking_BadMost ?kit_Lacking_Unlike ?kit_Lacking_Lacking ?kit_Lacking_BadText ?kit_Lacking_ValueError ?xL_Lacking ?xsa_Lacking ?xga_Lacking ?xgg_Lacking ?a_Lacking_init ?t_Lacking_init ?no_Lacking_total ?l_Lacking_init ?c_Lacking_init_ ?k_Lacking_init_ ?a_is_whole ?l_is_whole ?c_is_whole_ ?k_is_whole_ ?a_is_house ?l_is_house ?c_is_house_ ?k_is_house_ ?a_Ring_init ?i_Ring_init ?l_Ring_init ?c_Ring_init_ ?k_Ring_init_ ?mk_Ring ?kp_Ring ?a_Ring_houses ?i_Ring_houses ?l_Ring_houses ?c_Ring_houses_ ?k_Ring_houses_ ?a_Ring_whole ?i_Ring_whole ?l_Ring_whole ?c_Ring_whole_ ?k_Ring_whole_ ?a_turned ?l_turned ?c_turned_ ?k_turned_ ?a_together ?l_together ?c_together_ ?k_together_ ?a_check_tolls ?l_check_tolls ?c_check_tolls_ ?k_check_tolls_ ?a_check_total ?l_check_total ?c_check_total_ ?k_check_total_ ?a_running ?l_running ?c_running_ ?k_running_ ?a_least ?l_least ?c_least_ ?k_least_ ?a_ends ?l_ends ?c_ends_ ?k_ends_ ?a_along ?l_along ?c_along_ ?k_along_ ?a_within ?l_within ?c_within_ ?k_within_ ?a_widest ?l_widest ?c_widest_ ?k_widest_ ?a_law_cell_at ?l_law_cell_at ?c_law_cell_at_ ?k_law_cell_at_ ?a_law_draw ?l_law_draw ?c_law_draw_ ?k_law_draw_ ?a_law_houses ?l_law_houses ?c_law_houses_ ?k_law_houses_ ?a_law_kinds ?l_law_kinds ?c_law_kinds_ ?k_law_kinds_ ?a_law_told ?l_law_told ?c_law_told_ ?k_law_told_ ?a_law_ring ?l_law_ring ?c_law_ring_ ?k_law_ring_ ?a_law_with_tolls ?l_law_with_tolls ?c_law_with_tolls_ ?k_law_with_tolls_ ?a_law_ends ?l_law_ends ?c_law_ends_ ?k_law_ends_ ?a_law_within ?l_law_within ?c_law_within_ ?k_law_within_ ?a_law_turned ?l_law_turned ?c_law_turned_ ?k_law_turned_ ?a_law_together ?l_law_together ?c_law_together_ ?k_law_together_ ?a_law_plain ?l_law_plain ?c_law_plain_ ?k_law_plain_ ?a_law_lack ?l_law_lack ?c_law_lack_ ?k_law_lack_ ?a_law_all ?l_law_all ?c_law_all_ ?k_law_all_ ?a_law_rings_right ?l_law_rings_right ?c_law_rings_right_ ?k_law_rings_right_ ?a_law_tolls_right ?l_law_tolls_right ?c_law_tolls_right_ ?k_law_tolls_right_ ?a_law_lacking_right ?l_law_lacking_right ?c_law_lacking_right_ ?k_law_lacking_right_ ?a_law ?l_law ?c_law_ ?k_law_
    (case z_abs => k_is)
    (case z_all => k_is)
    (case z_any => k_is)
    (case z_bool => k_is)
    (case z_int => k_is)
    (case z_isinstance => k_is)
    (case z_len => k_is)
    (case z_list => k_is)
    (case z_max => k_is)
    (case z_min => k_is)
    (case z_range => k_is)
    (case z_sorted => k_is)
    (case z_sum => k_is)
    (case y_GREATEST_rings => k_is)
    (case y_GREATEST_carrying => k_is)
    (case a_RingError => k_is)
    (case xx_RingError => k_exc)
    (case kc_RingError => k_is)
    (case be_RingError => k_is)
    (case ty_RingError => k_is)
    (case hd_RingError => k_is)
    (case a_BadRing => k_is)
    (case xx_BadRing => k_exc)
    (case kc_BadRing => k_is)
    (case be_BadRing => k_is)
    (case ty_BadRing => k_is)
    (case hd_BadRing => k_is)
    (case a_BadTolls => k_is)
    (case xx_BadTolls => k_exc)
    (case kc_BadTolls => k_is)
    (case be_BadTolls => k_is)
    (case ty_BadTolls => k_is)
    (case hd_BadTolls => k_is)
    (case a_BadMost => k_is)
    (case xx_BadMost => k_exc)
    (case kc_BadMost => k_is)
    (case be_BadMost => k_is)
    (case ty_BadMost => k_is)
    (case hd_BadMost => k_is)
    (case a_Unlike => k_is)
    (case xx_Unlike => k_exc)
    (case kc_Unlike => k_is)
    (case be_Unlike => k_is)
    (case ty_Unlike => k_is)
    (case hd_Unlike => k_is)
    (case a_Lacking => k_is)
    (case kc_Lacking => k_is)
    (case be_Lacking => k_is)
    (case ty_Lacking => k_is)
    (case hd_Lacking => k_is)
    (case a_BadText => k_is)
    (case xx_BadText => k_exc)
    (case kc_BadText => k_is)
    (case be_BadText => k_is)
    (case ty_BadText => k_is)
    (case hd_BadText => k_is)
    (case a_Ring => k_is)
    (case pg_Ring => k_is)
    (case hd_Ring => k_is)
    (case po_Ring => k_is)
    (case sa_Ring => k_is)
    (case no_Ring_over => k_is)
    (case ia_Ring => k_is)
    (case ib_Ring => k_is)
    (case ic_Ring => k_is)
    (case id_Ring => k_is)
    (case sg_RingError => k_is)
    (case rd_RingError => k_is)
    (case fc_RingError => k_is)
    (case sx_BadRing_RingError => k_is)
    (case sx_BadTolls_RingError => k_is)
    (case sx_BadMost_RingError => k_is)
    (case sx_Unlike_RingError => k_is)
    (case sx_Lacking_RingError => k_is)
    (case sx_Lacking_Lacking => k_is)
    (case ehn => k_is)
    (case eht => k_is)
    (case z_ValueError => k_is)
    (case ehg_BadRing => k_is)
    (case ehk_BadRing => k_is)
    (case eha_BadRing => k_is)
    (case ehm_BadRing => k_is)
    (case kit_BadRing_BadRing => kit_is)
    (case kit_BadRing_BadTolls => kit_is)
    (case kit_BadRing_BadMost => kit_is)
    (case kit_BadRing_Unlike => kit_is)
    (case kit_BadRing_Lacking => kit_is)
    (case kit_BadRing_BadText => kit_is)
    (case kit_BadRing_ValueError => kit_is)
    (case ehg_BadTolls => k_is)
    (case ehk_BadTolls => k_is)
    (case eha_BadTolls => k_is)
    (case ehm_BadTolls => k_is)
    (case kit_BadTolls_BadRing => kit_is)
    (case kit_BadTolls_BadTolls => kit_is)
    (case kit_BadTolls_BadMost => kit_is)
    (case kit_BadTolls_Unlike => kit_is)
    (case kit_BadTolls_Lacking => kit_is)
    (case kit_BadTolls_BadText => kit_is)
    (case kit_BadTolls_ValueError => kit_is)
    (case ehg_BadMost => k_is)
    (case ehk_BadMost => k_is)
    (case eha_BadMost => k_is)
    (case ehm_BadMost => k_is)
    (case kit_BadMost_BadRing => kit_is)
    (case kit_BadMost_BadTolls => kit_is)
    (case kit_BadMost_BadMost => kit_is)
    (case kit_BadMost_Unlike => kit_is)
    (case kit_BadMost_Lacking => kit_is)
    (case kit_BadMost_BadText => kit_is)
    (case kit_BadMost_ValueError => kit_is)
    (case ehg_Unlike => k_is)
    (case ehk_Unlike => k_is)
    (case eha_Unlike => k_is)
    (case ehm_Unlike => k_is)
    (case kit_Unlike_BadRing => kit_is)
    (case kit_Unlike_BadTolls => kit_is)
    (case kit_Unlike_BadMost => kit_is)
    (case kit_Unlike_Unlike => kit_is)
    (case kit_Unlike_Lacking => kit_is)
    (case kit_Unlike_BadText => kit_is)
    (case kit_Unlike_ValueError => kit_is)
    (case ehg_Lacking => k_is)
    (case ehk_Lacking => k_is)
    (case eha_Lacking => k_is)
    (case ehm_Lacking => k_is)
    (case kit_Lacking_BadRing => kit_is)
    (case kit_Lacking_BadTolls => kit_is)
    (case kit_Lacking_BadMost => kit_is)
    (case kit_Lacking_Unlike => kit_is)
    (case kit_Lacking_Lacking => kit_is)
    (case kit_Lacking_BadText => kit_is)
    (case kit_Lacking_ValueError => kit_is)
    (case xL_Lacking => k_is)
    (case xsa_Lacking => k_is)
    (case xga_Lacking => k_is)
    (case xgg_Lacking => k_is)
    (case a_Lacking_init => k_is)
    (case t_Lacking_init => k_is)
    (case no_Lacking_total => k_is)
    (case l_Lacking_init => k_is)
    (case c_Lacking_init_ => k_is)
    (case k_Lacking_init_ => k_is)
    (case a_is_whole => k_is)
    (case l_is_whole => k_is)
    (case c_is_whole_ => k_is)
    (case k_is_whole_ => k_is)
    (case a_is_house => k_is)
    (case l_is_house => k_is)
    (case c_is_house_ => k_is)
    (case k_is_house_ => k_is)
    (case a_Ring_init => k_is)
    (case i_Ring_init => k_is)
    (case l_Ring_init => k_is)
    (case c_Ring_init_ => k_is)
    (case k_Ring_init_ => k_is)
    (case mk_Ring => k_is)
    (case kp_Ring => k_is)
    (case a_Ring_houses => k_is)
    (case i_Ring_houses => k_is)
    (case l_Ring_houses => k_is)
    (case c_Ring_houses_ => k_is)
    (case k_Ring_houses_ => k_is)
    (case a_Ring_whole => k_is)
    (case i_Ring_whole => k_is)
    (case l_Ring_whole => k_is)
    (case c_Ring_whole_ => k_is)
    (case k_Ring_whole_ => k_is)
    (case a_turned => k_is)
    (case l_turned => k_is)
    (case c_turned_ => k_is)
    (case k_turned_ => k_is)
    (case a_together => k_is)
    (case l_together => k_is)
    (case c_together_ => k_is)
    (case k_together_ => k_is)
    (case a_check_tolls => k_is)
    (case l_check_tolls => k_is)
    (case c_check_tolls_ => k_is)
    (case k_check_tolls_ => k_is)
    (case a_check_total => k_is)
    (case l_check_total => k_is)
    (case c_check_total_ => k_is)
    (case k_check_total_ => k_is)
    (case a_running => k_is)
    (case l_running => k_is)
    (case c_running_ => k_is)
    (case k_running_ => k_is)
    (case a_least => k_is)
    (case l_least => k_is)
    (case c_least_ => k_is)
    (case k_least_ => k_is)
    (case a_ends => k_is)
    (case l_ends => k_is)
    (case c_ends_ => k_is)
    (case k_ends_ => k_is)
    (case a_along => k_is)
    (case l_along => k_is)
    (case c_along_ => k_is)
    (case k_along_ => k_is)
    (case a_within => k_is)
    (case l_within => k_is)
    (case c_within_ => k_is)
    (case k_within_ => k_is)
    (case a_widest => k_is)
    (case l_widest => k_is)
    (case c_widest_ => k_is)
    (case k_widest_ => k_is)
    (case a_law_cell_at => k_is)
    (case l_law_cell_at => k_is)
    (case c_law_cell_at_ => k_is)
    (case k_law_cell_at_ => k_is)
    (case a_law_draw => k_is)
    (case l_law_draw => k_is)
    (case c_law_draw_ => k_is)
    (case k_law_draw_ => k_is)
    (case a_law_houses => k_is)
    (case l_law_houses => k_is)
    (case c_law_houses_ => k_is)
    (case k_law_houses_ => k_is)
    (case a_law_kinds => k_is)
    (case l_law_kinds => k_is)
    (case c_law_kinds_ => k_is)
    (case k_law_kinds_ => k_is)
    (case a_law_told => k_is)
    (case l_law_told => k_is)
    (case c_law_told_ => k_is)
    (case k_law_told_ => k_is)
    (case a_law_ring => k_is)
    (case l_law_ring => k_is)
    (case c_law_ring_ => k_is)
    (case k_law_ring_ => k_is)
    (case a_law_with_tolls => k_is)
    (case l_law_with_tolls => k_is)
    (case c_law_with_tolls_ => k_is)
    (case k_law_with_tolls_ => k_is)
    (case a_law_ends => k_is)
    (case l_law_ends => k_is)
    (case c_law_ends_ => k_is)
    (case k_law_ends_ => k_is)
    (case a_law_within => k_is)
    (case l_law_within => k_is)
    (case c_law_within_ => k_is)
    (case k_law_within_ => k_is)
    (case a_law_turned => k_is)
    (case l_law_turned => k_is)
    (case c_law_turned_ => k_is)
    (case k_law_turned_ => k_is)
    (case a_law_together => k_is)
    (case l_law_together => k_is)
    (case c_law_together_ => k_is)
    (case k_law_together_ => k_is)
    (case a_law_plain => k_is)
    (case l_law_plain => k_is)
    (case c_law_plain_ => k_is)
    (case k_law_plain_ => k_is)
    (case a_law_lack => k_is)
    (case l_law_lack => k_is)
    (case c_law_lack_ => k_is)
    (case k_law_lack_ => k_is)
    (case a_law_all => k_is)
    (case l_law_all => k_is)
    (case c_law_all_ => k_is)
    (case k_law_all_ => k_is)
    (case a_law_rings_right => k_is)
    (case l_law_rings_right => k_is)
    (case c_law_rings_right_ => k_is)
    (case k_law_rings_right_ => k_is)
    (case a_law_tolls_right => k_is)
    (case l_law_tolls_right => k_is)
    (case c_law_tolls_right_ => k_is)
    (case k_law_tolls_right_ => k_is)
    (case a_law_lacking_right => k_is)
    (case l_law_lacking_right => k_is)
    (case c_law_lacking_right_ => k_is)
    (case k_law_lacking_right_ => k_is)
    (case a_law => k_is)
    (case l_law => k_is)
    (case c_law_ => k_is)
    (case k_law_ => k_is)
#print axioms PySem.Challenge.cw_evenring_k07_refused_holds
