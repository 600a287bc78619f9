import PyProof.Rows.All
import Wide.All
import OpenK.AllK
import Wide.FinOn
import HandS.ForMost
import HandS.Walk
import HandS.NoneIn
import HandS.Replace
import HandS.IsInst
import PySem.Challenge.RW_relayholds_k51_tables_told
set_option Elab.async false
set_option linter.all false
set_option maxRecDepth 100000
set_option maxHeartbeats 4000000
namespace G
open PySem L2
/-! ### the layer's rules, their readings with names of their own at the head -/
def rLenL (K : PySem.W.Frag) : List V → Hp → VK → Prop := fun xs H Q => ∃ p ys, xs = [V.ref p] ∧ (SqL K H p ys ∨ SqT K H p ys) ∧ Q (.int (ys.length : Int)) H
def rListQ (K : PySem.W.Frag) : List V → Hp → VK → Prop := fun xs H Q => ∃ p ys, xs = [V.ref p] ∧ (SqL K H p ys ∨ SqT K H p ys) ∧ ∀ l, H l = none → Q (.ref l) (upd H l (.lst ys))
def rTupQ (K : PySem.W.Frag) : List V → Hp → VK → Prop := fun xs H Q => ∃ p ys, xs = [V.ref p] ∧ ((SqL K H p ys ∧ ∀ l, H l = none → Q (.ref l) (upd H l (.tup ys))) ∨ (SqT K H p ys ∧ Q (.ref p) H))
def rDivm : List V → Hp → VK → Prop := fun xs H Q => ∃ i j, xs = [.int i, .int j] ∧ CDiv i j ∧ ∀ p, H p = none → Q (.ref p) (upd H p (.tup [.int (i / j), .int (i % j)]))
def rJoin (K : PySem.W.Frag) : V → List V → Hp → VK → Prop := fun x xs H Q => ∃ a p, ∃ ys : List Str, x = .str a ∧ xs = [.ref p] ∧ (SqL K H p (ys.map V.str) ∨ SqT K H p (ys.map V.str)) ∧
    (ys.map (·.length)).sum + ys.length * a.length ≤ 16777216 ∧ Q (.str (Txt.join a ys)) H
def rInSg : R2 := fun x y H Q => ∃ (c : Nat) (z : Str), x = .str ⟨#[c]⟩ ∧ y = .str z ∧ Q (.bl (decide (c ∈ z.cps.toList))) H
def rNotInSg : R2 := fun x y H Q => ∃ (c : Nat) (z : Str), x = .str ⟨#[c]⟩ ∧ y = .str z ∧ Q (.bl (!decide (c ∈ z.cps.toList))) H
def rFld (K : PySem.W.Frag) (f : Str) : V → Hp → VK → Prop := fun x H Q => ∃ a C dx fs v, x = .ref a ∧ H a = some (.ins C dx fs) ∧ Cls K C ∧ NoAttr K C f ∧ fs.lookup f = some v ∧ Q v H
def rMkT (xs : List V) : Hp → VK → Prop := fun H Q => xs.length ≤ sizeLine ∧ ∀ p, H p = none → Q (.ref p) (upd H p (.tup xs))
def rMkL (xs : List V) : Hp → VK → Prop := fun H Q => xs.length ≤ sizeLine ∧ ∀ p, H p = none → Q (.ref p) (upd H p (.lst xs))
/-- what a comprehension asks of its walk -/
def LcQ (g : TG) (tt : TT) (te : TE) (vs : List Nat) (σ : L2.St) (Q : VK) (J : It) (H1 : Hp) : Prop :=
  ∀ D, H1 D = none → ∃ W : Nat → Nat → Hp → Prop, (∃ m, W 0 m (upd H1 D (.lst []))) ∧ ∀ i m H, W i m H →
    (J.stop i H ∧ Q (.ref D) H) ∨ (J.go i H ∧ ∃ Nx : Hp → Prop, (∀ H', Nx H' → ∃ m', m' < m ∧ W (i + 1) m' H') ∧ ∀ x H', J.yld i H x H' → g x (wipe σ vs) H' fun σ2 H2 => wipe σ2 vs = wipe σ vs ∧ tt σ2 H2 fun b H3 =>
      if b = true then te σ2 H3 fun y H4 => ∃ acc, H4 D = some (.lst acc) ∧ acc.length < sizeLine ∧ Nx (upd H4 D (.lst (acc ++ [y]))) else Nx H3)
/-- what a for asks of its walk -/
def ForQ (g : TG) (tb : TS) (D : Ends) (σ : L2.St) (J : It) (H1 : Hp) : Prop :=
  ∃ W : Nat → Nat → L2.St → Hp → Prop, (∃ m, W 0 m σ H1) ∧ ∀ i m σ H, W i m σ H →
    (J.stop i H ∧ D.nx σ H) ∨ (J.go i H ∧ ∃ N : L2.St → Hp → Prop, (∀ σ' H', N σ' H' → ∃ m', m' < m ∧ W (i + 1) m' σ' H') ∧ ∀ x H', J.yld i H x H' → g x σ H' fun σ2 H2 => tb { D with nx := N, ct := N, bk := D.nx } σ2 H2)
section
open PySem.Spec PyProof.Rows
variable {X : Cx}
theorem qe_int {i j pos} : PE X (.Constant (.int i) j pos) (fun _ H Q => Q (.int i) H) := pe_int
theorem qe_bl {b j pos} : PE X (.Constant (.bool b) j pos) (fun _ H Q => Q (.bl b) H) := pe_bl
theorem qe_non {j pos} : PE X (.Constant .none j pos) (fun _ H Q => Q .non H) := pe_non
theorem qe_str {x j pos} : PE X (.Constant (.str x) j pos) (fun _ H Q => Q (.str x) H) := pe_str
theorem qe_gi {x : Str} {n : Int} {pos : Pos} (hg : Gl X x) (h : ∃ t, X.mg x = some (.int n t)) (hd : (x == ("__debug__" : Str)) = false := by decide) : PE X (.Name x pos) (fun _ H Q => Q (.int n) H) := by
  obtain ⟨t, h⟩ := h
  exact pe_glob hg h ⟨t, rfl⟩ hd
theorem qe_gs {x z : Str} {pos : Pos} (hg : Gl X x) (h : ∃ t, X.mg x = some (.str z t)) (hd : (x == ("__debug__" : Str)) = false := by decide) : PE X (.Name x pos) (fun _ H Q => Q (.str z) H) := by
  obtain ⟨t, h⟩ := h
  exact pe_glob hg h ⟨t, rfl⟩ hd
theorem q_len : CallR X (.builtin "len") (rLenL X.K) := call_len_seq
theorem q_list : CallR X (.type "list") (rListQ X.K) := call_list_of
theorem q_tuple : CallR X (.type "tuple") (rTupQ X.K) := call_tuple_of
theorem q_divmod : CallR X (.builtin "divmod") rDivm := call_divmod
theorem q_inS : OpR X (compareOp .In) rInSg := op_in_sign
theorem q_notInS : OpR X (compareOp .NotIn) rNotInSg := op_notIn_sign
variable {e : Expr} {es : List Expr} {te : TE} {t : TA} {f : Str} {pos : Pos}
theorem qe_fld (he : PE X e te) (hb : attributeBase e f X.env (eval e X.env) = eval e X.env) : PE X (.Attribute e f pos) (fun σ H Q => te σ H fun x H1 => rFld X.K f x H1 Q) := pe_fld he hb
theorem qe_tup {x1} (h : PA X es t) : PE X (.Tuple es x1 pos) (fun σ H Q => t σ H fun xs H1 => rMkT xs H1 Q) := pe_tup h
theorem qe_lst (h : PA X es t) : PE X (.List es pos) (fun σ H Q => t σ H fun xs H1 => rMkL xs H1 Q) := pe_lst h
theorem qe_join {o : Expr} {to : TE} {apos : Pos} (ho : PE X o to) (he : PE X e te) (hs : starEach [e] X.env = [(false, eval e X.env)] := by rfl) (hbase : attributeBase o "join" X.env (eval o X.env) = eval o X.env := by rfl) (hline : (apos.endLine == pos.line) = true := by rfl) :
    PE X (.Call (.Attribute o "join" apos) [e] [] pos) (fun σ H Q => to σ H fun x H1 => (∃ a, x = .str a) ∧ te σ H1 fun y H2 => rJoin X.K x [y] H2 Q) := pe_join ho he hs hbase hline
theorem qe_lc {elt tg iter : Expr} {ifs : List Expr} {scope : Scope} {own : List (Str × Nat)} {pos : Pos} {wi : TI} {g : TG} {tt : TT} {te : TE} (hc : X.calm = true) (hN : X.N.Nodup) (hi : PI X tg iter wi) (ok : BlkOk X.N X.env.scope scope own)
    (hg : ∀ (s : Shared) (H : Hp) (C : Addr) (cl : List (Str × Addr)) (fp : List Addr), PG (X.blk s H scope (compEnvC scope cl C X.env) fp) tg g) (ht : ∀ (s : Shared) (H : Hp) (C : Addr) (cl : List (Str × Addr)) (fp : List Addr), PTs (X.blk s H scope (compEnvC scope cl C X.env) fp) ifs tt)
    (he : ∀ (s : Shared) (H : Hp) (C : Addr) (cl : List (Str × Addr)) (fp : List Addr), PE (X.blk s H scope (compEnvC scope cl C X.env) fp) elt te) (hs : ∀ x, foldedSetIterable iter X.env x = pure x := by intro _; rfl) :
    PE X (.ListComp elt [⟨tg, iter, ifs, 0⟩] scope pos) (fun σ H Q => wi σ H (LcQ g tt te (own.map (·.2)) σ Q)) := pe_lc hc hN hi ok hg ht he hs
theorem qs_setLc {i : Nat} {y : Str} {py : Pos} {elt tg iter : Expr} {ifs : List Expr} {scope : Scope} {own : List (Str × Nat)} {pos spos : Pos} {wi : TI} {g : TG} {tt : TT} {te : TE} (hc : X.calm = true) (hN : X.N.Nodup) (hy : X.N[i]? = some y) (hyl : X.env.scope.names.lookup y = some .local)
    (hsw : swapsWith (.ListComp elt [⟨tg, iter, ifs, 0⟩] scope pos) (some (.Name y py)) spos.line X.env = pure true) (hi : PI X tg iter wi) (ok : BlkOk X.N X.env.scope scope own)
    (hg : ∀ (s : Shared) (H : Hp) (C : Addr) (cl : List (Str × Addr)) (fp : List Addr), PG (X.blk s H scope (compEnvC scope cl C X.env) fp) tg g) (ht : ∀ (s : Shared) (H : Hp) (C : Addr) (cl : List (Str × Addr)) (fp : List Addr), PTs (X.blk s H scope (compEnvC scope cl C X.env) fp) ifs tt)
    (he : ∀ (s : Shared) (H : Hp) (C : Addr) (cl : List (Str × Addr)) (fp : List Addr), PE (X.blk s H scope (compEnvC scope cl C X.env) fp) elt te) (hs : ∀ x, foldedSetIterable iter X.env x = pure x := by intro _; rfl) :
    PS X (.Assign [.Name y py] (.ListComp elt [⟨tg, iter, ifs, 0⟩] scope pos) spos) (fun D σ H => wi σ H (LcQ g tt te (own.map (·.2)) σ fun x H1 => D.nx (σ.set i (some x)) H1)) := ps_setLc hc hN hy hyl hsw hi ok hg ht he hs
theorem qs_for {tg iter : Expr} {body : List Stmt} {wi : TI} {g : TG} {tb : TS} {pos : Pos} (hp : PassesOwn (model X.prog X.w) X.A X.env X.xe) (hc : X.calm = true) (hi : PI X tg iter wi) (hg : PG X tg g) (hb : PSs X body tb)
    (hs : ∀ x, foldedSetIterable iter X.env x = pure x := by intro _; rfl) : PS X (.For tg iter body [] pos) (fun D σ H => wi σ H (ForQ g tb D σ)) := ps_for hp hc hi hg hb hs
end
/-! ### readings told as functions: the head of what is asked shows by itself -/
section
variable {X : Cx} {e : Expr} {es : List Expr} {ta tb tc te tl0 : TE} {t u : TA} {r r' : R2} {g : TG} {st : Stmt} {sts : List Stmt} {w v0 : TS} {tA tB' : TT} {oe : Option Expr} {tlo thi : TO} {tg : Expr}
theorem lOp (h : PE X e (tOp r ta tb)) : PE X e (fun σ H Q => ta σ H fun x H1 => tb σ H1 fun y H2 => r x y H2 Q) := h
theorem lUn {r : V → Hp → VK → Prop} (h : PE X e (tUn r ta)) : PE X e (fun σ H Q => ta σ H fun x H1 => r x H1 Q) := h
theorem lOpT (h : PT X e (tTest (tOp r ta tb))) : PT X e (fun σ H Q => ta σ H fun x H1 => tb σ H1 fun y H2 => r x y H2 fun z H3 => ∃ k, z = .bl k ∧ Q k H3) := h
theorem lCmp {p : Int → Int → Bool} (h : PE X e (tCmp p ta tb)) : PE X e (fun σ H Q => ta σ H fun x H1 => tb σ H1 fun y H2 => ∃ i j, x = .int i ∧ y = .int j ∧ Q (.bl (p i j)) H2) := h
theorem lCmpT {p : Int → Int → Bool} (h : PT X e (tB (tCmp p ta tb))) : PT X e (fun σ H Q => ta σ H fun x H1 => tb σ H1 fun y H2 => ∃ i j, x = .int i ∧ y = .int j ∧ ∃ k, V.bl (p i j) = .bl k ∧ Q k H2) := h
theorem lVal (h : PT X e (tB ta)) : PT X e (fun σ H Q => ta σ H fun x H1 => ∃ c, x = .bl c ∧ Q c H1) := h
theorem lNotV (h : PE X e (tNotV ta)) : PE X e (fun σ H Q => ta σ H fun x H1 => ∃ c, x = .bl c ∧ Q (.bl (!c)) H1) := h
theorem lNot (h : PT X e (tNot tA)) : PT X e (fun σ H Q => tA σ H fun c H1 => Q (!c) H1) := h
theorem lAndV (h : PE X e (tAndV ta tb)) : PE X e (fun σ H Q => ta σ H fun x H1 => ∃ c, x = .bl c ∧ if c = true then tb σ H1 Q else Q (.bl false) H1) := h
theorem lOrV (h : PE X e (tOrV ta tb)) : PE X e (fun σ H Q => ta σ H fun x H1 => ∃ c, x = .bl c ∧ if c = true then Q (.bl true) H1 else tb σ H1 Q) := h
theorem lAnd (h : PW X e (tAnd tA tB')) : PW X e (fun σ H Q => tA σ H fun c H1 => if c = true then tB' σ H1 Q else Q false H1) := h
theorem lOr (h : PW X e (tOr tA tB')) : PW X e (fun σ H Q => tA σ H fun c H1 => if c = true then Q true H1 else tB' σ H1 Q) := h
theorem lIfE (h : PE X e (tIf tA ta tb)) : PE X e (fun σ H Q => tA σ H fun c H1 => if c = true then ta σ H1 Q else tb σ H1 Q) := h
theorem lChain (h : PE X e (tChain r r' ta tb tc)) : PE X e (fun σ H Q => ta σ H fun x H1 => tb σ H1 fun y H2 => r x y H2 fun z H3 => ∃ k, z = .bl k ∧ (if k = true then tc σ H3 fun w' H4 => r' y w' H4 Q else Q (.bl false) H3)) := h
theorem lChainT (h : PT X e (tTest (tChain r r' ta tb tc))) : PT X e (fun σ H Q => ta σ H fun x H1 => tb σ H1 fun y H2 => r x y H2 fun z H3 => ∃ k, z = .bl k ∧
    (if k = true then tc σ H3 fun w' H4 => r' y w' H4 fun z2 H5 => ∃ k2, z2 = .bl k2 ∧ Q k2 H5 else ∃ k2, V.bl false = .bl k2 ∧ Q k2 H3)) := h
theorem lSl {r : V → Option Int → Option Int → Hp → VK → Prop} (h : PE X e (L2.tSl r te tlo thi)) : PE X e (fun σ H Q => te σ H fun x H1 => tlo σ H1 fun l H2 => thi σ H2 fun u H3 => r x l u H3 Q) := h
theorem lNoPart (h : PO X oe tNoPart) : PO X oe (fun _ H Q => Q none H) := h
theorem lPart (h : PO X oe (tPart te)) : PO X oe (fun σ H Q => te σ H fun x H1 => ∃ i, x = .int i ∧ Q (some i) H1) := h
theorem lNil (h : PA X es tNil) : PA X es (fun _ H Q => Q [] H) := h
theorem lCons (h : PA X es (tCons te t)) : PA X es (fun σ H Q => te σ H fun x H1 => t σ H1 fun xs H2 => Q (x :: xs) H2) := h
theorem lCB {r : List V → Hp → VK → Prop} (h : PE X e (tCB r t)) : PE X e (fun σ H Q => t σ H fun vs H1 => r vs H1 Q) := h
theorem lBM {K : PySem.W.Frag} {T : String} {r : V → List V → Hp → VK → Prop} (h : PE X e (tBM K T r te t)) : PE X e (fun σ H Q => te σ H fun x H1 => tyV K T x H1 ∧ t σ H1 fun xs H2 => r x xs H2 Q) := h
theorem lBM0 {K : PySem.W.Frag} {T : String} {r : V → List V → Hp → VK → Prop} (h : PE X e (tBM0 K T r te)) : PE X e (fun σ H Q => te σ H fun x H1 => tyV K T x H1 ∧ r x [] H1 Q) := h
theorem lM1 {r : V → List V → Hp → VK → Prop} (h : PE X e (tM1 r ta te)) : PE X e (fun σ H Q => ta σ H fun x H1 => (∃ a, x = .str a) ∧ te σ H1 fun y H2 => r x [y] H2 Q) := h
theorem lCall {sp : Sp} {dvs : List V} {E : XK} (h : PE X e (tCall sp dvs E t)) : PE X e (fun σ H Q => t σ H fun vs H1 => sp (vs ++ dvs) H1 Q E) := h
theorem lCall0 {sp : Sp} {dvs : List V} {E : XK} (h : PE X e (tCall sp dvs E tNil)) : PE X e (fun _ H Q => sp ([] ++ dvs) H Q E) := h
theorem lMeth {C : Addr} {m : Str} {sp : Sp} {dvs : List V} {E : XK} (h : PE X e (tMeth C m sp dvs E ta t)) : PE X e (fun σ H Q => ta σ H fun x H1 => ∃ a dx fs, x = .ref a ∧ H1 a = some (.ins C dx fs) ∧ fs.lookup m = none ∧ t σ H1 fun vs H2 => sp (x :: (vs ++ dvs)) H2 Q E) := h
theorem lMeth0 {C : Addr} {m : Str} {sp : Sp} {dvs : List V} {E : XK} (h : PE X e (tMeth C m sp dvs E ta tNil)) : PE X e (fun σ H Q => ta σ H fun x H1 => ∃ a dx fs, x = .ref a ∧ H1 a = some (.ins C dx fs) ∧ fs.lookup m = none ∧ sp (x :: ([] ++ dvs)) H1 Q E) := h
theorem lMake {C : Addr} {sp : Sp} {dvs : List V} {E : XK} (h : PE X e (tMake C sp dvs E t)) : PE X e (fun σ H Q => t σ H fun vs H1 => ∀ x dx, H1 x = none → H1 dx = none → dx ≠ x →
    sp (.ref x :: (vs ++ dvs)) (upd (upd H1 dx (.own x)) x (.ins C dx [])) (fun v H2 => v = .non ∧ Q (.ref x) H2) E) := h
theorem lMake0 {C : Addr} {sp : Sp} {dvs : List V} {E : XK} (h : PE X e (tMake C sp dvs E tNil)) : PE X e (fun _ H Q => ∀ x dx, H x = none → H dx = none → dx ≠ x →
    sp (.ref x :: ([] ++ dvs)) (upd (upd H dx (.own x)) x (.ins C dx [])) (fun v H2 => v = .non ∧ Q (.ref x) H2) E) := h
theorem lNext (h : PSs X sts tNext) : PSs X sts (fun D σ H => D.nx σ H) := h
theorem lPass (h : PS X st tNext) : PS X st (fun D σ H => D.nx σ H) := h
theorem lSeq (h : PSs X sts (tSeq w v0)) : PSs X sts (fun D σ H => w { D with nx := v0 D } σ H) := h
theorem lBreak (h : PS X st tBreak) : PS X st (fun D σ H => D.bk σ H) := h
theorem lCont (h : PS X st tCont) : PS X st (fun D σ H => D.ct σ H) := h
theorem lDrop (h : PS X st (tDrop te)) : PS X st (fun D σ H => te σ H fun _ H1 => D.nx σ H1) := h
theorem lRet (h : PS X st (tRet te)) : PS X st (fun D σ H => te σ H D.rt) := h
theorem lRetN (h : PS X st tRetN) : PS X st (fun D _ H => D.rt .non H) := h
theorem lIf (h : PS X st (tIfS tA w v0)) : PS X st (fun D σ H => tA σ H fun b H1 => if b = true then w D σ H1 else v0 D σ H1) := h
theorem lAsg (h : PS X st (tAsg te g)) : PS X st (fun D σ H => te σ H fun x H1 => g x σ H1 D.nx) := h
theorem lSet {i : Nat} (h : PS X st (tAsg te (gName i))) : PS X st (fun D σ H => te σ H fun x H1 => D.nx (σ.set i (some x)) H1) := h
theorem lPar {i j : Nat} (h : PS X st (tPar i j t)) : PS X st (fun D σ H => t σ H fun vs H1 => ∃ v w, vs = [v, w] ∧ D.nx ((σ.set i (some v)).set j (some w)) H1) := h
theorem lName {i : Nat} (h : PG X tg (gName i)) : PG X tg (fun v σ H Q => Q (σ.set i (some v)) H) := h
theorem lSubG {ts : TSet} (h : PG X tg (gSub ta tb ts)) : PG X tg (fun v σ H Q => ta σ H fun o H1 => tb σ H1 fun i H2 => ts o i v H2 fun H3 => Q σ H3) := h
theorem lGNil (h : PGs X es gNil) : PGs X es (fun vs σ H Q => vs = [] ∧ Q σ H) := h
theorem lGCons {t : TG} {u : TGs} (h : PGs X es (gCons t u)) : PGs X es (fun vs σ H Q => ∃ v r, vs = v :: r ∧ t v σ H fun σ' H' => u r σ' H' Q) := h
theorem lIList {K : PySem.W.Frag} (h : PI X tg e (iList K te)) : PI X tg e (fun σ H R => te σ H fun x H1 => ∃ a, x = .ref a ∧ (∃ xs, SqL K H1 a xs) ∧ R (Itl K a) H1) := h
theorem lITup {K : PySem.W.Frag} (h : PI X tg e (iTup K te)) : PI X tg e (fun σ H R => te σ H fun x H1 => ∃ a, x = .ref a ∧ (∃ xs, SqT K H1 a xs) ∧ R (Itt K a) H1) := h
theorem lIStr (h : PI X tg e (iStr te)) : PI X tg e (fun σ H R => te σ H fun v H1 => ∃ x, v = .str x ∧ R (Its x) H1) := h
theorem lIRng1 (h : PI X tg e (iRng1 t)) : PI X tg e (fun σ H R => t σ H fun vs H1 => ∃ j : Int, vs = [.int j] ∧ -(2 ^ 62) ≤ j ∧ j < 2 ^ 62 ∧ R (Itr 0 j.toNat) H1) := h
theorem lIRng2 (h : PI X tg e (iRng2 t)) : PI X tg e (fun σ H R => t σ H fun vs H1 => ∃ i j : Int, vs = [.int i, .int j] ∧ (-(2 ^ 62) ≤ i ∧ i < 2 ^ 62 ∧ -(2 ^ 62) ≤ j ∧ j < 2 ^ 62) ∧ R (Itr i (j - i).toNat) H1) := h
theorem lIEnum {K : PySem.W.Frag} (h : PI X tg e (iEnum K t)) : PI X tg e (fun σ H R => t σ H fun vs H1 => ∃ a xs, vs = [.ref a] ∧ SqL K H1 a xs ∧ R (Ite K a) H1) := h
theorem lIZip {K : PySem.W.Frag} (h : PI X tg e (iZip K t)) : PI X tg e (fun σ H R => t σ H fun vs H1 => ∃ a b xs ys, vs = [.ref a, .ref b] ∧ SqL K H1 a xs ∧ SqL K H1 b ys ∧ R (Itz K a b) H1) := h
theorem qv {i : Nat} (h : PE X e (tVar i)) : PE X e (fun σ H Q => ∃ v, σ[i]? = some (some v) ∧ Q v H) := h
variable {K : PySem.W.Frag}
theorem kix_list (h : X.K = K) : IxR X (rIxL K) := h ▸ ix_list
theorem kix_tup (h : X.K = K) : IxR X (rIxT K) := h ▸ ix_tup
theorem ksl_list (h : X.K = K) : SlR X (rSlL K) := h ▸ sl_list
theorem ksl_tup (h : X.K = K) : SlR X (rSlT K) := h ▸ sl_tup
theorem kq_len (h : X.K = K) : CallR X (.builtin "len") (rLenL K) := h ▸ q_len
theorem kq_list (h : X.K = K) : CallR X (.type "list") (rListQ K) := h ▸ q_list
theorem kq_tuple (h : X.K = K) : CallR X (.type "tuple") (rTupQ K) := h ▸ q_tuple
theorem kcr_all (h : X.K = K) (hc : X.calm = true) : CallR X (.builtin "all") (rAll K) := h ▸ cr_all hc
theorem kcr_any (h : X.K = K) (hc : X.calm = true) : CallR X (.builtin "any") (rAny K) := h ▸ cr_any hc
theorem kcr_sum (h : X.K = K) (hc : X.calm = true) : CallR X (.builtin "sum") (rSum K) := h ▸ cr_sum hc
theorem kop_catT (h : X.K = K) : OpR X (binaryOp .Add) (rCatT K) := h ▸ op_catT
theorem kop_in_seq (h : X.K = K) : OpR X (compareOp .In) (rIn K false) := h ▸ op_in_seq
theorem kop_notIn_seq (h : X.K = K) : OpR X (compareOp .NotIn) (rIn K true) := h ▸ op_notIn_seq
theorem kop_eqD (h : X.K = K) (hu : X.A.units + 64 < cLine) : OpR X (compareOp .Eq) (rEqD K) := h ▸ op_eqD hu
theorem kop_neD (h : X.K = K) (hu : X.A.units + 64 < cLine) : OpR X (compareOp .NotEq) (rNeD K) := h ▸ op_neD hu
theorem kmt_index (h : X.K = K) : MtR X "list.index" (rIndex K) := h ▸ mt_index
theorem kcall_isi (h : X.K = K) : CallR X (.builtin "isinstance") (rIsi K) := h ▸ call_isi
theorem kcall_isiT (h : X.K = K) : CallR X (.builtin "isinstance") (rIsiT K) := h ▸ call_isiT
theorem lTupG {n : Nat} {t : TGs} (h : PG X tg (gTup K n t)) : PG X tg (gTup K n t) := h
theorem lUnlG {n : Nat} {t : TGs} (h : PG X tg (gUnl K n t)) : PG X tg (gUnl K n t) := h
theorem lFld {f : Str} (h : PE X e (tFld K te f)) : PE X e (fun σ H Q => te σ H fun x H1 => rFld K f x H1 Q) := h
theorem lJoin (h : PE X e (fun σ H Q => ta σ H fun x H1 => (∃ a, x = .str a) ∧ te σ H1 fun y H2 => rJoin K x [y] H2 Q)) : PE X e (fun σ H Q => ta σ H fun x H1 => (∃ a, x = .str a) ∧ te σ H1 fun y H2 => rJoin K x [y] H2 Q) := h
end
/-! ### places in the text -/
def xc : Expr → List Expr
  | .BoolOp _ vs _ => vs
  | .BinOp a _ b _ => [a, b]
  | .UnaryOp _ a _ => [a]
  | .IfExp c a b _ => [c, a, b]
  | .ListComp e gs _ _ => e :: gs.flatMap fun g => g.iter :: g.ifs
  | .Compare a _ bs _ => a :: bs
  | .Call f es _ _ => f :: es
  | .Attribute a _ _ => [a]
  | .Subscript a b _ => [a, b]
  | .List es _ => es
  | .Tuple es _ _ => es
  | _ => []
def xs1 : Stmt → List Expr
  | .Return (some e) _ => [e]
  | .Assign _ e _ => [e]
  | .AugAssign _ _ e _ => [e]
  | .For _ e _ _ _ => [e]
  | .While e _ _ _ => [e]
  | .If e _ _ _ => [e]
  | .Expr e _ => [e]
  | .Raise (some e) _ _ => [e]
  | _ => []
def ss1 : Stmt → List Stmt
  | .FunctionDef _ _ b _ _ _ _ _ _ _ => b
  | .For _ _ b o _ => b ++ o
  | .While _ b o _ => b ++ o
  | .If _ b o _ => b ++ o
  | .Try b _ _ _ _ => b
  | _ => []
/-- the scope of a list comprehension: by the statements' places, then the expressions' -/
def scAt (s : Stmt) (l m : List Nat) : Scope :=
  match (xs1 (l.foldl (fun s i => (ss1 s).getD i s) s)).map fun e => m.foldl (fun e i => (xc e).getD i e) e with
  | [.ListComp _ _ sc _] => sc
  | _ => ⟨.function, [], false, false, []⟩
end G

namespace G
open PySem L2

/-! worlds: what is owned (may change) and the heap -/
abbrev Av := Addr → Prop
def no : Av := fun _ => False
abbrev c1 (p : Addr) : Av := fun a => a = p
/-- two regions together -/
abbrev un (S A : Av) : Av := fun a => S a ∨ A a
abbrev ins (p : Addr) (A : Av) : Av := un (c1 p) A
def Imm : HO → Prop
  | .tup _ => True
  | .frz _ (.lst _) => True
  | .frz _ (.tup _) => True
  | _ => False
/-- all is kept but C -/
def Kp (C : Av) (H H' : Hp) : Prop := ∀ a o, H a = some o → (∃ o', H' a = some o') ∧ ((¬ C a ∨ Imm o) → H' a = some o)
def Ex (H H' : Hp) : Prop := ∀ a o, H a = some o → H' a = some o
structure Le (A : Av) (H : Hp) (B : Av) (H' : Hp) : Prop where
  keep : ∀ a o, H a = some o → (¬ A a ∨ Imm o) → H' a = some o
  av : ∀ a o, H a = some o → ¬ A a → ¬ B a
theorem Ex.refl (H : Hp) : Ex H H := fun _ _ h => h
theorem Ex.trans {H H1 H2 : Hp} (a : Ex H H1) (b : Ex H1 H2) : Ex H H2 := fun x o h => b x o (a x o h)
theorem Ex.new {H : Hp} {p : Addr} {o : HO} (h : H p = none) : Ex H (upd H p o) := fun a u e => by
  rw [upd_ne (ne_of_none e h)]
  exact e
theorem Ex.kp {C : Av} {H H' : Hp} (e : Ex H H') : Kp C H H' := fun a o h => ⟨⟨o, e a o h⟩, fun _ => e a o h⟩
theorem Kp.refl {C : Av} (H : Hp) : Kp C H H := (Ex.refl H).kp
theorem Kp.ex {H H' : Hp} (k : Kp no H H') : Ex H H' := fun a o h => (k a o h).2 (.inl fun z => z)
theorem Kp.dom {C : Av} {H H' : Hp} (k : Kp C H H') {p : Addr} (h : H' p = none) : H p = none := by
  cases e : H p with
  | none => rfl
  | some o =>
    obtain ⟨⟨o', q⟩, _⟩ := k p o e
    rw [h] at q
    cases q
theorem Ex.dom {H H' : Hp} (k : Ex H H') {p : Addr} (h : H' p = none) : H p = none := (k.kp (C := no)).dom h
theorem Kp.trans {C D : Av} {H H1 H2 : Hp} (a : Kp C H H1) (b : Kp D H1 H2) (h : ∀ x, D x → C x ∨ H x = none) : Kp C H H2 := fun x o e => by
  obtain ⟨⟨o1, e1⟩, k1⟩ := a x o e
  obtain ⟨⟨o2, e2⟩, _⟩ := b x o1 e1
  refine ⟨⟨o2, e2⟩, fun hc => ?_⟩
  have q := k1 hc
  rw [q] at e1
  cases e1
  refine (b x o q).2 ?_
  rcases hc with hc | hc
  · refine .inl fun d => ?_
    rcases h x d with z | z
    · exact hc z
    · rw [e] at z
      cases z
  · exact .inr hc
theorem Kp.same {C : Av} {H H1 H2 : Hp} (a : Kp C H H1) (b : Kp C H1 H2) : Kp C H H2 := a.trans b fun _ z => .inl z
theorem Kp.then {C : Av} {H H1 H2 : Hp} (a : Kp C H H1) (b : Ex H1 H2) : Kp C H H2 := a.same b.kp
theorem Kp.mono {C D : Av} {H H' : Hp} (a : Kp C H H') (h : ∀ x, C x → D x) : Kp D H H' := fun x o e => ⟨(a x o e).1, fun z => (a x o e).2 (z.imp (fun n c => n (h x c)) id)⟩
/-- a list, a dict, an object that stands is written -/
theorem Kp.write {H : Hp} {p : Addr} {o u : HO} (h : H p = some o) (ni : ¬ Imm o) : Kp (fun a => a = p) H (upd H p u) := fun a x e => by
  by_cases q : a = p
  · subst q
    rw [h] at e
    cases e
    exact ⟨⟨u, upd_same⟩, fun z => z.elim (fun n => (n rfl).elim) fun i => (ni i).elim⟩
  · rw [upd_ne q]
    exact ⟨⟨x, e⟩, fun _ => e⟩
theorem Kp.le {A C : Av} {H H' : Hp} (k : Kp C H H') (h : ∀ a, C a → A a) : Le A H A H' :=
  ⟨fun a o e z => (k a o e).2 (z.imp (fun n c => n (h a c)) id), fun _ _ _ n => n⟩
theorem Ex.le {A : Av} {H H' : Hp} (k : Ex H H') : Le A H A H' := (k.kp (C := no)).le fun _ z => z.elim
theorem Le.refl {A : Av} {H : Hp} : Le A H A H := ⟨fun _ _ e _ => e, fun _ _ _ n => n⟩
theorem Le.trans {A B C : Av} {H H1 H2 : Hp} (a : Le A H B H1) (b : Le B H1 C H2) : Le A H C H2 :=
  ⟨fun x o e z => b.keep x o (a.keep x o e z) (z.imp (fun n => a.av x o e n) id), fun x o e n => b.av x o (a.keep x o e (.inl n)) (a.av x o e n)⟩
theorem Le.grow {A : Av} {H : Hp} {p : Addr} (h : H p = none) : Le A H (ins p A) H := ⟨fun _ _ e _ => e, fun a o e n z => by
  rcases z with z | z
  · rw [z, h] at e
    cases e
  · exact n z⟩
theorem Le.growS {A S : Av} {H : Hp} (h : ∀ a, S a → H a = none) : Le A H (un S A) H := ⟨fun _ _ e _ => e, fun a o e n z => by
  rcases z with z | z
  · rw [h a z] at e
    cases e
  · exact n z⟩
theorem Le.drop {A B : Av} {H : Hp} (h : ∀ a, B a → A a) : Le A H B H := ⟨fun _ _ e _ => e, fun a _ _ n z => n (h a z)⟩
theorem Le.ex {A B : Av} {H H1 H2 : Hp} (a : Le A H B H1) (b : Ex H1 H2) : Le A H B H2 := a.trans b.le

/-! what a value stands for -/
def big : Nat := 1000000
theorem big_lt {n : Nat} (h : n < big) : n < sizeLine := Nat.lt_trans h (by decide)
theorem big_le {n : Nat} (h : n ≤ big) : n ≤ sizeLine := Nat.le_trans h (by decide)
class Rp (α : Type) where
  rp : PySem.W.Frag → Av → Hp → V → α → Prop
  le : ∀ {K : PySem.W.Frag} {A B : Av} {H H' : Hp} {v : V} {x : α}, Le A H B H' → rp K A H v x → rp K B H' v x
open Rp (rp)
instance : Rp Int := ⟨fun _ _ _ v x => v = .int x, fun _ h => h⟩
instance : Rp Bool := ⟨fun _ _ _ v x => v = .bl x, fun _ h => h⟩
instance : Rp Str := ⟨fun _ _ _ v x => v = .str x, fun _ h => h⟩
instance : Rp Unit := ⟨fun _ _ _ v _ => v = .non, fun _ h => h⟩
/-- None, or a thing that isn't None -/
instance {α : Type} [Rp α] : Rp (Option α) := ⟨fun K A H v x => match x with
  | none => v = .non
  | some y => v ≠ .non ∧ rp K A H v y, fun {K A B H H' v x} e h => by
    cases x with
    | none => exact h
    | some y => exact ⟨h.1, Rp.le e h.2⟩⟩

def LsA (A : Av) (H : Hp) (a : Addr) (xs : List V) : Prop := H a = some (.lst xs) ∧ ¬ A a
theorem LsA.sq {K : PySem.W.Frag} {A : Av} {H : Hp} {a : Addr} {xs : List V} (h : LsA A H a xs) : SqL K H a xs := .inl (.inl h.1)
theorem LsA.le {A B : Av} {H H' : Hp} {a : Addr} {xs : List V} (e : Le A H B H') (h : LsA A H a xs) : LsA B H' a xs :=
  ⟨e.keep _ _ h.1 (.inl h.2), e.av _ _ h.1 h.2⟩
theorem tup_le {K : PySem.W.Frag} {A B : Av} {H H' : Hp} {a : Addr} {xs : List V} (e : Le A H B H') (h : SqT K H a xs) : SqT K H' a xs := by
  rcases h with (h | ⟨o, h⟩) | h
  · exact .inl (.inl (e.keep _ _ h (.inr trivial)))
  · exact .inl (.inr ⟨o, e.keep _ _ h (.inr trivial)⟩)
  · exact .inr h
abbrev All {α : Type} [Rp α] (K : PySem.W.Frag) (A : Av) (H : Hp) : List V → List α → Prop := Paired (rp K A H)
section
variable {α β : Type} [Rp α] {K : PySem.W.Frag} {A B : Av} {H H' : Hp}
theorem All.le {xs : List V} {ds : List α} (e : Le A H B H') (h : All K A H xs ds) : All K B H' xs ds := by
  induction h with
  | nil => exact .nil
  | cons r _ ih => exact .cons (Rp.le e r) ih
theorem All.get : ∀ {xs : List V} {ds : List α} {i : Nat} {d : α}, All K A H xs ds → ds[i]? = some d → ∃ v, xs[i]? = some v ∧ rp K A H v d
  | _, _, _, _, .nil, e => by simp at e
  | _, _, 0, _, .cons r _, e => by simp at e; subst e; exact ⟨_, rfl, r⟩
  | _, _, i + 1, d, .cons r t, e => by
    obtain ⟨u, h1, h2⟩ := All.get (i := i) (d := d) t (by simpa using e)
    exact ⟨u, by simpa using h1, h2⟩
theorem All.get' : ∀ {xs : List V} {ds : List α} {i : Nat} {v : V}, All K A H xs ds → xs[i]? = some v → ∃ d, ds[i]? = some d ∧ rp K A H v d
  | _, _, _, _, .nil, e => by simp at e
  | _, _, 0, _, .cons r _, e => by simp at e; subst e; exact ⟨_, rfl, r⟩
  | _, _, i + 1, v, .cons r t, e => by
    obtain ⟨u, h1, h2⟩ := All.get' (i := i) (v := v) t (by simpa using e)
    exact ⟨u, by simpa using h1, h2⟩
theorem All.snoc {xs : List V} {ds : List α} {v : V} {d : α} (h : All K A H xs ds) (r : rp K A H v d) : All K A H (xs ++ [v]) (ds ++ [d]) := Paired.snoc h r
theorem All.append {xs ys : List V} {ds es : List α} (h : All K A H xs ds) (g : All K A H ys es) : All K A H (xs ++ ys) (ds ++ es) := by
  induction h with
  | nil => exact g
  | cons r _ ih => exact .cons r ih
theorem All.ints : ∀ {xs : List V} {ds : List Int}, All K A H xs ds → xs = ds.map V.int
  | _, _, .nil => rfl
  | _, _, .cons r t => by
    have e : _ = V.int _ := r
    rw [e, All.ints t, List.map_cons]
theorem All.bls : ∀ {xs : List V} {ds : List Bool}, All K A H xs ds → xs = ds.map V.bl
  | _, _, .nil => rfl
  | _, _, .cons r t => by
    have e : _ = V.bl _ := r
    rw [e, All.bls t, List.map_cons]
theorem All.strs : ∀ {xs : List V} {ds : List Str}, All K A H xs ds → xs = ds.map V.str
  | _, _, .nil => rfl
  | _, _, .cons r t => by
    have e : _ = V.str _ := r
    rw [e, All.strs t, List.map_cons]
theorem All.of_ints : ∀ (ds : List Int), All K A H (ds.map V.int) ds
  | [] => .nil
  | _ :: r => .cons rfl (All.of_ints r)
theorem All.of_bls : ∀ (ds : List Bool), All K A H (ds.map V.bl) ds
  | [] => .nil
  | _ :: r => .cons rfl (All.of_bls r)
theorem All.of_strs : ∀ (ds : List Str), All K A H (ds.map V.str) ds
  | [] => .nil
  | _ :: r => .cons rfl (All.of_strs r)
theorem All.take {xs : List V} {ds : List α} (n : Nat) (h : All K A H xs ds) : All K A H (xs.take n) (ds.take n) := by
  induction h generalizing n with
  | nil => cases n <;> exact .nil
  | cons r _ ih =>
    cases n with
    | zero => exact .nil
    | succ n => exact .cons r (ih n)
theorem All.drop {xs : List V} {ds : List α} (n : Nat) (h : All K A H xs ds) : All K A H (xs.drop n) (ds.drop n) := by
  induction h generalizing n with
  | nil => cases n <;> exact .nil
  | cons r t ih =>
    cases n with
    | zero => exact .cons r t
    | succ n => exact ih n
theorem All.reverse {xs : List V} {ds : List α} (h : All K A H xs ds) : All K A H xs.reverse ds.reverse := by
  induction h with
  | nil => exact .nil
  | cons r _ ih =>
    rw [List.reverse_cons, List.reverse_cons]
    exact ih.snoc r
theorem All.set {xs : List V} {ds : List α} {v : V} {d : α} (j : Nat) (h : All K A H xs ds) (r : rp K A H v d) : All K A H (xs.set j v) (ds.set j d) := by
  induction h generalizing j with
  | nil => exact .nil
  | cons q t ih =>
    cases j with
    | zero => exact .cons r t
    | succ j => exact .cons q (ih j)
end
/-- a list -/
instance {α : Type} [Rp α] : Rp (List α) := ⟨fun K A H v ds => ds.length ≤ big ∧ ∃ a xs, v = .ref a ∧ LsA A H a xs ∧ All K A H xs ds,
  fun e ⟨l, a, xs, h1, h2, h3⟩ => ⟨l, a, xs, h1, h2.le e, h3.le e⟩⟩
/-- a tuple of any length, its items of one kind -/
structure Tup (α : Type) where
  l : List α
  deriving DecidableEq
instance {α : Type} [Rp α] : Rp (Tup α) := ⟨fun K A H v ds => ds.l.length ≤ big ∧ ∃ a xs, v = .ref a ∧ SqT K H a xs ∧ All K A H xs ds.l,
  fun e ⟨l, a, xs, h1, h2, h3⟩ => ⟨l, a, xs, h1, tup_le e h2, h3.le e⟩⟩
structure T2 (α β : Type) where
  a : α
  b : β
  deriving DecidableEq
structure T3 (α β γ : Type) where
  a : α
  b : β
  c : γ
  deriving DecidableEq
structure T4 (α β γ δ : Type) where
  a : α
  b : β
  c : γ
  d : δ
  deriving DecidableEq
structure T5 (α β γ δ ε : Type) where
  a : α
  b : β
  c : γ
  d : δ
  e : ε
  deriving DecidableEq
structure T6 (α β γ δ ε ζ : Type) where
  a : α
  b : β
  c : γ
  d : δ
  e : ε
  f : ζ
  deriving DecidableEq
section
variable {α β γ δ ε ζ : Type} [Rp α] [Rp β] [Rp γ] [Rp δ] [Rp ε] [Rp ζ]
instance : Rp (T2 α β) := ⟨fun K A H v x => ∃ p v1 v2, v = .ref p ∧ SqT K H p [v1, v2] ∧ rp K A H v1 x.a ∧ rp K A H v2 x.b,
  fun e ⟨p, v1, v2, h, t, h1, h2⟩ => ⟨p, v1, v2, h, tup_le e t, Rp.le e h1, Rp.le e h2⟩⟩
instance : Rp (T3 α β γ) := ⟨fun K A H v x => ∃ p v1 v2 v3, v = .ref p ∧ SqT K H p [v1, v2, v3] ∧ rp K A H v1 x.a ∧ rp K A H v2 x.b ∧ rp K A H v3 x.c,
  fun e ⟨p, v1, v2, v3, h, t, h1, h2, h3⟩ => ⟨p, v1, v2, v3, h, tup_le e t, Rp.le e h1, Rp.le e h2, Rp.le e h3⟩⟩
instance : Rp (T4 α β γ δ) := ⟨fun K A H v x => ∃ p v1 v2 v3 v4, v = .ref p ∧ SqT K H p [v1, v2, v3, v4] ∧ rp K A H v1 x.a ∧ rp K A H v2 x.b ∧ rp K A H v3 x.c ∧ rp K A H v4 x.d,
  fun e ⟨p, v1, v2, v3, v4, h, t, h1, h2, h3, h4⟩ => ⟨p, v1, v2, v3, v4, h, tup_le e t, Rp.le e h1, Rp.le e h2, Rp.le e h3, Rp.le e h4⟩⟩
instance : Rp (T5 α β γ δ ε) := ⟨fun K A H v x => ∃ p v1 v2 v3 v4 v5, v = .ref p ∧ SqT K H p [v1, v2, v3, v4, v5] ∧ rp K A H v1 x.a ∧ rp K A H v2 x.b ∧ rp K A H v3 x.c ∧ rp K A H v4 x.d ∧ rp K A H v5 x.e,
  fun e ⟨p, v1, v2, v3, v4, v5, h, t, h1, h2, h3, h4, h5⟩ => ⟨p, v1, v2, v3, v4, v5, h, tup_le e t, Rp.le e h1, Rp.le e h2, Rp.le e h3, Rp.le e h4, Rp.le e h5⟩⟩
instance : Rp (T6 α β γ δ ε ζ) := ⟨fun K A H v x => ∃ p v1 v2 v3 v4 v5 v6, v = .ref p ∧ SqT K H p [v1, v2, v3, v4, v5, v6] ∧ rp K A H v1 x.a ∧ rp K A H v2 x.b ∧ rp K A H v3 x.c ∧ rp K A H v4 x.d ∧ rp K A H v5 x.e ∧ rp K A H v6 x.f,
  fun e ⟨p, v1, v2, v3, v4, v5, v6, h, t, h1, h2, h3, h4, h5, h6⟩ => ⟨p, v1, v2, v3, v4, v5, v6, h, tup_le e t, Rp.le e h1, Rp.le e h2, Rp.le e h3, Rp.le e h4, Rp.le e h5, Rp.le e h6⟩⟩
end


/-! ### the mirror's words -/
theorem ob {α β : Type} {m : Option α} {f : α → Option β} {r : β} (h : m.bind f = some r) : ∃ a, m = some a ∧ f a = some r := by
  cases m with
  | none => cases h
  | some a => exact ⟨a, rfl, h⟩
inductive Ctl (σ ρ : Type) where
  | nx (s : σ)
  | bk (s : σ)
  | rt (r : ρ)
section
variable {σ ρ α β : Type}
def foldO (f : σ → α → Option σ) : σ → List α → Option σ
  | s, [] => some s
  | s, x :: l => (f s x).bind fun s' => foldO f s' l
def forO (f : σ → α → Option (Ctl σ ρ)) : σ → List α → Option (Ctl σ ρ)
  | s, [] => some (.nx s)
  | s, x :: l => (f s x).bind fun c => match c with
    | .nx s' => forO f s' l
    | .bk s' => some (.nx s')
    | .rt r => some (.rt r)
/-- a while: fuel, the test, the turn -/
def whileO (t : σ → Option Bool) (f : σ → Option (Ctl σ ρ)) : Nat → σ → Option (Ctl σ ρ)
  | 0, _ => none
  | n + 1, s => (t s).bind fun b => if b = true then (f s).bind fun c => match c with
    | .nx s' => whileO t f n s'
    | .bk s' => some (.nx s')
    | .rt r => some (.rt r) else some (.nx s)
def mapO (f : α → Option β) : List α → Option (List β)
  | [] => some []
  | x :: l => (f x).bind fun y => (mapO f l).bind fun ys => some (y :: ys)
def mapS (f : σ → α → Option (β × σ)) : σ → List α → Option (List β × σ)
  | s, [] => some ([], s)
  | s, x :: l => (f s x).bind fun y => (mapS f y.2 l).bind fun ys => some (y.1 :: ys.1, ys.2)
def filtO (t : α → Option Bool) (f : α → Option β) : List α → Option (List β)
  | [] => some []
  | x :: l => (t x).bind fun b => if b = true then (f x).bind fun y => (filtO t f l).bind fun ys => some (y :: ys) else filtO t f l
def filtS (t : σ → α → Option (Bool × σ)) (f : σ → α → Option (β × σ)) : σ → List α → Option (List β × σ)
  | s, [] => some ([], s)
  | s, x :: l => (t s x).bind fun b => if b.1 = true then (f b.2 x).bind fun y => (filtS t f y.2 l).bind fun ys => some (y.1 :: ys.1, ys.2) else filtS t f b.2 l
end

/-! ### what is walked, by what its items stand for -/
structure TW {α : Type} [Rp α] (K : PySem.W.Frag) (J : It) (A : Av) (H0 : Hp) (ds : List α) : Prop where
  goes : ∀ i B H, i < ds.length → Le A H0 B H → J.go i H
  stops : ∀ B H, Le A H0 B H → J.stop ds.length H
  yields : ∀ i B H v H' d, Le A H0 B H → J.yld i H v H' → ds[i]? = some d → Ex H H' ∧ rp K B H' v d
section
variable {α β : Type} [Rp α] [Rp β] {K : PySem.W.Frag} {A : Av} {H : Hp} {a : Addr} {xs : List V} {ds : List α}
theorem TW.list (h : LsA A H a xs) (r : All K A H xs ds) : TW K (Itl K a) A H ds where
  goes := fun i B H1 hi e => by
    have hx := r.length
    exact ⟨xs, xs[i]'(by omega), (h.le e).sq, by simp [show i < xs.length by omega]⟩
  stops := fun B H1 e => ⟨xs, (h.le e).sq, by rw [r.length]; exact Nat.le_refl _⟩
  yields := fun i B H1 v H2 d e y hd => by
    obtain ⟨rfl, y⟩ := y
    obtain ⟨u, hu, ru⟩ := (r.le e).get hd
    have q := y xs (h.le e).sq
    rw [hu] at q
    cases q
    exact ⟨Ex.refl _, ru⟩
theorem TW.tup (h : SqT K H a xs) (r : All K A H xs ds) : TW K (Itt K a) A H ds where
  goes := fun i B H1 hi e => by
    have hx := r.length
    exact ⟨xs, xs[i]'(by omega), tup_le e h, by simp [show i < xs.length by omega]⟩
  stops := fun B H1 e => ⟨xs, tup_le e h, by rw [r.length]; exact Nat.le_refl _⟩
  yields := fun i B H1 v H2 d e y hd => by
    obtain ⟨rfl, y⟩ := y
    obtain ⟨u, hu, ru⟩ := (r.le e).get hd
    have q := y xs (tup_le e h)
    rw [hu] at q
    cases q
    exact ⟨Ex.refl _, ru⟩
theorem TW.enum (h : LsA A H a xs) (r : All K A H xs ds) : TW K (Ite K a) A H (ds.zipIdx.map fun p => (⟨(p.2 : Int), p.1⟩ : T2 Int α)) where
  goes := fun i B H1 hi e => by
    rw [List.length_map, List.length_zipIdx] at hi
    have hx := r.length
    exact walk_enum.goes i H1 (by omega) (h.le e).sq
  stops := fun B H1 e => by
    rw [List.length_map, List.length_zipIdx, ← r.length]
    exact walk_enum.stops H1 (h.le e).sq
  yields := fun i B H1 v H2 d e y hd => by
    have hi : i < ds.length := by
      have q := (List.getElem?_eq_some_iff.mp hd).1
      rwa [List.length_map, List.length_zipIdx] at q
    have hx := r.length
    obtain ⟨T, x, w, rfl, hT, rfl, e1, e2⟩ := walk_enum.yields i H1 v H2 (by omega) (h.le e).sq y
    cases e1
    have e3 : d = ⟨(i : Int), ds[i]⟩ := by
      rw [List.getElem?_map, List.getElem?_zipIdx, List.getElem?_eq_getElem hi] at hd
      have hd' := Option.some.inj hd
      rw [← hd']
      simp
    subst e3
    obtain ⟨u, hu, ru⟩ := (r.le e).get (List.getElem?_eq_getElem hi)
    have e2' : xs[i]? = some w := e2
    rw [hu] at e2'
    cases e2'
    exact ⟨Ex.new hT, T, .int (i : Nat), w, rfl, SqT.of upd_same, rfl, Rp.le (Ex.new hT).le ru⟩
theorem TW.zip {b : Addr} {ys : List V} {es : List β} (h : LsA A H a xs) (r : All K A H xs ds) (h' : LsA A H b ys) (r' : All K A H ys es) : TW K (Itz K a b) A H ((ds.zip es).map fun p => (⟨p.1, p.2⟩ : T2 α β)) where
  goes := fun i B H1 hi e => by
    rw [List.length_map, List.length_zip] at hi
    have hx := r.length
    have hy := r'.length
    exact (walk_zip (n := min xs.length ys.length) rfl).goes i H1 (by omega) ⟨(h.le e).sq, (h'.le e).sq⟩
  stops := fun B H1 e => by
    rw [List.length_map, List.length_zip, ← r.length, ← r'.length]
    exact (walk_zip (n := min xs.length ys.length) rfl).stops H1 ⟨(h.le e).sq, (h'.le e).sq⟩
  yields := fun i B H1 v H2 d e y hd => by
    have hi : i < min ds.length es.length := by
      have q := (List.getElem?_eq_some_iff.mp hd).1
      rwa [List.length_map, List.length_zip] at q
    have hx := r.length
    have hy := r'.length
    obtain ⟨T, x, w, rfl, hT, rfl, e1, e2⟩ := (walk_zip (n := min xs.length ys.length) rfl).yields i H1 v H2 (by omega) ⟨(h.le e).sq, (h'.le e).sq⟩ y
    have hi1 : i < ds.length := by omega
    have hi2 : i < es.length := by omega
    have e3 : d = ⟨ds[i], es[i]⟩ := by
      rw [List.getElem?_map] at hd
      rw [List.getElem?_eq_getElem (by rw [List.length_zip]; omega)] at hd
      have hd' := Option.some.inj hd
      rw [← hd']
      simp
    subst e3
    obtain ⟨u1, hu1, ru1⟩ := (r.le e).get (List.getElem?_eq_getElem hi1)
    obtain ⟨u2, hu2, ru2⟩ := (r'.le e).get (List.getElem?_eq_getElem hi2)
    have e1' : xs[i]? = some x := e1
    rw [hu1] at e1'
    cases e1'
    have e2' : ys[i]? = some w := e2
    rw [hu2] at e2'
    cases e2'
    exact ⟨Ex.new hT, T, x, w, rfl, SqT.of upd_same, Rp.le (Ex.new hT).le ru1, Rp.le (Ex.new hT).le ru2⟩
/-- the whole numbers from lo on, n of them -/
def rng (lo : Int) (n : Nat) : List Int := (List.range n).map fun (i : Nat) => lo + (i : Int)
theorem rng_length (lo : Int) (n : Nat) : (rng lo n).length = n := by simp [rng]
theorem rng_get {lo : Int} {n i : Nat} {d : Int} (h : (rng lo n)[i]? = some d) : i < n ∧ d = lo + (i : Int) := by
  unfold rng at h
  rw [List.getElem?_map] at h
  by_cases hi : i < n
  · rw [List.getElem?_range hi] at h
    exact ⟨hi, (Option.some.inj h).symm⟩
  · rw [List.getElem?_eq_none (by simp; omega)] at h
    cases h
theorem TW.range (lo : Int) (n : Nat) : TW K (Itr lo n) A H (rng lo n) where
  goes := fun i B H1 hi e => by
    rw [rng_length] at hi
    exact hi
  stops := fun B H1 e => by
    rw [rng_length]
    exact Nat.le_refl n
  yields := fun i B H1 v H2 d e y hd => by
    obtain ⟨hi, rfl⟩ := rng_get hd
    obtain ⟨rfl, rfl⟩ := y
    exact ⟨Ex.refl _, rfl⟩
/-- the signs of a text -/
def sgn (z : Str) : List Str := z.cps.toList.map fun c => ⟨#[c]⟩
theorem TW.str (z : Str) : TW K (Its z) A H (sgn z) where
  goes := fun i B H1 hi e => by
    show i < z.cps.size
    simpa [sgn] using hi
  stops := fun B H1 e => by
    show z.cps.size ≤ (sgn z).length
    simp [sgn]
  yields := fun i B H1 v H2 d e y hd => by
    obtain ⟨rfl, c, hc, rfl⟩ := y
    unfold sgn at hd
    rw [List.getElem?_map, Array.getElem?_toList, hc] at hd
    cases hd
    exact ⟨Ex.refl _, rfl⟩
end

/-! ### loops -/
section
variable {α σ' ρ : Type} [Rp α] {K : PySem.W.Frag} {A : Av} {H0 : Hp} {J : It} {ds : List α}
theorem drop_cons {ds : List α} {i : Nat} (hi : i < ds.length) : ds.drop i = ds[i] :: ds.drop (i + 1) := List.drop_eq_getElem_cons hi
/-- a for without a return in it -/
theorem for_f {g : TG} {tb : TS} {D : Ends} {σ : St} {H : Hp} (w : TW K J A H0 ds) (f : σ' → α → Option σ') (s0 r : σ') (hm : foldO f s0 ds = some r)
    (I : σ' → St → Hp → Prop) (h0 : I s0 σ H) (hI : ∀ s σ H, I s σ H → ∃ B, Le A H0 B H)
    (hs : ∀ s d s' v σ H H', I s σ H → f s d = some s' → Ex H H' → (∀ B, Le A H0 B H → rp K B H' v d) → g v σ H' fun σ2 H2 => tb { D with nx := I s', ct := I s', bk := D.nx } σ2 H2)
    (hd : ∀ σ H, I r σ H → D.nx σ H) :
    ForQ g tb D σ J H := by
  refine ⟨fun i m σ H => m = ds.length - i ∧ i ≤ ds.length ∧ ∃ s, foldO f s (ds.drop i) = some r ∧ I s σ H, ⟨ds.length, by simp, Nat.zero_le _, s0, hm, h0⟩, ?_⟩
  rintro i m σ H ⟨rfl, hi, s, hf, hs0⟩
  obtain ⟨B, e⟩ := hI s σ H hs0
  by_cases hlt : i < ds.length
  · rw [drop_cons hlt] at hf
    obtain ⟨s', h1, h2⟩ := ob hf
    refine .inr ⟨w.goes i B H hlt e, I s', fun σ2 H2 p' => ⟨ds.length - (i + 1), by omega, rfl, hlt, s', h2, p'⟩, fun v H' y => ?_⟩
    exact hs s ds[i] s' v σ H H' hs0 h1 (w.yields i B H v H' ds[i] e y (List.getElem?_eq_getElem hlt)).1 fun B' e' => (w.yields i B' H v H' ds[i] e' y (List.getElem?_eq_getElem hlt)).2
  · have ei : i = ds.length := by omega
    subst ei
    rw [List.drop_length] at hf
    cases hf
    exact .inl ⟨w.stops B H e, hd σ H hs0⟩
/-- a for that may return or break -/
theorem for_c {g : TG} {tb : TS} {D : Ends} {σ : St} {H : Hp} (w : TW K J A H0 ds) (f : σ' → α → Option (Ctl σ' ρ)) (s0 : σ') (c : Ctl σ' ρ) (hm : forO f s0 ds = some c)
    (I : σ' → St → Hp → Prop) (h0 : I s0 σ H) (hI : ∀ s σ H, I s σ H → ∃ B, Le A H0 B H)
    (hd : ∀ σ H s, c = .nx s → I s σ H → D.nx σ H)
    (hs : ∀ s d c' v σ H H', I s σ H → f s d = some c' → Ex H H' → (∀ B, Le A H0 B H → rp K B H' v d) → (∀ r, c' = .rt r → c = .rt r) → (∀ s' σ H, c' = .bk s' → I s' σ H → D.nx σ H) →
      g v σ H' fun σ2 H2 => tb { D with nx := fun σ3 H3 => ∃ s', c' = .nx s' ∧ I s' σ3 H3, ct := fun σ3 H3 => ∃ s', c' = .nx s' ∧ I s' σ3 H3, bk := D.nx } σ2 H2) :
    ForQ g tb D σ J H := by
  refine ⟨fun i m σ H => m = ds.length - i ∧ i ≤ ds.length ∧ ∃ s, forO f s (ds.drop i) = some c ∧ I s σ H, ⟨ds.length, by simp, Nat.zero_le _, s0, hm, h0⟩, ?_⟩
  rintro i m σ H ⟨rfl, hi, s, hf, hs0⟩
  obtain ⟨B, e⟩ := hI s σ H hs0
  by_cases hlt : i < ds.length
  · rw [drop_cons hlt] at hf
    obtain ⟨c', h1, h2⟩ := ob hf
    refine .inr ⟨w.goes i B H hlt e, fun σ3 H3 => ∃ s', c' = .nx s' ∧ I s' σ3 H3, fun σ2 H2 ⟨s', q, p'⟩ => ?_, fun v H' y => ?_⟩
    · subst q
      exact ⟨ds.length - (i + 1), by omega, rfl, hlt, s', h2, p'⟩
    · refine hs s ds[i] c' v σ H H' hs0 h1 (w.yields i B H v H' ds[i] e y (List.getElem?_eq_getElem hlt)).1 (fun B' e' => (w.yields i B' H v H' ds[i] e' y (List.getElem?_eq_getElem hlt)).2) (fun r q => ?_) (fun s' σ2 H2 q p' => ?_)
      · subst q
        exact (Option.some.inj h2).symm
      · subst q
        exact hd σ2 H2 s' (Option.some.inj h2).symm p'
  · have ei : i = ds.length := by omega
    subst ei
    rw [List.drop_length] at hf
    cases hf
    exact .inl ⟨w.stops B H e, hd σ H s rfl hs0⟩
end

/-! ### comprehensions -/
section
variable {α β σ' : Type}
theorem mapO_length {f : α → Option β} : ∀ {ds : List α} {r : List β}, mapO f ds = some r → r.length = ds.length
  | [], r, h => by cases h; rfl
  | d :: ds, r, h => by
    obtain ⟨y, _, h⟩ := ob h
    obtain ⟨ys, h2, h⟩ := ob h
    cases h
    rw [List.length_cons, List.length_cons, mapO_length h2]
theorem mapS_length {f : σ' → α → Option (β × σ')} : ∀ {ds : List α} {s : σ'} {r : List β × σ'}, mapS f s ds = some r → r.1.length = ds.length
  | [], s, r, h => by cases h; rfl
  | d :: ds, s, r, h => by
    obtain ⟨y, _, h⟩ := ob h
    obtain ⟨ys, h2, h⟩ := ob h
    cases h
    rw [List.length_cons, List.length_cons, mapS_length h2]
theorem filtO_length {t : α → Option Bool} {f : α → Option β} : ∀ {ds : List α} {r : List β}, filtO t f ds = some r → r.length ≤ ds.length
  | [], r, h => by cases h; exact Nat.le_refl _
  | d :: ds, r, h => by
    obtain ⟨b, _, h⟩ := ob h
    by_cases hb : b = true
    · rw [if_pos hb] at h
      obtain ⟨y, _, h⟩ := ob h
      obtain ⟨ys, h2, h⟩ := ob h
      cases h
      have := filtO_length h2
      simp only [List.length_cons]
      omega
    · rw [if_neg hb] at h
      have := filtO_length h
      rw [List.length_cons]
      omega
theorem filtS_length {t : σ' → α → Option (Bool × σ')} {f : σ' → α → Option (β × σ')} : ∀ {ds : List α} {s : σ'} {r : List β × σ'}, filtS t f s ds = some r → r.1.length ≤ ds.length
  | [], s, r, h => by cases h; exact Nat.le_refl _
  | d :: ds, s, r, h => by
    obtain ⟨b, _, h⟩ := ob h
    by_cases hb : b.1 = true
    · rw [if_pos hb] at h
      obtain ⟨y, _, h⟩ := ob h
      obtain ⟨ys, h2, h⟩ := ob h
      cases h
      have := filtS_length h2
      simp only [List.length_cons]
      omega
    · rw [if_neg hb] at h
      have := filtS_length h
      rw [List.length_cons]
      omega
end
section
variable {α β σ' : Type} [Rp α] [Rp β] {K : PySem.W.Frag} {A : Av} {H0 : Hp} {J : It} {ds : List α}
/-- a list just made: its items avoid A and itself -/
structure New (K : PySem.W.Frag) (A : Av) (H : Hp) (D : Addr) (ds : List β) : Prop where
  len : ds.length ≤ big
  at_ : ∃ acc, H D = some (.lst acc) ∧ All K (ins D A) H acc ds
theorem New.rp {H : Hp} {D : Addr} {ds : List β} (n : New K A H D ds) (h : ¬ A D) : Rp.rp K A H (.ref D) ds := by
  obtain ⟨acc, e, r⟩ := n.at_
  exact ⟨n.len, D, acc, rfl, ⟨e, h⟩, r.le (Le.drop fun _ z => .inr z)⟩
/-- a comprehension with a test, both with a state s that stands in cells of C -/
theorem lc_g {g : TG} {tt : TT} {te : TE} {vs : List Nat} {σ : St} {H1 : Hp} {Q : VK} {B : Av} (w : TW K J B H1 ds) (t : σ' → α → Option (Bool × σ')) (f : σ' → α → Option (β × σ')) (s0 : σ') (r : List β × σ') (hm : filtS t f s0 ds = some r) (hz : ds.length ≤ big)
    (C : Av) (hC : ∀ a, C a → A a ∧ B a ∧ H1 a ≠ none) (I : Av → σ' → Hp → Prop) (hI : ∀ A B s H H', I A s H → (∀ a, C a → H' a = H a) → Le A H B H' → (∀ a, C a → B a) → I B s H') (h0 : I A s0 H1)
    (hs : ∀ D, H1 D = none → ∀ s d b v H', t s d = some b → I (ins D A) s H' → Kp C H1 H' → H' D ≠ none → rp K (ins D B) H' v d → ∀ (N : Hp → Prop) (M : V → Hp → Prop),
      (b.1 = false → ∀ H3, Kp C H' H3 → I (ins D A) b.2 H3 → N H3) → (∀ y, b.1 = true → f b.2 d = some y → ∀ u H4, Kp C H' H4 → I (ins D A) y.2 H4 → rp K (ins D A) H4 u y.1 → M u H4) → (b.1 = true → ∃ y, f b.2 d = some y) →
      g v (wipe σ vs) H' fun σ2 H2 => wipe σ2 vs = wipe σ vs ∧ tt σ2 H2 fun b H3 => if b = true then te σ2 H3 M else N H3)
    (hd : ∀ D H, H1 D = none → Kp C H1 H → I A r.2 H → New K A H D r.1 → Q (.ref D) H) :
    LcQ g tt te vs σ Q J H1 := by
  intro D hD
  -- what holds at turn i
  have nC : ∀ {H : Hp} {u : HO} a, C a → (upd H D u) a = H a := fun {H u} a ha => upd_ne fun z => (hC a ha).2.2 (z ▸ hD)
  refine ⟨fun i m H => m = ds.length - i ∧ i ≤ ds.length ∧ ∃ s acc ys zs, r.1 = ys ++ zs ∧ ys.length ≤ i ∧ filtS t f s (ds.drop i) = some (zs, r.2) ∧ Kp C H1 H ∧ I (ins D A) s H ∧ H D = some (.lst acc) ∧ All K (ins D A) H acc ys,
    ⟨ds.length, by simp, Nat.zero_le _, s0, [], [], r.1, rfl, Nat.le_refl _, hm, (Ex.new hD).kp, hI A (ins D A) s0 _ _ h0 (fun a ha => nC a ha) ((Le.grow hD).trans (Ex.new hD).le) (fun a z => .inr (hC a z).1), upd_same, .nil⟩, ?_⟩
  rintro i m H ⟨rfl, hi, s, acc, ys, zs, e1, hl, hf, k, hs0, hDl, ha⟩
  have le : Le B H1 B H := k.le fun a z => (hC a z).2.1
  have le2 : Le B H1 (ins D B) H := (Le.grow hD).trans (k.le fun a z => .inr (hC a z).2.1)
  by_cases hlt : i < ds.length
  · rw [drop_cons hlt] at hf
    obtain ⟨b, h1, h2⟩ := ob hf
    refine .inr ⟨w.goes i B H hlt le, fun H' => ∃ s acc ys zs, r.1 = ys ++ zs ∧ ys.length ≤ i + 1 ∧ filtS t f s (ds.drop (i + 1)) = some (zs, r.2) ∧ Kp C H1 H' ∧ I (ins D A) s H' ∧ H' D = some (.lst acc) ∧ All K (ins D A) H' acc ys,
      fun H' z => ⟨ds.length - (i + 1), by omega, rfl, hlt, z⟩, fun v H' y => ?_⟩
    have hg := List.getElem?_eq_getElem hlt
    obtain ⟨ex, rv⟩ := w.yields i _ H v H' ds[i] le2 y hg
    have hcell : ∀ a, C a → H' a = H a := fun a ca => by
      cases q : H a with
      | none => exact absurd (k.dom q) (hC a ca).2.2
      | some o => exact ex a o q
    refine hs D hD s ds[i] b v H' h1 (hI _ _ s H H' hs0 hcell ex.le fun a z => .inr (hC a z).1) (k.then ex) (by rw [ex D _ hDl]; exact fun z => by cases z) rv _ _ (fun hb H3 k3 i3 => ?_) (fun y' hb hy u H4 k4 i4 ru => ?_) (fun hb => ?_)
    · rw [hb, if_neg Bool.false_ne_true] at h2
      have nD : ¬ C D := fun z => (hC D z).2.2 hD
      refine ⟨b.2, acc, ys, zs, e1, Nat.le_succ_of_le hl, h2, (k.then ex).same k3, i3, (k3 D _ (ex D _ hDl)).2 (.inl nD), ?_⟩
      exact ha.le (ex.le.trans (k3.le fun a z => .inr (hC a z).1))
    · rw [hb, if_pos rfl, hy] at h2
      obtain ⟨ys', h3, h4⟩ := ob (m := filtS t f y'.2 (ds.drop (i + 1))) h2
      obtain ⟨zs', s'⟩ := ys'
      cases h4
      have nD : ¬ C D := fun z => (hC D z).2.2 hD
      have hD4 : H4 D = some (.lst acc) := (k4 D _ (ex D _ hDl)).2 (.inl nD)
      have la := ha.length
      have kw : Kp (fun a => a = D) H4 (upd H4 D (.lst (acc ++ [u]))) := Kp.write hD4 fun z => z
      have k5 : Kp C H1 (upd H4 D (.lst (acc ++ [u]))) := ((k.then ex).same k4).trans kw fun x z => .inr (z ▸ hD)
      have le5 : Le (ins D A) H4 (ins D A) (upd H4 D (.lst (acc ++ [u]))) := kw.le fun a z => .inl z
      refine ⟨acc, hD4, by rw [la]; exact big_lt (by omega), y'.2, acc ++ [u], ys ++ [y'.1], zs', by rw [e1, List.append_assoc]; rfl, by rw [List.length_append, List.length_singleton]; omega, h3, k5, ?_, upd_same, ?_⟩
      · exact hI _ _ y'.2 H4 _ i4 (fun a ca => nC a ca) le5 fun a z => .inr (hC a z).1
      · exact ((ha.le (ex.le.trans (k4.le fun a z => .inr (hC a z).1))).le le5).snoc (Rp.le le5 ru)
    · rw [hb, if_pos rfl] at h2
      obtain ⟨y', hy, _⟩ := ob h2
      exact ⟨y', hy⟩
  · have ei : i = ds.length := by omega
    subst ei
    rw [List.drop_length] at hf
    cases hf
    refine .inl ⟨w.stops B H le, hd D H hD k (hI _ _ _ H H hs0 (fun _ _ => rfl) (Le.drop fun _ z => .inr z) fun a z => (hC a z).1) ?_⟩
    rw [List.append_nil] at e1
    rw [e1]
    exact ⟨by omega, acc, hDl, ha⟩
theorem filtS_of_mapS {f : σ' → α → Option (β × σ')} : ∀ {ds : List α} {s : σ'} {r : List β × σ'}, mapS f s ds = some r → filtS (fun s _ => some (true, s)) f s ds = some r
  | [], s, r, h => h
  | d :: ds, s, r, h => by
    obtain ⟨y, h1, h⟩ := ob h
    obtain ⟨ys, h2, h⟩ := ob h
    show ((f s d).bind fun y => (filtS (fun s _ => some (true, s)) f y.2 ds).bind fun ys => some (y.1 :: ys.1, ys.2)) = some r
    rw [h1, Option.bind_some, filtS_of_mapS h2]
    exact h
theorem filtS_of_filtO {t : α → Option Bool} {f : α → Option β} : ∀ {ds : List α} {r : List β}, filtO t f ds = some r → filtS (fun (_ : Unit) x => (t x).bind fun b => some (b, ())) (fun _ x => (f x).bind fun y => some (y, ())) () ds = some (r, ())
  | [], r, h => by cases h; rfl
  | d :: ds, r, h => by
    obtain ⟨b, h1, h⟩ := ob h
    show (((t d).bind fun b => some (b, ())).bind fun b => if b.1 = true then (((f d).bind fun y => some (y, ())).bind fun y => (filtS _ _ y.2 ds).bind fun ys => some (y.1 :: ys.1, ys.2)) else filtS _ _ b.2 ds) = some (r, ())
    rw [h1]
    by_cases hb : b = true
    · rw [if_pos hb] at h
      obtain ⟨y, h2, h⟩ := ob h
      obtain ⟨ys, h3, h⟩ := ob h
      cases h
      subst hb
      rw [Option.bind_some, Option.bind_some, if_pos rfl, h2, Option.bind_some, Option.bind_some, filtS_of_filtO h3]
      rfl
    · rw [if_neg hb] at h
      rw [Option.bind_some, Option.bind_some, if_neg hb]
      exact filtS_of_filtO h
theorem mapS_of_mapO {f : α → Option β} : ∀ {ds : List α} {r : List β}, mapO f ds = some r → mapS (fun (_ : Unit) x => (f x).bind fun y => some (y, ())) () ds = some (r, ())
  | [], r, h => by cases h; rfl
  | d :: ds, r, h => by
    obtain ⟨y, h1, h⟩ := ob h
    obtain ⟨ys, h2, h⟩ := ob h
    cases h
    show (((f d).bind fun y => some (y, ())).bind fun y => (mapS _ y.2 ds).bind fun ys => some (y.1 :: ys.1, ys.2)) = some (y :: ys, ())
    rw [h1, Option.bind_some, Option.bind_some, mapS_of_mapO h2]
    rfl
/-- no test, a state -/
theorem lc_s {g : TG} {te : TE} {vs : List Nat} {σ : St} {H1 : Hp} {Q : VK} {B : Av} (w : TW K J B H1 ds) (f : σ' → α → Option (β × σ')) (s0 : σ') (r : List β × σ') (hm : mapS f s0 ds = some r) (hz : ds.length ≤ big)
    (C : Av) (hC : ∀ a, C a → A a ∧ B a ∧ H1 a ≠ none) (I : Av → σ' → Hp → Prop) (hI : ∀ A B s H H', I A s H → (∀ a, C a → H' a = H a) → Le A H B H' → (∀ a, C a → B a) → I B s H') (h0 : I A s0 H1)
    (hs : ∀ D, H1 D = none → ∀ s d y v H', f s d = some y → I (ins D A) s H' → Kp C H1 H' → H' D ≠ none → rp K (ins D B) H' v d → ∀ (M : V → Hp → Prop),
      (∀ u H4, Kp C H' H4 → I (ins D A) y.2 H4 → rp K (ins D A) H4 u y.1 → M u H4) →
      g v (wipe σ vs) H' fun σ2 H2 => wipe σ2 vs = wipe σ vs ∧ te σ2 H2 M)
    (hd : ∀ D H, H1 D = none → Kp C H1 H → I A r.2 H → New K A H D r.1 → Q (.ref D) H) : LcQ g tYes te vs σ Q J H1 :=
  lc_g w (fun s _ => some (true, s)) f s0 r (filtS_of_mapS hm) hz C hC I hI h0 (fun D hD s d b v H' hb hi k e rv N M _ hM hy => by
    cases hb
    obtain ⟨y, hy⟩ := hy rfl
    exact hs D hD s d y v H' hy hi k e rv M fun u H4 => hM y rfl hy u H4) hd
/-- a test, nothing changes -/
theorem lc_f {g : TG} {tt : TT} {te : TE} {vs : List Nat} {σ : St} {H1 : Hp} {Q : VK} {B : Av} (w : TW K J B H1 ds) (t : α → Option Bool) (f : α → Option β) (r : List β) (hm : filtO t f ds = some r) (hz : ds.length ≤ big)
    (hs : ∀ D, H1 D = none → ∀ d b v H', t d = some b → Ex H1 H' → H' D ≠ none → rp K (ins D B) H' v d → ∀ (N : Hp → Prop) (M : V → Hp → Prop),
      (b = false → ∀ H3, Ex H' H3 → N H3) → (∀ y, b = true → f d = some y → ∀ u H4, Ex H' H4 → rp K (ins D A) H4 u y → M u H4) → (b = true → ∃ y, f d = some y) →
      g v (wipe σ vs) H' fun σ2 H2 => wipe σ2 vs = wipe σ vs ∧ tt σ2 H2 fun b H3 => if b = true then te σ2 H3 M else N H3)
    (hd : ∀ D H, H1 D = none → Ex H1 H → New K A H D r → Q (.ref D) H) : LcQ g tt te vs σ Q J H1 :=
  lc_g w _ _ () (r, ()) (filtS_of_filtO hm) hz no (fun _ z => z.elim) (fun _ _ _ => True) (fun _ _ _ _ _ _ _ _ _ => trivial) trivial (fun D hD s d b v H' hb _ k e rv N M hN hM hy => by
    obtain ⟨b1, h1, hb⟩ := ob hb
    cases hb
    refine hs D hD d b1 v H' h1 k.ex e rv N M (fun q H3 x => hN q H3 x.kp trivial) (fun y q hy u H4 x ru => hM (y, ()) q (by rw [hy]; rfl) u H4 x.kp trivial ru) (fun q => ?_)
    obtain ⟨y, hy⟩ := hy q
    obtain ⟨y1, h2, _⟩ := ob hy
    exact ⟨y1, h2⟩) (fun D H hD k _ n => hd D H hD k.ex n)
/-- no test, nothing changes -/
theorem lc_m {g : TG} {te : TE} {vs : List Nat} {σ : St} {H1 : Hp} {Q : VK} {B : Av} (w : TW K J B H1 ds) (f : α → Option β) (r : List β) (hm : mapO f ds = some r) (hz : ds.length ≤ big)
    (hs : ∀ D, H1 D = none → ∀ d y v H', f d = some y → Ex H1 H' → H' D ≠ none → rp K (ins D B) H' v d → ∀ (M : V → Hp → Prop), (∀ u H4, Ex H' H4 → rp K (ins D A) H4 u y → M u H4) →
      g v (wipe σ vs) H' fun σ2 H2 => wipe σ2 vs = wipe σ vs ∧ te σ2 H2 M)
    (hd : ∀ D H, H1 D = none → Ex H1 H → New K A H D r → Q (.ref D) H) : LcQ g tYes te vs σ Q J H1 :=
  lc_s w _ () (r, ()) (mapS_of_mapO hm) hz no (fun _ z => z.elim) (fun _ _ _ => True) (fun _ _ _ _ _ _ _ _ _ => trivial) trivial (fun D hD s d y v H' hy _ k e rv M hM => by
    obtain ⟨y1, h1, hy⟩ := ob hy
    cases hy
    exact hs D hD d y1 v H' h1 k.ex e rv M fun u H4 x ru => hM u H4 x.kp trivial ru) (fun D H hD k _ n => hd D H hD k.ex n)
end


/-! ### cells -/
/-- what stands at an owned address -/
class Cl (γ : Type) where
  cont : PySem.W.Frag → Av → Hp → γ → HO → Prop
  le : ∀ {K : PySem.W.Frag} {A B : Av} {H H' : Hp} {c : γ} {o : HO}, Le A H B H' → cont K A H c o → cont K B H' c o
structure H2 (α β : Type) where
  a : α
  b : β
  deriving DecidableEq
structure H3 (α β γ : Type) where
  a : α
  b : β
  c : γ
  deriving DecidableEq
structure H5 (α β γ δ ε : Type) where
  a : α
  b : β
  c : γ
  d : δ
  e : ε
  deriving DecidableEq
instance {α : Type} [Rp α] : Cl (List α) := ⟨fun K A H ds o => ds.length ≤ big ∧ ∃ xs, o = .lst xs ∧ All K A H xs ds, fun e ⟨l, xs, h1, h2⟩ => ⟨l, xs, h1, h2.le e⟩⟩
instance {α β : Type} [Rp α] [Rp β] : Cl (H2 α β) := ⟨fun K A H c o => ∃ v1 v2, o = .lst [v1, v2] ∧ rp K A H v1 c.a ∧ rp K A H v2 c.b,
  fun e ⟨v1, v2, h, h1, h2⟩ => ⟨v1, v2, h, Rp.le e h1, Rp.le e h2⟩⟩
instance {α β γ δ ε : Type} [Rp α] [Rp β] [Rp γ] [Rp δ] [Rp ε] : Cl (H5 α β γ δ ε) := ⟨fun K A H c o => ∃ v1 v2 v3 v4 v5, o = .lst [v1, v2, v3, v4, v5] ∧ rp K A H v1 c.a ∧ rp K A H v2 c.b ∧ rp K A H v3 c.c ∧ rp K A H v4 c.d ∧ rp K A H v5 c.e,
  fun e ⟨v1, v2, v3, v4, v5, h, h1, h2, h3, h4, h5⟩ => ⟨v1, v2, v3, v4, v5, h, Rp.le e h1, Rp.le e h2, Rp.le e h3, Rp.le e h4, Rp.le e h5⟩⟩
/-- lists of a fixed length that stand still -/
instance {α β : Type} [Rp α] [Rp β] : Rp (H2 α β) := ⟨fun K A H v c => ∃ p v1 v2, v = .ref p ∧ LsA A H p [v1, v2] ∧ rp K A H v1 c.a ∧ rp K A H v2 c.b,
  fun e ⟨p, v1, v2, h, t, h1, h2⟩ => ⟨p, v1, v2, h, t.le e, Rp.le e h1, Rp.le e h2⟩⟩
instance {α β γ δ ε : Type} [Rp α] [Rp β] [Rp γ] [Rp δ] [Rp ε] : Rp (H5 α β γ δ ε) := ⟨fun K A H v c => ∃ p v1 v2 v3 v4 v5, v = .ref p ∧ LsA A H p [v1, v2, v3, v4, v5] ∧ rp K A H v1 c.a ∧ rp K A H v2 c.b ∧ rp K A H v3 c.c ∧ rp K A H v4 c.d ∧ rp K A H v5 c.e,
  fun e ⟨p, v1, v2, v3, v4, v5, h, t, h1, h2, h3, h4, h5⟩ => ⟨p, v1, v2, v3, v4, v5, h, t.le e, Rp.le e h1, Rp.le e h2, Rp.le e h3, Rp.le e h4, Rp.le e h5⟩⟩
structure Own {γ : Type} [Cl γ] (K : PySem.W.Frag) (A : Av) (H : Hp) (p : Addr) (c : γ) : Prop where
  av : A p
  at_ : ∃ o, H p = some o ∧ Cl.cont K A H c o
/-- the avoided stand in the heap -/
def Dm (A : Av) (H : Hp) : Prop := ∀ a, A a → H a ≠ none
def dom (H : Hp) : Av := fun a => H a ≠ none
theorem c1_sub {A : Av} {p : Addr} (h : A p) : ∀ a, c1 p a → A a := fun _ z => z ▸ h
theorem c1_fr {H : Hp} {p : Addr} (h : H p = none) : ∀ a, c1 p a → H a = none := fun _ z => z ▸ h
theorem un_sub {A S T : Av} (h : ∀ a, S a → A a) (g : ∀ a, T a → A a) : ∀ a, un S T a → A a := fun a z => z.elim (h a) (g a)
/-- a region that stays within when the set grows -/
theorem avi {A S T : Av} (h : ∀ a, S a → A a) : ∀ a, S a → un T A a := fun a z => .inr (h a z)
theorem av0 {S A : Av} : ∀ a, S a → un S A a := fun _ z => .inl z
/-- regions apart -/
def Dj (S T : Av) : Prop := ∀ a, S a → ¬ T a
theorem Dj.symm {S T : Av} (h : Dj S T) : Dj T S := fun a t s => h a s t
theorem Dj.no {S : Av} : Dj S no := fun _ _ z => z
theorem Dj.un {S T U : Av} (h : Dj S T) (g : Dj S U) : Dj S (un T U) := fun a s z => z.elim (h a s) (g a s)
/-- what stands is apart from what is new -/
theorem Dj.fresh {S T : Av} {H : Hp} (l : ∀ a, S a → H a ≠ none) (f : ∀ a, T a → H a = none) : Dj S T := fun a s t => l a s (f a t)
theorem no_sub {A : Av} : ∀ a, no a → A a := fun _ z => z.elim
theorem Dm.kp {A C : Av} {H H' : Hp} (d : Dm A H) (k : Kp C H H') : Dm A H' := fun a ha z => d a ha (k.dom z)
theorem Dm.ex {A : Av} {H H' : Hp} (d : Dm A H) (k : Ex H H') : Dm A H' := d.kp (C := no) k.kp
theorem Dm.ins {A : Av} {H : Hp} {p : Addr} (d : Dm A H) (h : H p ≠ none) : Dm (ins p A) H := fun a ha => ha.elim (fun z => z ▸ h) (d a)
theorem Dm.un {A S : Av} {H : Hp} (d : Dm A H) (h : ∀ a, S a → H a ≠ none) : Dm (un S A) H := fun a ha => ha.elim (h a) (d a)
theorem Dm.sub {A B : Av} {H : Hp} (d : Dm A H) (h : ∀ a, B a → A a) : Dm B H := fun a ha => d a (h a ha)
theorem Dm.no {H : Hp} : Dm no H := fun _ z => z.elim
theorem Dm.dom {H : Hp} : Dm (dom H) H := fun _ z => z
theorem Dm.not {A : Av} {H : Hp} {p : Addr} (d : Dm A H) (h : H p = none) : ¬ A p := fun z => d p z h
section
variable {γ : Type} [Cl γ] {K : PySem.W.Frag} {A B C : Av} {H H' : Hp} {p : Addr} {c : γ}
theorem Own.dom (h : Own K A H p c) : H p ≠ none := by
  obtain ⟨_, o, e, _⟩ := h
  rw [e]
  exact fun z => by cases z
theorem Own.lv (h : Own K A H p c) : ∀ a, c1 p a → H a ≠ none := fun _ z => z ▸ h.dom
theorem Own.avr (h : Own K A H p c) : ∀ a, c1 p a → A a := fun _ z => z ▸ h.av
theorem Own.le (h : Own K A H p c) (e : Le A H B H') (q : ∀ a, c1 p a → H' a = H a) (b : ∀ a, c1 p a → B a) : Own K B H' p c := by
  obtain ⟨_, o, ho, co⟩ := h
  exact ⟨b p rfl, o, (q p rfl).trans ho, Cl.le e co⟩
theorem Own.kp (h : Own K A H p c) (k : Kp C H H') (s : ∀ a, C a → A a) (n : Dj (c1 p) C) : Own K A H' p c := by
  obtain ⟨a, o, ho, co⟩ := id h
  exact h.le (k.le s) (fun b z => z ▸ (((k p o ho).2 (.inl (n p rfl))).trans ho.symm)) h.avr
theorem Own.ex (h : Own K A H p c) (k : Ex H H') : Own K A H' p c := h.kp (C := no) k.kp no_sub Dj.no
theorem Own.ins (h : Own K A H p c) {q : Addr} (hq : H q = none) : Own K (G.ins q A) H p c := h.le (Le.grow hq) (fun _ _ => rfl) (avi h.avr)
theorem Own.un (h : Own K A H p c) {S : Av} (f : ∀ a, S a → H a = none) : Own K (G.un S A) H p c := h.le (Le.growS f) (fun _ _ => rfl) (avi h.avr)
/-- the cell under a smaller set, itself still within -/
theorem Own.sub (h : Own K A H p c) (s : ∀ a, B a → A a) (b : ∀ a, c1 p a → B a) : Own K B H p c := h.le (Le.drop s) (fun _ _ => rfl) b
end
section
variable {α β : Type} [Rp α] [Rp β] {K : PySem.W.Frag} {A B C : Av} {H H' : Hp} {p : Addr} {ds : List α}
theorem New.own (n : New K A H p ds) : Own K (ins p A) H p ds := by
  obtain ⟨acc, e, r⟩ := n.at_
  exact ⟨.inl rfl, _, e, n.len, acc, rfl, r⟩
theorem Own.rp (h : Own K A H p ds) (s : ∀ a, B a → A a) (n : Dj (c1 p) B) : Rp.rp K B H (.ref p) ds := by
  obtain ⟨_, o, e, l, xs, rfl, r⟩ := h
  exact ⟨l, p, xs, rfl, ⟨e, n p rfl⟩, r.le (Le.drop s)⟩
theorem Own.lst (h : Own K A H p ds) : ∃ xs, H p = some (.lst xs) ∧ All K A H xs ds ∧ ds.length ≤ big := by
  obtain ⟨_, o, e, l, xs, rfl, r⟩ := h
  exact ⟨xs, e, r, l⟩
theorem Own.ty (h : Own K A H p ds) : tyV K "list" (.ref p) H := by
  obtain ⟨xs, e, _⟩ := h.lst
  exact .inl ⟨rfl, xs, SqL.of e⟩
theorem rp_ty {v : V} (h : rp K A H v ds) : tyV K "list" v H := by
  obtain ⟨_, a, xs, rfl, h, _⟩ := h
  exact .inl ⟨rfl, xs, h.sq⟩
theorem rp_lst {v : V} (h : rp K A H v ds) : ∃ a xs, v = .ref a ∧ LsA A H a xs ∧ All K A H xs ds ∧ ds.length ≤ big := by
  obtain ⟨l, a, xs, e, h, r⟩ := h
  exact ⟨a, xs, e, h, r, l⟩
theorem Own.toNew (h : Own K A H p ds) (s : ∀ a, B a → A a) : New K B H p ds := by
  obtain ⟨av, o, e, l, xs, rfl, r⟩ := h
  exact ⟨l, xs, e, r.le (Le.drop fun a z => z.elim (fun z => z ▸ av) (s a))⟩
theorem New.sub (n : New K A H p ds) (s : ∀ a, B a → A a) : New K B H p ds := by
  obtain ⟨acc, e, r⟩ := n.at_
  exact ⟨n.len, acc, e, r.le (Le.drop fun a z => z.elim .inl fun z => .inr (s a z))⟩
theorem New.le (n : New K A H p ds) (l : Le A H A H') (h : ¬ A p) : New K A H' p ds := by
  obtain ⟨acc, e, r⟩ := n.at_
  exact ⟨n.len, acc, l.keep _ _ e (.inl h), r.le ⟨fun a o e z => l.keep a o e (z.imp (fun n z => n (.inr z)) id), fun _ _ _ n => n⟩⟩
/-- a new list, cut out or copied: what its items are -/
theorem New.mk' {xs : List V} (hp : H p = none) (r : All K A H xs ds) (l : ds.length ≤ big) : New K A (upd H p (.lst xs)) p ds :=
  ⟨l, xs, upd_same, r.le ((Le.grow hp).trans (Ex.new hp).le)⟩
end

/-! ### cuts -/
section
open PySem.Spec PyProof.Rows
variable {X : Cx} {e : Expr}
theorem pe_cut {t : TE} (h : PE X e t) : PE X e (fun σ H Q => ∃ P : V → Hp → Prop, t σ H P ∧ ∀ v H', P v H' → Q v H') := ⟨fun pins s σ H Q I ⟨P, h1, h2⟩ =>
  thn (h.run pins s σ H P I h1) fun _ _ ⟨v, H', I', r, q⟩ => ⟨v, H', I', r, h2 v H' q⟩⟩
theorem pt_cut {t : TT} (h : PT X e t) : PT X e (fun σ H Q => ∃ P : Bool → Hp → Prop, t σ H P ∧ ∀ b H', P b H' → Q b H') := ⟨fun pins s σ H Q I ⟨P, h1, h2⟩ =>
  thn (h.run pins s σ H P I h1) fun b _ ⟨H', I', q⟩ => ⟨H', I', h2 b H' q⟩⟩
theorem pss_cut {st : Stmt} {rest : List Stmt} {t u : TS} (h1 : PS X st t) (h2 : PSs X rest u) : PSs X (st :: rest) (fun D σ H => ∃ Mid : L2.St → Hp → Prop, t { D with nx := Mid } σ H ∧ ∀ σ' H', Mid σ' H' → u D σ' H') := by
  refine ⟨fun pins s σ H D I h => ?_⟩
  obtain ⟨Mid, hm, hu⟩ := h
  refine wpAny_execs_cons (thn (h1.run pins s σ H { D with nx := Mid } I hm) fun f s1 q => ?_)
  cases f with
  | next =>
    obtain ⟨σ', H', I', q⟩ := q
    exact h2.run pins s1 σ' H' D I' (hu σ' H' q)
  | ret v => exact q
  | brk => exact q
  | cont => exact q
end
theorem ifT {α : Type} {c : Prop} [Decidable c] {a b : α} {r : α} (h : c) (e : (if c then a else b) = r) : a = r := (if_pos h).symm.trans e
theorem ifF {α : Type} {c : Prop} [Decidable c] {a b : α} {r : α} (h : ¬ c) (e : (if c then a else b) = r) : b = r := (if_neg h).symm.trans e
theorem si {α : Type} {a b : α} (h : some a = some b) : a = b := Option.some.inj h

/-! ### the mirror's words that may fail -/
def appO {α : Type} (ds : List α) (d : α) : Option (List α) := if ds.length < big then some (ds ++ [d]) else none
theorem appO_of {α : Type} {ds r : List α} {d : α} (h : appO ds d = some r) : ds.length < big ∧ r = ds ++ [d] := by
  unfold appO at h
  by_cases q : ds.length < big
  · rw [if_pos q] at h
    exact ⟨q, (si h).symm⟩
  · rw [if_neg q] at h
    cases h
def catO {α : Type} (ds es : List α) : Option (List α) := if ds.length + es.length ≤ big then some (ds ++ es) else none
theorem catO_of {α : Type} {ds es r : List α} (h : catO ds es = some r) : ds.length + es.length ≤ big ∧ r = ds ++ es := by
  unfold catO at h
  by_cases q : ds.length + es.length ≤ big
  · rw [if_pos q] at h
    exact ⟨q, (si h).symm⟩
  · rw [if_neg q] at h
    cases h
def mulO (i j : Int) : Option Int := if (-(2 ^ 64) < i ∧ i < 2 ^ 64) ∨ (-(2 ^ 64) < j ∧ j < 2 ^ 64) then some (i * j) else none
theorem mulO_of {i j r : Int} (h : mulO i j = some r) : CMul i j ∧ r = i * j := by
  unfold mulO at h
  by_cases q : (-(2 ^ 64) < i ∧ i < 2 ^ 64) ∨ (-(2 ^ 64) < j ∧ j < 2 ^ 64)
  · rw [if_pos q] at h
    exact ⟨q, (si h).symm⟩
  · rw [if_neg q] at h
    cases h
def modO (i j : Int) : Option Int := if 0 < j then some (i % j) else none
theorem modO_of {i j r : Int} (h : modO i j = some r) : 0 < j ∧ r = i % j := by
  unfold modO at h
  by_cases q : 0 < j
  · rw [if_pos q] at h
    exact ⟨q, (si h).symm⟩
  · rw [if_neg q] at h
    cases h
def divO (i j : Int) : Option Int := if 0 < j ∧ j < 1073741824 then some (i / j) else none
theorem divO_of {i j r : Int} (h : divO i j = some r) : (0 < j ∧ j < 1073741824) ∧ r = i / j := by
  unfold divO at h
  by_cases q : 0 < j ∧ j < 1073741824
  · rw [if_pos q] at h
    exact ⟨q, (si h).symm⟩
  · rw [if_neg q] at h
    cases h
def shlO (i j : Int) : Option Int := if 0 ≤ j ∧ j ≤ 1000000 ∧ i.natAbs < 2 ^ 64 then some (i * 2 ^ j.toNat) else none
theorem shlO_of {i j r : Int} (h : shlO i j = some r) : CPow i j ∧ r = i * 2 ^ j.toNat := by
  unfold shlO at h
  by_cases q : 0 ≤ j ∧ j ≤ 1000000 ∧ i.natAbs < 2 ^ 64
  · rw [if_pos q] at h
    exact ⟨q, (si h).symm⟩
  · rw [if_neg q] at h
    cases h
def powO (i j : Int) : Option Int := if 0 ≤ j ∧ j ≤ 1000000 ∧ i.natAbs < 2 ^ 64 then some (i ^ j.toNat) else none
theorem powO_of {i j r : Int} (h : powO i j = some r) : CPow i j ∧ r = i ^ j.toNat := by
  unfold powO at h
  by_cases q : 0 ≤ j ∧ j ≤ 1000000 ∧ i.natAbs < 2 ^ 64
  · rw [if_pos q] at h
    exact ⟨q, (si h).symm⟩
  · rw [if_neg q] at h
    cases h
def shrO (i j : Int) : Option Int := if 0 ≤ j then some (i / 2 ^ j.toNat) else none
theorem shrO_of {i j r : Int} (h : shrO i j = some r) : 0 ≤ j ∧ r = i / 2 ^ j.toNat := by
  unfold shrO at h
  by_cases q : 0 ≤ j
  · rw [if_pos q] at h
    exact ⟨q, (si h).symm⟩
  · rw [if_neg q] at h
    cases h
def rng1 (j : Int) : Option (List Int) := if -1000000 ≤ j ∧ j ≤ 1000000 then some (rng 0 j.toNat) else none
theorem rng1_of {j : Int} {r : List Int} (h : rng1 j = some r) : ((-1000000 ≤ j ∧ j ≤ 1000000) ∧ (rng 0 j.toNat).length ≤ big) ∧ r = rng 0 j.toNat := by
  unfold rng1 at h
  by_cases q : -1000000 ≤ j ∧ j ≤ 1000000
  · rw [if_pos q] at h
    refine ⟨⟨q, ?_⟩, (si h).symm⟩
    rw [rng_length]
    show _ ≤ 1000000
    omega
  · rw [if_neg q] at h
    cases h
theorem rng_b {j : Int} (h : -1000000 ≤ j ∧ j ≤ 1000000) : -(2 ^ 62) ≤ j ∧ j < 2 ^ 62 := by omega
theorem rng_b2 {lo hi : Int} (h : (-1000000 ≤ lo ∧ lo ≤ 1000000) ∧ -1000000 ≤ hi ∧ hi ≤ 1000000) : -(2 ^ 62) ≤ lo ∧ lo < 2 ^ 62 ∧ -(2 ^ 62) ≤ hi ∧ hi < 2 ^ 62 := by omega
def rng2 (lo hi : Int) : Option (List Int) := if (-1000000 ≤ lo ∧ lo ≤ 1000000) ∧ -1000000 ≤ hi ∧ hi ≤ 1000000 ∧ hi - lo ≤ 1000000 then some (rng lo (hi - lo).toNat) else none
theorem rng2_of {lo hi : Int} {r : List Int} (h : rng2 lo hi = some r) : (((-1000000 ≤ lo ∧ lo ≤ 1000000) ∧ -1000000 ≤ hi ∧ hi ≤ 1000000) ∧ (rng lo (hi - lo).toNat).length ≤ big) ∧ r = rng lo (hi - lo).toNat := by
  unfold rng2 at h
  by_cases q : (-1000000 ≤ lo ∧ lo ≤ 1000000) ∧ -1000000 ≤ hi ∧ hi ≤ 1000000 ∧ hi - lo ≤ 1000000
  · rw [if_pos q] at h
    refine ⟨⟨⟨q.1, q.2.1, q.2.2.1⟩, ?_⟩, (si h).symm⟩
    rw [rng_length]
    show _ ≤ 1000000
    omega
  · rw [if_neg q] at h
    cases h
def addS (x y : Str) : Option Str := if x.length + y.length ≤ big then some (x ++ y) else none
theorem addS_of {x y r : Str} (h : addS x y = some r) : x.length + y.length ≤ sizeLine ∧ r = x ++ y := by
  unfold addS at h
  by_cases q : x.length + y.length ≤ big
  · rw [if_pos q] at h
    exact ⟨big_le q, (si h).symm⟩
  · rw [if_neg q] at h
    cases h
/-- len of a text -/
def lenS (x : Str) : Option Unit := if x.length ≤ big then some () else none
theorem lenS_of {x : Str} {u : Unit} (h : lenS x = some u) : x.length ≤ sizeLine := by
  unfold lenS at h
  by_cases q : x.length ≤ big
  · exact big_le q
  · rw [if_neg q] at h
    cases h
theorem sgn_of {x : Str} {u : Unit} (h : lenS x = some u) : (sgn x).length ≤ big ∧ u = () := by
  unfold lenS at h
  by_cases q : x.length ≤ big
  · refine ⟨?_, rfl⟩
    unfold sgn
    rw [List.length_map, Array.length_toList]
    exact q
  · rw [if_neg q] at h
    cases h
/-- x in z, x one sign -/
def inS (x z : Str) : Bool := decide (x.cps.getD 0 0 ∈ z.cps.toList)
def sgnO (x : Str) : Option Unit := if x.cps.size = 1 then some () else none
theorem sgnO_of {x : Str} {u : Unit} (h : sgnO x = some u) : x = ⟨#[x.cps.getD 0 0]⟩ ∧ u = () := by
  unfold sgnO at h
  by_cases q : x.cps.size = 1
  · refine ⟨?_, rfl⟩
    obtain ⟨l⟩ := x
    have q' : l.size = 1 := q
    obtain ⟨c, rfl⟩ := Array.size_eq_one_iff.mp q'
    rfl
  · rw [if_neg q] at h
    cases h
/-- x[i] of a text -/
def ixS (x : Str) (i : Int) : Option Str := if x.length ≤ big then (atI x.cps.toList i).map fun c => (⟨#[c]⟩ : Str) else none
theorem ixS_of {x r : Str} {i : Int} (h : ixS x i = some r) : ∃ c, (x.length ≤ sizeLine ∧ atI x.cps.toList i = some c) ∧ r = ⟨#[c]⟩ := by
  unfold ixS at h
  by_cases q : x.length ≤ big
  · rw [if_pos q] at h
    cases e : atI x.cps.toList i with
    | none =>
      rw [e] at h
      cases h
    | some c =>
      rw [e] at h
      exact ⟨c, ⟨big_le q, rfl⟩, (si h).symm⟩
  · rw [if_neg q] at h
    cases h
def slS (x : Str) (lo hi : Option Int) : Option Str := if x.length ≤ big then some (cutS x lo hi) else none
theorem slS_of {x r : Str} {lo hi : Option Int} (h : slS x lo hi = some r) : x.length ≤ sizeLine ∧ r = cutS x lo hi := by
  unfold slS at h
  by_cases q : x.length ≤ big
  · rw [if_pos q] at h
    exact ⟨big_le q, (si h).symm⟩
  · rw [if_neg q] at h
    cases h
/-- x.index(y), found -/
def idxS (x y : Str) : Option Int := match Builtin.Str.occurrences x y 0 x.length 1 with
  | i :: _ => some (i : Int)
  | [] => none
theorem idxS_of {x y : Str} {r : Int} (h : idxS x y = some r) : ∃ (i : Nat) (rest : List Nat), Builtin.Str.occurrences x y 0 x.length 1 = i :: rest ∧ r = (i : Int) := by
  unfold idxS at h
  cases e : Builtin.Str.occurrences x y 0 x.length 1 with
  | nil =>
    rw [e] at h
    cases h
  | cons i rest =>
    rw [e] at h
    exact ⟨i, rest, rfl, (si h).symm⟩
def joinO (x : Str) (ys : List Str) : Option Str := if (ys.map (·.length)).sum + ys.length * x.length ≤ 16777216 then some (Txt.join x ys) else none
theorem joinO_of {x r : Str} {ys : List Str} (h : joinO x ys = some r) : (ys.map (·.length)).sum + ys.length * x.length ≤ 16777216 ∧ r = Txt.join x ys := by
  unfold joinO at h
  by_cases q : (ys.map (·.length)).sum + ys.length * x.length ≤ 16777216
  · rw [if_pos q] at h
    exact ⟨q, (si h).symm⟩
  · rw [if_neg q] at h
    cases h
/-- the first place of an item -/
def idxO {α : Type} [DecidableEq α] (ds : List α) (d : α) : Option Nat := if d ∈ ds then some (ds.idxOf d) else none
def setO {α : Type} (ds : List α) (i : Int) (d : α) : Option (List α) := (ixN ds.length i).map fun j => ds.set j d
/-- the items with their numbers -/
def enumL {α : Type} (ds : List α) : List (T2 Int α) := ds.zipIdx.map fun p => ⟨(p.2 : Int), p.1⟩
theorem enumL_len {α : Type} {ds : List α} (h : ds.length ≤ big) : (enumL ds).length ≤ big := by
  unfold enumL
  rw [List.length_map, List.length_zipIdx]
  exact h
def cutL {α : Type} (xs : List α) (lo hi : Option Int) : List α := (xs.drop (HT.sIx xs.length 0 lo)).take (HT.sIx xs.length xs.length hi - HT.sIx xs.length 0 lo)
theorem cutL_len {α : Type} (xs : List α) (lo hi : Option Int) : (cutL xs lo hi).length ≤ xs.length := by
  unfold cutL
  rw [List.length_take, List.length_drop]
  omega
section
variable {σ ρ γ : Type}
/-- behind a for that may return -/
def Ctl.go : Ctl σ ρ → (ρ → Option γ) → (σ → Option γ) → Option γ
  | .nx s, _, g => g s
  | .bk _, _, _ => none
  | .rt r, f, _ => f r
end
/-- the script's ints -/
structure Script where
  l : List Int
def nil : Hp := fun _ => none
/-- the handed list stands still, in the heap or in the written part -/
instance : Rp Script := ⟨fun K _ H v x => ∃ a, v = .ref a ∧ ((∃ o, H a = some (.frz o (.lst (x.l.map V.int)))) ∨ SqL K nil a (x.l.map V.int)), fun e ⟨a, h1, h2⟩ => ⟨a, h1, h2.imp (fun ⟨o, h⟩ => ⟨o, e.keep _ _ h (.inr trivial)⟩) id⟩⟩
theorem scr_sq {K : PySem.W.Frag} {H : Hp} {a : Addr} {xs : List V} (h : (∃ o, H a = some (.frz o (.lst xs))) ∨ SqL K nil a xs) : SqL K H a xs := by
  rcases h with ⟨o, h⟩ | (h | ⟨o, h⟩) | h
  · exact .inl (.inr ⟨o, h⟩)
  · cases h
  · cases h
  · exact .inr h
/-- what the head hands over -/
theorem scr_of {K : PySem.W.Frag} {A : Av} {H : Hp} {a : Addr} {ns : List Int} (o : Only H) (h : SqL K H a (ns.map V.int)) : Rp.rp K A H (.ref a) (⟨ns⟩ : Script) := by
  refine ⟨a, rfl, ?_⟩
  rcases h with (h | h) | h
  · rcases o a with z | ⟨o', xs, z⟩
    · rw [z] at h
      cases h
    · rw [z] at h
      cases h
  · exact .inl h
  · exact .inr (.inr h)

/-! ### readings, one step each -/
theorem ins_sub {A B S : Av} (h : ∀ a, A a → B a) : ∀ a, un S A a → un S B a := fun a z => z.elim .inl fun z => .inr (h a z)
/-- what leans on no avoided address -/
class Im (α : Type) [Rp α] : Prop where
  any : ∀ {K : PySem.W.Frag} {A B : Av} {H : Hp} {v : V} {x : α}, rp K A H v x → rp K B H v x
theorem Im.list {α : Type} [Rp α] [Im α] {K : PySem.W.Frag} {A B : Av} {H : Hp} {xs : List V} {ds : List α} (h : All K A H xs ds) : All K B H xs ds := by
  induction h with
  | nil => exact .nil
  | cons r _ ih => exact .cons (Im.any r) ih
instance : Im Int := ⟨fun h => h⟩
instance : Im Bool := ⟨fun h => h⟩
instance : Im Str := ⟨fun h => h⟩
instance : Im Unit := ⟨fun h => h⟩
instance : Im Script := ⟨fun h => h⟩
instance {α : Type} [Rp α] [Im α] : Im (Option α) := ⟨fun {K A B H v x} h => by
  cases x with
  | none => exact h
  | some y => exact ⟨h.1, Im.any h.2⟩⟩
instance {α : Type} [Rp α] [Im α] : Im (Tup α) := ⟨fun ⟨l, a, xs, h1, h2, h3⟩ => ⟨l, a, xs, h1, h2, Im.list h3⟩⟩
instance {α β : Type} [Rp α] [Rp β] [Im α] [Im β] : Im (T2 α β) := ⟨fun ⟨p, v1, v2, h, t, h1, h2⟩ => ⟨p, v1, v2, h, t, Im.any h1, Im.any h2⟩⟩
instance {α β γ : Type} [Rp α] [Rp β] [Rp γ] [Im α] [Im β] [Im γ] : Im (T3 α β γ) := ⟨fun ⟨p, v1, v2, v3, h, t, h1, h2, h3⟩ => ⟨p, v1, v2, v3, h, t, Im.any h1, Im.any h2, Im.any h3⟩⟩
instance {α β γ δ : Type} [Rp α] [Rp β] [Rp γ] [Rp δ] [Im α] [Im β] [Im γ] [Im δ] : Im (T4 α β γ δ) := ⟨fun ⟨p, v1, v2, v3, v4, h, t, h1, h2, h3, h4⟩ => ⟨p, v1, v2, v3, v4, h, t, Im.any h1, Im.any h2, Im.any h3, Im.any h4⟩⟩
/-- a cell whose content leans on none -/
class Ic (γ : Type) [Cl γ] : Prop where
  any : ∀ {K : PySem.W.Frag} {A B : Av} {H : Hp} {c : γ} {o : HO}, Cl.cont K A H c o → Cl.cont K B H c o
instance {α : Type} [Rp α] [Im α] : Ic (List α) := ⟨fun ⟨l, xs, h1, h2⟩ => ⟨l, xs, h1, Im.list h2⟩⟩
instance {α β : Type} [Rp α] [Rp β] [Im α] [Im β] : Ic (H2 α β) := ⟨fun ⟨v1, v2, h, h1, h2⟩ => ⟨v1, v2, h, Im.any h1, Im.any h2⟩⟩
theorem Own.any {γ : Type} [Cl γ] [Ic γ] {K : PySem.W.Frag} {A B : Av} {H : Hp} {p : Addr} {c : γ} (h : Own K A H p c) (b : ∀ a, c1 p a → B a) : Own K B H p c := by
  obtain ⟨_, o, e, co⟩ := h
  exact ⟨b p rfl, o, e, Ic.any co⟩

/-- a list that is read: its items under A -/
structure Lst {α : Type} [Rp α] (K : PySem.W.Frag) (A : Av) (H : Hp) (v : V) (ds : List α) : Prop where
  at_ : ∃ a xs, v = .ref a ∧ H a = some (.lst xs) ∧ All K A H xs ds
  len : ds.length ≤ big
section
variable {α β γ δ ε : Type} [Rp α] [Rp β] [Rp γ] [Rp δ] [Rp ε] {K : PySem.W.Frag} {A B C L : Av} {H : Hp} {p : Addr} {v u : V} {Q : VK}
theorem rp_lst' {ds : List α} (h : rp K A H v ds) : Lst K A H v ds := by
  obtain ⟨l, a, xs, e, h, r⟩ := h
  exact ⟨⟨a, xs, e, h.1, r⟩, l⟩
theorem Own.lst' {ds : List α} (h : Own K A H p ds) : Lst K A H (.ref p) ds := by
  obtain ⟨xs, e, r, l⟩ := h.lst
  exact ⟨⟨p, xs, rfl, e, r⟩, l⟩
theorem Lst.any [Im α] {ds : List α} (h : Lst K A H v ds) : Lst K B H v ds := by
  obtain ⟨⟨a, xs, e, h, r⟩, l⟩ := h
  exact ⟨⟨a, xs, e, h, Im.list r⟩, l⟩
theorem Lst.sub {ds : List α} (h : Lst K A H v ds) (s : ∀ a, B a → A a) : Lst K B H v ds := by
  obtain ⟨⟨a, xs, e, h, r⟩, l⟩ := h
  exact ⟨⟨a, xs, e, h, r.le (Le.drop s)⟩, l⟩
theorem Lst.ty {ds : List α} (h : Lst K A H v ds) : tyV K "list" v H := by
  obtain ⟨⟨a, xs, rfl, h, _⟩, _⟩ := h
  exact .inl ⟨rfl, xs, SqL.of h⟩
/-- a list that stands, for a walk -/
theorem rp_walk {ds : List α} (h : rp K A H v ds) : ∃ a xs, v = .ref a ∧ LsA A H a xs ∧ All K A H xs ds ∧ ds.length ≤ big := by
  obtain ⟨l, a, xs, e, h, r⟩ := h
  exact ⟨a, xs, e, h, r, l⟩
theorem rp_walkV {ds : Tup α} (h : rp K A H v ds) : ∃ a xs, v = .ref a ∧ SqT K H a xs ∧ All K A H xs ds.l ∧ ds.l.length ≤ big := by
  obtain ⟨l, a, xs, e, h, r⟩ := h
  exact ⟨a, xs, e, h, r, l⟩
theorem atI_all {xs : List V} {ds : List α} {i : Int} {d : α} (r : All K A H xs ds) (h : atI ds i = some d) : ∃ u, atI xs i = some u ∧ rp K A H u d := by
  unfold atI at h ⊢
  rw [r.length]
  cases q : ixN ds.length i with
  | none =>
    rw [q] at h
    cases h
  | some j =>
    rw [q] at h
    exact r.get h
/-- xs[i] -/
theorem g_ix {ds : List α} {i : Int} {d : α} (h : Lst K A H v ds) (hi : atI ds i = some d) (k : ∀ u, rp K A H u d → Q u H) : rIxL K v (.int i) H Q := by
  obtain ⟨⟨a, xs, rfl, e, r⟩, _⟩ := h
  obtain ⟨u, hu, ru⟩ := atI_all r hi
  exact ⟨a, xs, i, u, rfl, rfl, SqL.of e, hu, k u ru⟩
theorem g_ixs {ds : Script} {i : Int} {d : Int} (h : rp K A H v ds) (hi : atI ds.l i = some d) (k : ∀ u, rp K A H u d → Q u H) : rIxL K v (.int i) H Q := by
  obtain ⟨a, rfl, e⟩ := h
  obtain ⟨u, hu, ru⟩ := atI_all (K := K) (A := A) (H := H) (All.of_ints ds.l) hi
  exact ⟨a, _, i, u, rfl, rfl, scr_sq e, hu, k u ru⟩
theorem g_ixV {ds : Tup α} {i : Int} {d : α} (h : rp K A H v ds) (hi : atI ds.l i = some d) (k : ∀ u, rp K A H u d → Q u H) : rIxT K v (.int i) H Q := by
  obtain ⟨_, a, xs, rfl, la, r⟩ := h
  obtain ⟨u, hu, ru⟩ := atI_all r hi
  exact ⟨a, xs, i, u, rfl, rfl, la, hu, k u ru⟩
theorem g_len {ds : List α} (h : Lst K A H v ds) (k : Q (.int (ds.length : Int)) H) : rLenL K [v] H Q := by
  obtain ⟨⟨a, xs, rfl, e, r⟩, _⟩ := h
  exact ⟨a, xs, rfl, .inl (SqL.of e), by rw [r.length]; exact k⟩
theorem g_lenV {ds : Tup α} (h : rp K A H v ds) (k : Q (.int (ds.l.length : Int)) H) : rLenL K [v] H Q := by
  obtain ⟨_, a, xs, rfl, la, r⟩ := h
  exact ⟨a, xs, rfl, .inr la, by rw [r.length]; exact k⟩
theorem g_lens {ds : Script} (h : rp K A H v ds) (k : Q (.int (ds.l.length : Int)) H) : rLenL K [v] H Q := by
  obtain ⟨a, rfl, e⟩ := h
  exact ⟨a, _, rfl, .inl (scr_sq e), by rw [List.length_map]; exact k⟩
theorem g_all {bs : List Bool} (h : Lst K A H v bs) (k : Q (.bl (bs.all id)) H) : rAll K [v] H Q := by
  obtain ⟨⟨a, xs, rfl, e, r⟩, _⟩ := h
  rw [r.bls] at e
  exact ⟨a, bs, rfl, SqL.of e, k⟩
theorem g_any {bs : List Bool} (h : Lst K A H v bs) (k : Q (.bl (bs.any id)) H) : rAny K [v] H Q := by
  obtain ⟨⟨a, xs, rfl, e, r⟩, _⟩ := h
  rw [r.bls] at e
  exact ⟨a, bs, rfl, SqL.of e, k⟩
theorem g_join {x : Str} {ds : List Str} (h : Lst K A H v ds) (c : (ds.map (·.length)).sum + ds.length * x.length ≤ 16777216) (k : Q (.str (Txt.join x ds)) H) : rJoin K (.str x) [v] H Q := by
  obtain ⟨⟨a, xs, rfl, e, r⟩, l⟩ := h
  rw [r.strs] at e
  exact ⟨x, a, ds, rfl, rfl, .inl (SqL.of e), c, k⟩
/-- new lists -/
theorem g_mkL {ds : List α} {xs : List V} (l : ds.length ≤ big) (r : All K L H xs ds) (k : ∀ p H', H p = none → Ex H H' → New K L H' p ds → Q (.ref p) H') :
    rMkL xs H Q :=
  ⟨by rw [r.length]; exact big_le l, fun p hp => k p _ hp (Ex.new hp) (New.mk' hp r l)⟩
theorem g_cat {ds es : List α} (h : Lst K L H v ds) (g : Lst K L H u es) (l : ds.length + es.length ≤ big) (k : ∀ p H', H p = none → Ex H H' → New K L H' p (ds ++ es) → Q (.ref p) H') : rCat v u H Q := by
  obtain ⟨⟨a, xs, rfl, e, r⟩, _⟩ := h
  obtain ⟨⟨b, ys, rfl, f, s⟩, _⟩ := g
  refine ⟨a, b, xs, ys, rfl, rfl, e, f, by rw [r.length, s.length]; exact big_le l, fun p hp => k p _ hp (Ex.new hp) (New.mk' hp (r.append s) (by rw [List.length_append]; exact l))⟩
theorem All.cut {xs : List V} {ds : List α} (lo hi : Option Int) (r : All K A H xs ds) : All K A H (cutV xs lo hi) (cutL ds lo hi) := by
  unfold cutV cutL
  rw [r.length]
  exact (r.drop _).take _
theorem g_slL {ds : List α} {lo hi : Option Int} (h : Lst K L H v ds) (k : ∀ p H', H p = none → Ex H H' → New K L H' p (cutL ds lo hi) → Q (.ref p) H') : rSlL K v lo hi H Q := by
  obtain ⟨⟨a, xs, rfl, e, r⟩, l⟩ := h
  exact ⟨a, xs, rfl, SqL.of e, fun p hp => k p _ hp (Ex.new hp) (New.mk' hp (r.cut lo hi) (Nat.le_trans (cutL_len ds lo hi) l))⟩
theorem g_list {ds : List α} (h : Lst K L H v ds) (k : ∀ p H', H p = none → Ex H H' → New K L H' p ds → Q (.ref p) H') : rListQ K [v] H Q := by
  obtain ⟨⟨a, xs, rfl, e, r⟩, l⟩ := h
  exact ⟨a, xs, rfl, .inl (SqL.of e), fun p hp => k p _ hp (Ex.new hp) (New.mk' hp r l)⟩
theorem g_listV {ds : Tup α} (h : rp K L H v ds) (k : ∀ p H', H p = none → Ex H H' → New K L H' p ds.l → Q (.ref p) H') : rListQ K [v] H Q := by
  obtain ⟨l, a, xs, rfl, e, r⟩ := h
  exact ⟨a, xs, rfl, .inr e, fun p hp => k p _ hp (Ex.new hp) (New.mk' hp r l)⟩
theorem g_tuple {ds : List α} (h : Lst K L H v ds) (k : ∀ u H', Ex H H' → rp K L H' u (⟨ds⟩ : Tup α) → Q u H') : rTupQ K [v] H Q := by
  obtain ⟨⟨a, xs, rfl, e, r⟩, l⟩ := h
  exact ⟨a, xs, rfl, .inl ⟨SqL.of e, fun p hp => k _ _ (Ex.new hp) ⟨l, p, xs, rfl, SqT.of upd_same, r.le (Ex.new hp).le⟩⟩⟩
/-- new tuples -/
theorem g_mkT2 {v1 v2 : V} {x : T2 α β} (h1 : rp K L H v1 x.a) (h2 : rp K L H v2 x.b) (k : ∀ u H', Ex H H' → rp K L H' u x → Q u H') :
    rMkT [v1, v2] H Q :=
  ⟨by show 2 ≤ sizeLine; decide, fun p hp => k _ _ (Ex.new hp) ⟨p, v1, v2, rfl, SqT.of upd_same, Rp.le (Ex.new hp).le h1, Rp.le (Ex.new hp).le h2⟩⟩
theorem g_mkT3 {v1 v2 v3 : V} {x : T3 α β γ} (h1 : rp K L H v1 x.a) (h2 : rp K L H v2 x.b) (h3 : rp K L H v3 x.c) (k : ∀ u H', Ex H H' → rp K L H' u x → Q u H') :
    rMkT [v1, v2, v3] H Q :=
  ⟨by show 3 ≤ sizeLine; decide, fun p hp => k _ _ (Ex.new hp) ⟨p, v1, v2, v3, rfl, SqT.of upd_same, Rp.le (Ex.new hp).le h1, Rp.le (Ex.new hp).le h2, Rp.le (Ex.new hp).le h3⟩⟩
theorem g_mkH2 {v1 v2 : V} {x : H2 α β} (dm : Dm L H) (h1 : rp K L H v1 x.a) (h2 : rp K L H v2 x.b) (k : ∀ u H', Ex H H' → rp K L H' u x → Q u H') :
    rMkL [v1, v2] H Q :=
  ⟨by show 2 ≤ sizeLine; decide, fun p hp => k _ _ (Ex.new hp) ⟨p, v1, v2, rfl, ⟨upd_same, dm.not hp⟩, Rp.le (Ex.new hp).le h1, Rp.le (Ex.new hp).le h2⟩⟩
theorem g_divmod {i j : Int} (c : 0 < j ∧ j < 1073741824) (k : ∀ u H', Ex H H' → rp K L H' u (⟨i / j, i % j⟩ : T2 Int Int) → Q u H') :
    rDivm [V.int i, V.int j] H Q :=
  ⟨i, j, rfl, c, fun p hp => k _ _ (Ex.new hp) ⟨p, _, _, rfl, SqT.of upd_same, rfl, rfl⟩⟩
/-- parts of tuples and of lists of a fixed length -/
theorem g_T2_a {x : T2 α β} (h : rp K A H v x) (k : ∀ u, rp K A H u x.a → Q u H) : rIxT K v (.int (0 : Int)) H Q := by
  obtain ⟨p, v1, v2, rfl, t, h1, h2⟩ := h
  exact ⟨p, _, _, v1, rfl, rfl, t, rfl, k v1 h1⟩
theorem g_T2_b {x : T2 α β} (h : rp K A H v x) (k : ∀ u, rp K A H u x.b → Q u H) : rIxT K v (.int (1 : Int)) H Q := by
  obtain ⟨p, v1, v2, rfl, t, h1, h2⟩ := h
  exact ⟨p, _, _, v2, rfl, rfl, t, rfl, k v2 h2⟩
theorem g_O2_a {x : H2 α β} (h : Own K A H p x) (k : ∀ u, rp K A H u x.a → Q u H) : rIxL K (.ref p) (.int (0 : Int)) H Q := by
  obtain ⟨_, o, e, v1, v2, rfl, h1, h2⟩ := h
  exact ⟨p, _, _, v1, rfl, rfl, SqL.of e, rfl, k v1 h1⟩
theorem g_O2_b {x : H2 α β} (h : Own K A H p x) (k : ∀ u, rp K A H u x.b → Q u H) : rIxL K (.ref p) (.int (1 : Int)) H Q := by
  obtain ⟨_, o, e, v1, v2, rfl, h1, h2⟩ := h
  exact ⟨p, _, _, v2, rfl, rfl, SqL.of e, rfl, k v2 h2⟩
theorem g_set2_a {x : H2 α β} {d : α} {N : Hp → Prop} (h : Own K A H p x) (r : rp K A H u d) (k : ∀ H', Kp (c1 p) H H' → Own K A H' p { x with a := d } → N H') : rSetL (.ref p) (.int (0 : Int)) u H N := by
  obtain ⟨av, o, e, v1, v2, rfl, h1, h2⟩ := h
  have kw := Kp.write (u := .lst [u, v2]) e (fun z => z)
  have le : Le A H A (upd H p (.lst [u, v2])) := kw.le (c1_sub av)
  exact ⟨p, _, _, 0, rfl, rfl, e, rfl, k _ kw ⟨av, _, upd_same, u, v2, rfl, Rp.le le r, Rp.le le h2⟩⟩
theorem g_set2_b {x : H2 α β} {d : β} {N : Hp → Prop} (h : Own K A H p x) (r : rp K A H u d) (k : ∀ H', Kp (c1 p) H H' → Own K A H' p { x with b := d } → N H') : rSetL (.ref p) (.int (1 : Int)) u H N := by
  obtain ⟨av, o, e, v1, v2, rfl, h1, h2⟩ := h
  have kw := Kp.write (u := .lst [v1, u]) e (fun z => z)
  have le : Le A H A (upd H p (.lst [v1, u])) := kw.le (c1_sub av)
  exact ⟨p, _, _, 1, rfl, rfl, e, rfl, k _ kw ⟨av, _, upd_same, v1, u, rfl, Rp.le le h1, Rp.le le r⟩⟩
theorem g_app {ds : List α} {d : α} {Q : VK} (h : Own K A H p ds) (r : rp K A H u d) (l : ds.length < big) (k : ∀ H', Kp (c1 p) H H' → Own K A H' p (ds ++ [d]) → Q .non H') : rAppend (.ref p) [u] H Q := by
  obtain ⟨av, o, e, ll, xs, rfl, a⟩ := h
  have kw := Kp.write (u := .lst (xs ++ [u])) e (fun z => z)
  have le : Le A H A (upd H p (.lst (xs ++ [u]))) := kw.le (c1_sub av)
  exact ⟨p, xs, u, rfl, rfl, e, by rw [a.length]; exact big_lt l, k _ kw ⟨av, _, upd_same, by rw [List.length_append, List.length_singleton]; exact l, _, rfl, (a.le le).snoc (Rp.le le r)⟩⟩
theorem g_reverse {ds : List α} {Q : VK} (h : Own K A H p ds) (k : ∀ H', Kp (c1 p) H H' → Own K A H' p ds.reverse → Q .non H') : rReverse (.ref p) [] H Q := by
  obtain ⟨av, o, e, ll, xs, rfl, a⟩ := h
  have kw := Kp.write (u := .lst xs.reverse) e (fun z => z)
  have le : Le A H A (upd H p (.lst xs.reverse)) := kw.le (c1_sub av)
  exact ⟨p, xs, rfl, rfl, e, k _ kw ⟨av, _, upd_same, by rw [List.length_reverse]; exact ll, _, rfl, (a.le le).reverse⟩⟩
theorem g_clear {ds : List α} {Q : VK} (h : Own K A H p ds) (k : ∀ H', Kp (c1 p) H H' → Own K A H' p ([] : List α) → Q .non H') : rClear (.ref p) [] H Q := by
  obtain ⟨av, o, e, ll, xs, rfl, a⟩ := h
  have kw := Kp.write (u := .lst []) e (fun z => z)
  exact ⟨p, xs, rfl, rfl, e, k _ kw ⟨av, _, upd_same, Nat.zero_le _, _, rfl, .nil⟩⟩
/-- targets -/
theorem g_unT2 {t : TGs} {σ : L2.St} {N : L2.St → Hp → Prop} {x : T2 α β} (h : rp K A H v x) (k : ∀ u1, rp K A H u1 x.a → ∀ u2, rp K A H u2 x.b → t [u1, u2] σ H N) :
    gTup K 2 t v σ H N := by
  obtain ⟨p, v1, v2, rfl, t0, h1, h2⟩ := h
  exact ⟨p, _, rfl, t0, rfl, k v1 h1 v2 h2⟩
theorem g_unT3 {t : TGs} {σ : L2.St} {N : L2.St → Hp → Prop} {x : T3 α β γ} (h : rp K A H v x) (k : ∀ u1, rp K A H u1 x.a → ∀ u2, rp K A H u2 x.b → ∀ u3, rp K A H u3 x.c → t [u1, u2, u3] σ H N) :
    gTup K 3 t v σ H N := by
  obtain ⟨p, v1, v2, v3, rfl, t0, h1, h2, h3⟩ := h
  exact ⟨p, _, rfl, t0, rfl, k v1 h1 v2 h2 v3 h3⟩
theorem g_unT4 {t : TGs} {σ : L2.St} {N : L2.St → Hp → Prop} {x : T4 α β γ δ} (h : rp K A H v x) (k : ∀ u1, rp K A H u1 x.a → ∀ u2, rp K A H u2 x.b → ∀ u3, rp K A H u3 x.c → ∀ u4, rp K A H u4 x.d → t [u1, u2, u3, u4] σ H N) :
    gTup K 4 t v σ H N := by
  obtain ⟨p, v1, v2, v3, v4, rfl, t0, h1, h2, h3, h4⟩ := h
  exact ⟨p, _, rfl, t0, rfl, k v1 h1 v2 h2 v3 h3 v4 h4⟩
theorem g_unT5 {t : TGs} {σ : L2.St} {N : L2.St → Hp → Prop} {x : T5 α β γ δ ε} (h : rp K A H v x) (k : ∀ u1, rp K A H u1 x.a → ∀ u2, rp K A H u2 x.b → ∀ u3, rp K A H u3 x.c → ∀ u4, rp K A H u4 x.d → ∀ u5, rp K A H u5 x.e → t [u1, u2, u3, u4, u5] σ H N) :
    gTup K 5 t v σ H N := by
  obtain ⟨p, v1, v2, v3, v4, v5, rfl, t0, h1, h2, h3, h4, h5⟩ := h
  exact ⟨p, _, rfl, t0, rfl, k v1 h1 v2 h2 v3 h3 v4 h4 v5 h5⟩
theorem g_unH2 {t : TGs} {σ : L2.St} {N : L2.St → Hp → Prop} {x : H2 α β} (h : rp K A H v x) (k : ∀ u1, rp K A H u1 x.a → ∀ u2, rp K A H u2 x.b → t [u1, u2] σ H N) :
    gUnl K 2 t v σ H N := by
  obtain ⟨p, v1, v2, rfl, t0, h1, h2⟩ := h
  exact ⟨p, _, rfl, t0.sq, rfl, k v1 h1 v2 h2⟩
theorem g_unH5 {t : TGs} {σ : L2.St} {N : L2.St → Hp → Prop} {x : H5 α β γ δ ε} (h : rp K A H v x) (k : ∀ u1, rp K A H u1 x.a → ∀ u2, rp K A H u2 x.b → ∀ u3, rp K A H u3 x.c → ∀ u4, rp K A H u4 x.d → ∀ u5, rp K A H u5 x.e → t [u1, u2, u3, u4, u5] σ H N) :
    gUnl K 5 t v σ H N := by
  obtain ⟨p, v1, v2, v3, v4, v5, rfl, t0, h1, h2, h3, h4, h5⟩ := h
  exact ⟨p, _, rfl, t0.sq, rfl, k v1 h1 v2 h2 v3 h3 v4 h4 v5 h5⟩
theorem g_T3_a {x : T3 α β γ} (h : rp K A H v x) (k : ∀ u, rp K A H u x.a → Q u H) : rIxT K v (.int (0 : Int)) H Q := by
  obtain ⟨p, v1, v2, v3, rfl, t0, h1, h2, h3⟩ := h
  exact ⟨p, _, _, v1, rfl, rfl, t0, rfl, k v1 h1⟩
theorem g_T3_b {x : T3 α β γ} (h : rp K A H v x) (k : ∀ u, rp K A H u x.b → Q u H) : rIxT K v (.int (1 : Int)) H Q := by
  obtain ⟨p, v1, v2, v3, rfl, t0, h1, h2, h3⟩ := h
  exact ⟨p, _, _, v2, rfl, rfl, t0, rfl, k v2 h2⟩
theorem g_T3_c {x : T3 α β γ} (h : rp K A H v x) (k : ∀ u, rp K A H u x.c → Q u H) : rIxT K v (.int (2 : Int)) H Q := by
  obtain ⟨p, v1, v2, v3, rfl, t0, h1, h2, h3⟩ := h
  exact ⟨p, _, _, v3, rfl, rfl, t0, rfl, k v3 h3⟩
theorem g_T4_a {x : T4 α β γ δ} (h : rp K A H v x) (k : ∀ u, rp K A H u x.a → Q u H) : rIxT K v (.int (0 : Int)) H Q := by
  obtain ⟨p, v1, v2, v3, v4, rfl, t0, h1, h2, h3, h4⟩ := h
  exact ⟨p, _, _, v1, rfl, rfl, t0, rfl, k v1 h1⟩
theorem g_T4_b {x : T4 α β γ δ} (h : rp K A H v x) (k : ∀ u, rp K A H u x.b → Q u H) : rIxT K v (.int (1 : Int)) H Q := by
  obtain ⟨p, v1, v2, v3, v4, rfl, t0, h1, h2, h3, h4⟩ := h
  exact ⟨p, _, _, v2, rfl, rfl, t0, rfl, k v2 h2⟩
theorem g_T4_c {x : T4 α β γ δ} (h : rp K A H v x) (k : ∀ u, rp K A H u x.c → Q u H) : rIxT K v (.int (2 : Int)) H Q := by
  obtain ⟨p, v1, v2, v3, v4, rfl, t0, h1, h2, h3, h4⟩ := h
  exact ⟨p, _, _, v3, rfl, rfl, t0, rfl, k v3 h3⟩
theorem g_T4_d {x : T4 α β γ δ} (h : rp K A H v x) (k : ∀ u, rp K A H u x.d → Q u H) : rIxT K v (.int (3 : Int)) H Q := by
  obtain ⟨p, v1, v2, v3, v4, rfl, t0, h1, h2, h3, h4⟩ := h
  exact ⟨p, _, _, v4, rfl, rfl, t0, rfl, k v4 h4⟩
theorem g_T5_a {x : T5 α β γ δ ε} (h : rp K A H v x) (k : ∀ u, rp K A H u x.a → Q u H) : rIxT K v (.int (0 : Int)) H Q := by
  obtain ⟨p, v1, v2, v3, v4, v5, rfl, t0, h1, h2, h3, h4, h5⟩ := h
  exact ⟨p, _, _, v1, rfl, rfl, t0, rfl, k v1 h1⟩
theorem g_T5_b {x : T5 α β γ δ ε} (h : rp K A H v x) (k : ∀ u, rp K A H u x.b → Q u H) : rIxT K v (.int (1 : Int)) H Q := by
  obtain ⟨p, v1, v2, v3, v4, v5, rfl, t0, h1, h2, h3, h4, h5⟩ := h
  exact ⟨p, _, _, v2, rfl, rfl, t0, rfl, k v2 h2⟩
theorem g_T5_c {x : T5 α β γ δ ε} (h : rp K A H v x) (k : ∀ u, rp K A H u x.c → Q u H) : rIxT K v (.int (2 : Int)) H Q := by
  obtain ⟨p, v1, v2, v3, v4, v5, rfl, t0, h1, h2, h3, h4, h5⟩ := h
  exact ⟨p, _, _, v3, rfl, rfl, t0, rfl, k v3 h3⟩
theorem g_T5_d {x : T5 α β γ δ ε} (h : rp K A H v x) (k : ∀ u, rp K A H u x.d → Q u H) : rIxT K v (.int (3 : Int)) H Q := by
  obtain ⟨p, v1, v2, v3, v4, v5, rfl, t0, h1, h2, h3, h4, h5⟩ := h
  exact ⟨p, _, _, v4, rfl, rfl, t0, rfl, k v4 h4⟩
theorem g_T5_e {x : T5 α β γ δ ε} (h : rp K A H v x) (k : ∀ u, rp K A H u x.e → Q u H) : rIxT K v (.int (4 : Int)) H Q := by
  obtain ⟨p, v1, v2, v3, v4, v5, rfl, t0, h1, h2, h3, h4, h5⟩ := h
  exact ⟨p, _, _, v5, rfl, rfl, t0, rfl, k v5 h5⟩
theorem g_H2_a {x : H2 α β} (h : rp K A H v x) (k : ∀ u, rp K A H u x.a → Q u H) : rIxL K v (.int (0 : Int)) H Q := by
  obtain ⟨p, v1, v2, rfl, t0, h1, h2⟩ := h
  exact ⟨p, _, _, v1, rfl, rfl, t0.sq, rfl, k v1 h1⟩
theorem g_H2_b {x : H2 α β} (h : rp K A H v x) (k : ∀ u, rp K A H u x.b → Q u H) : rIxL K v (.int (1 : Int)) H Q := by
  obtain ⟨p, v1, v2, rfl, t0, h1, h2⟩ := h
  exact ⟨p, _, _, v2, rfl, rfl, t0.sq, rfl, k v2 h2⟩
theorem g_H5_a {x : H5 α β γ δ ε} (h : rp K A H v x) (k : ∀ u, rp K A H u x.a → Q u H) : rIxL K v (.int (0 : Int)) H Q := by
  obtain ⟨p, v1, v2, v3, v4, v5, rfl, t0, h1, h2, h3, h4, h5⟩ := h
  exact ⟨p, _, _, v1, rfl, rfl, t0.sq, rfl, k v1 h1⟩
theorem g_H5_b {x : H5 α β γ δ ε} (h : rp K A H v x) (k : ∀ u, rp K A H u x.b → Q u H) : rIxL K v (.int (1 : Int)) H Q := by
  obtain ⟨p, v1, v2, v3, v4, v5, rfl, t0, h1, h2, h3, h4, h5⟩ := h
  exact ⟨p, _, _, v2, rfl, rfl, t0.sq, rfl, k v2 h2⟩
theorem g_H5_c {x : H5 α β γ δ ε} (h : rp K A H v x) (k : ∀ u, rp K A H u x.c → Q u H) : rIxL K v (.int (2 : Int)) H Q := by
  obtain ⟨p, v1, v2, v3, v4, v5, rfl, t0, h1, h2, h3, h4, h5⟩ := h
  exact ⟨p, _, _, v3, rfl, rfl, t0.sq, rfl, k v3 h3⟩
theorem g_H5_d {x : H5 α β γ δ ε} (h : rp K A H v x) (k : ∀ u, rp K A H u x.d → Q u H) : rIxL K v (.int (3 : Int)) H Q := by
  obtain ⟨p, v1, v2, v3, v4, v5, rfl, t0, h1, h2, h3, h4, h5⟩ := h
  exact ⟨p, _, _, v4, rfl, rfl, t0.sq, rfl, k v4 h4⟩
theorem g_H5_e {x : H5 α β γ δ ε} (h : rp K A H v x) (k : ∀ u, rp K A H u x.e → Q u H) : rIxL K v (.int (4 : Int)) H Q := by
  obtain ⟨p, v1, v2, v3, v4, v5, rfl, t0, h1, h2, h3, h4, h5⟩ := h
  exact ⟨p, _, _, v5, rfl, rfl, t0.sq, rfl, k v5 h5⟩
theorem g_mkT4 {v1 v2 v3 v4 : V} {x : T4 α β γ δ} (h1 : rp K L H v1 x.a) (h2 : rp K L H v2 x.b) (h3 : rp K L H v3 x.c) (h4 : rp K L H v4 x.d) (k : ∀ u H', Ex H H' → rp K L H' u x → Q u H') :
    rMkT [v1, v2, v3, v4] H Q :=
  ⟨by show 4 ≤ sizeLine; decide, fun p hp => k _ _ (Ex.new hp) ⟨p, v1, v2, v3, v4, rfl, SqT.of upd_same, Rp.le (Ex.new hp).le h1, Rp.le (Ex.new hp).le h2, Rp.le (Ex.new hp).le h3, Rp.le (Ex.new hp).le h4⟩⟩
theorem g_mkT5 {v1 v2 v3 v4 v5 : V} {x : T5 α β γ δ ε} (h1 : rp K L H v1 x.a) (h2 : rp K L H v2 x.b) (h3 : rp K L H v3 x.c) (h4 : rp K L H v4 x.d) (h5 : rp K L H v5 x.e) (k : ∀ u H', Ex H H' → rp K L H' u x → Q u H') :
    rMkT [v1, v2, v3, v4, v5] H Q :=
  ⟨by show 5 ≤ sizeLine; decide, fun p hp => k _ _ (Ex.new hp) ⟨p, v1, v2, v3, v4, v5, rfl, SqT.of upd_same, Rp.le (Ex.new hp).le h1, Rp.le (Ex.new hp).le h2, Rp.le (Ex.new hp).le h3, Rp.le (Ex.new hp).le h4, Rp.le (Ex.new hp).le h5⟩⟩
theorem g_mkH5 {v1 v2 v3 v4 v5 : V} {x : H5 α β γ δ ε} (dm : Dm L H) (h1 : rp K L H v1 x.a) (h2 : rp K L H v2 x.b) (h3 : rp K L H v3 x.c) (h4 : rp K L H v4 x.d) (h5 : rp K L H v5 x.e) (k : ∀ u H', Ex H H' → rp K L H' u x → Q u H') :
    rMkL [v1, v2, v3, v4, v5] H Q :=
  ⟨by show 5 ≤ sizeLine; decide, fun p hp => k _ _ (Ex.new hp) ⟨p, v1, v2, v3, v4, v5, rfl, ⟨upd_same, dm.not hp⟩, Rp.le (Ex.new hp).le h1, Rp.le (Ex.new hp).le h2, Rp.le (Ex.new hp).le h3, Rp.le (Ex.new hp).le h4, Rp.le (Ex.new hp).le h5⟩⟩
/-- in, is, == -/
theorem g_inS {x z : Str} {y : Unit} (h : sgnO x = some y) (k : Q (.bl (inS x z)) H) : rInSg (.str x) (.str z) H Q :=
  ⟨x.cps.getD 0 0, z, congrArg V.str (sgnO_of h).1, rfl, k⟩
theorem g_notinS {x z : Str} {y : Unit} (h : sgnO x = some y) (k : Q (.bl (!inS x z)) H) : rNotInSg (.str x) (.str z) H Q :=
  ⟨x.cps.getD 0 0, z, congrArg V.str (sgnO_of h).1, rfl, k⟩
theorem rp_isN {x : Option α} (h : rp K A H v x) : decide (v = V.non) = x.isNone := by
  cases x with
  | none =>
    obtain rfl : v = V.non := h
    rfl
  | some y => exact decide_eq_false h.1
theorem rp_notN {x : Option α} (h : rp K A H v x) : (!decide (v = V.non)) = x.isSome := by
  rw [rp_isN h]
  cases x <;> rfl
/-- what is never None -/
class Nn (α : Type) [Rp α] : Prop where
  ne : ∀ {K : PySem.W.Frag} {A : Av} {H : Hp} {v : V} {x : α}, rp K A H v x → v ≠ .non
instance : Nn (List α) := ⟨fun ⟨_, _, _, h, _⟩ z => by rw [h] at z; cases z⟩
instance : Nn (Tup α) := ⟨fun ⟨_, _, _, h, _⟩ z => by rw [h] at z; cases z⟩
instance : Nn (T2 α β) := ⟨fun ⟨_, _, _, h, _⟩ z => by rw [h] at z; cases z⟩
instance : Nn (T3 α β γ) := ⟨fun ⟨_, _, _, _, h, _⟩ z => by rw [h] at z; cases z⟩
theorem rp_some [Nn α] {x : α} (h : rp K A H v x) : rp K A H v (some x) := ⟨Nn.ne h, h⟩
theorem g_eq_str {x y : Str} (k : Q (.bl (decide (x = y))) H) : rEq (.str x) (.str y) H Q := by
  have e : decide (V.str x = V.str y) = decide (x = y) := by
    rw [Bool.eq_iff_iff, decide_eq_true_iff, decide_eq_true_iff]
    exact ⟨fun z => V.str.inj z, fun z => z ▸ rfl⟩
  refine ⟨rfl, ?_⟩
  rw [e]
  exact k
theorem g_ne_str {x y : Str} (k : Q (.bl (!decide (x = y))) H) : rNe (.str x) (.str y) H Q := by
  have e : decide (V.str x = V.str y) = decide (x = y) := by
    rw [Bool.eq_iff_iff, decide_eq_true_iff, decide_eq_true_iff]
    exact ⟨fun z => V.str.inj z, fun z => z ▸ rfl⟩
  refine ⟨rfl, ?_⟩
  rw [e]
  exact k
theorem g_eq_bool {x y : Bool} (k : Q (.bl (decide (x = y))) H) : rEq (.bl x) (.bl y) H Q := by
  have e : decide (V.bl x = V.bl y) = decide (x = y) := by
    rw [Bool.eq_iff_iff, decide_eq_true_iff, decide_eq_true_iff]
    exact ⟨fun z => V.bl.inj z, fun z => z ▸ rfl⟩
  refine ⟨rfl, ?_⟩
  rw [e]
  exact k
theorem g_ne_bool {x y : Bool} (k : Q (.bl (!decide (x = y))) H) : rNe (.bl x) (.bl y) H Q := by
  have e : decide (V.bl x = V.bl y) = decide (x = y) := by
    rw [Bool.eq_iff_iff, decide_eq_true_iff, decide_eq_true_iff]
    exact ⟨fun z => V.bl.inj z, fun z => z ▸ rfl⟩
  refine ⟨rfl, ?_⟩
  rw [e]
  exact k
/-- items read, of a list or a tuple -/
def Sq {α : Type} [Rp α] (K : PySem.W.Frag) (A : Av) (H : Hp) (v : V) (ds : List α) : Prop := ∃ p xs, v = .ref p ∧ (SqL K H p xs ∨ SqT K H p xs) ∧ All K A H xs ds
theorem Lst.sq {ds : List α} (h : Lst K A H v ds) : Sq K A H v ds := by
  obtain ⟨⟨a, xs, rfl, e, r⟩, _⟩ := h
  exact ⟨a, xs, rfl, .inl (SqL.of e), r⟩
theorem rp_sqV {ds : Tup α} (h : rp K A H v ds) : Sq K A H v ds.l := by
  obtain ⟨_, a, xs, rfl, e, r⟩ := h
  exact ⟨a, xs, rfl, .inr e, r⟩
theorem rp_sqT2 {x : T2 α α} (h : rp K A H v x) : Sq K A H v [x.a, x.b] := by
  obtain ⟨p, v1, v2, rfl, t, h1, h2⟩ := h
  exact ⟨p, _, rfl, .inr t, .cons h1 (.cons h2 .nil)⟩
theorem rp_sqT3 {x : T3 α α α} (h : rp K A H v x) : Sq K A H v [x.a, x.b, x.c] := by
  obtain ⟨p, v1, v2, v3, rfl, t, h1, h2, h3⟩ := h
  exact ⟨p, _, rfl, .inr t, .cons h1 (.cons h2 (.cons h3 .nil))⟩
theorem inV_int {x : Int} : ∀ {ds : List Int}, inV (.int x) (ds.map V.int) = decide (x ∈ ds)
  | [] => rfl
  | d :: ds => by
    have ih := inV_int (x := x) (ds := ds)
    unfold inV at ih ⊢
    rw [List.map_cons, List.any_cons, ih]
    show ((d == x) || decide (x ∈ ds)) = decide (x ∈ d :: ds)
    rw [Bool.eq_iff_iff, Bool.or_eq_true, decide_eq_true_iff, decide_eq_true_iff, beq_iff_eq, List.mem_cons]
    exact ⟨fun z => z.imp Eq.symm id, fun z => z.imp Eq.symm id⟩
theorem inV_str {x : Str} : ∀ {ds : List Str}, inV (.str x) (ds.map V.str) = decide (x ∈ ds)
  | [] => rfl
  | d :: ds => by
    have ih := inV_str (x := x) (ds := ds)
    unfold inV at ih ⊢
    rw [List.map_cons, List.any_cons, ih]
    show ((d == x) || decide (x ∈ ds)) = decide (x ∈ d :: ds)
    rw [Bool.eq_iff_iff, Bool.or_eq_true, decide_eq_true_iff, decide_eq_true_iff, beq_iff_eq, List.mem_cons]
    exact ⟨fun z => z.imp Eq.symm id, fun z => z.imp Eq.symm id⟩
theorem inV_bool {x : Bool} : ∀ {ds : List Bool}, inV (.bl x) (ds.map V.bl) = decide (x ∈ ds)
  | [] => rfl
  | d :: ds => by
    have ih := inV_bool (x := x) (ds := ds)
    unfold inV at ih ⊢
    rw [List.map_cons, List.any_cons, ih]
    show ((d == x) || decide (x ∈ ds)) = decide (x ∈ d :: ds)
    rw [Bool.eq_iff_iff, Bool.or_eq_true, decide_eq_true_iff, decide_eq_true_iff, beq_iff_eq, List.mem_cons]
    exact ⟨fun z => z.imp Eq.symm id, fun z => z.imp Eq.symm id⟩
theorem flat_map {α : Type} (f : α → V) (h : ∀ x, flatV (f x) = true) : ∀ ds : List α, (ds.map f).all flatV = true
  | [] => rfl
  | d :: ds => by rw [List.map_cons, List.all_cons, h, flat_map f h ds]; rfl
theorem g_in_int {x : Int} {ds : List Int} (h : Sq K A H v ds) (k : Q (.bl (decide (x ∈ ds))) H) : rIn K false (.int x) v H Q := by
  obtain ⟨p, xs, rfl, s, r⟩ := h
  rw [r.ints] at s
  refine ⟨p, _, rfl, s, rfl, flat_map V.int (fun _ => rfl) ds, ?_⟩
  rw [if_neg Bool.false_ne_true, inV_int]
  exact k
theorem g_notin_int {x : Int} {ds : List Int} (h : Sq K A H v ds) (k : Q (.bl (!decide (x ∈ ds))) H) : rIn K true (.int x) v H Q := by
  obtain ⟨p, xs, rfl, s, r⟩ := h
  rw [r.ints] at s
  refine ⟨p, _, rfl, s, rfl, flat_map V.int (fun _ => rfl) ds, ?_⟩
  rw [if_pos rfl, inV_int]
  exact k
theorem g_in_str {x : Str} {ds : List Str} (h : Sq K A H v ds) (k : Q (.bl (decide (x ∈ ds))) H) : rIn K false (.str x) v H Q := by
  obtain ⟨p, xs, rfl, s, r⟩ := h
  rw [r.strs] at s
  refine ⟨p, _, rfl, s, rfl, flat_map V.str (fun _ => rfl) ds, ?_⟩
  rw [if_neg Bool.false_ne_true, inV_str]
  exact k
theorem g_notin_str {x : Str} {ds : List Str} (h : Sq K A H v ds) (k : Q (.bl (!decide (x ∈ ds))) H) : rIn K true (.str x) v H Q := by
  obtain ⟨p, xs, rfl, s, r⟩ := h
  rw [r.strs] at s
  refine ⟨p, _, rfl, s, rfl, flat_map V.str (fun _ => rfl) ds, ?_⟩
  rw [if_pos rfl, inV_str]
  exact k
theorem g_in_bool {x : Bool} {ds : List Bool} (h : Sq K A H v ds) (k : Q (.bl (decide (x ∈ ds))) H) : rIn K false (.bl x) v H Q := by
  obtain ⟨p, xs, rfl, s, r⟩ := h
  rw [r.bls] at s
  refine ⟨p, _, rfl, s, rfl, flat_map V.bl (fun _ => rfl) ds, ?_⟩
  rw [if_neg Bool.false_ne_true, inV_bool]
  exact k
/-- the first place of an item that is there -/
theorem g_index_bool {x : Bool} {ds : List Bool} {j : Nat} {Q : VK} (h : Lst K A H v ds) (e : idxO ds x = some j) (k : Q (.int (j : Int)) H) : rIndex K v [.bl x] H Q := by
  obtain ⟨⟨a, xs, rfl, e0, r⟩, _⟩ := h
  rw [r.bls] at e0
  unfold idxO at e
  by_cases m : x ∈ ds
  · rw [if_pos m] at e
    have e1 := si e
    subst e1
    have hlt : ds.idxOf x < ds.length := List.idxOf_lt_length_of_mem m
    have hg : ds[ds.idxOf x]? = some x := by
      rw [List.getElem?_eq_getElem hlt, List.getElem_idxOf hlt]
    refine ⟨a, _, .bl x, ds.idxOf x, .bl x, rfl, rfl, SqL.of e0, rfl, flat_map V.bl (fun _ => rfl) ds, by rw [List.getElem?_map, hg]; rfl, (by show (x == x) = true; exact beq_self_eq_true x), fun i z' hi hz => ?_, k⟩
    rw [List.getElem?_map] at hz
    cases q : ds[i]? with
    | none =>
      rw [q] at hz
      cases hz
    | some b =>
      rw [q] at hz
      have ez : V.bl b = z' := si hz
      subst ez
      show (b == x) = false
      obtain ⟨hi2, eb⟩ := List.getElem?_eq_some_iff.mp q
      have w := List.not_of_lt_findIdx (p := (· == x)) (xs := ds) (i := i) hi
      rw [← eb]
      simpa using w
  · rw [if_neg m] at e
    cases e
end


/-! ### trees: lists that are owned with all that hangs on them -/
def im (H H' : Hp) : Prop := ∀ a o, H a = some o → Imm o → H' a = some o
theorem Kp.im {C : Av} {H H' : Hp} (k : Kp C H H') : im H H' := fun a o h i => (k a o h).2 (.inr i)
theorem Ex.im {H H' : Hp} (k : Ex H H') : im H H' := fun a o h _ => k a o h
theorem im.refl {H : Hp} : im H H := fun _ _ h _ => h
theorem im.trans {H H1 H2 : Hp} (a : im H H1) (b : im H1 H2) : im H H2 := fun x o h i => b x o (a x o h i) i
abbrev Rg := List Addr
class Tr (γ : Type) [Rp γ] where
  tr : PySem.W.Frag → Hp → V → γ → Rg → Prop
  le : ∀ {K : PySem.W.Frag} {H H' : Hp} {v : V} {x : γ} {F : Rg}, im H H' → (∀ a ∈ F, H' a = H a) → tr K H v x F → tr K H' v x F
  live : ∀ {K : PySem.W.Frag} {H : Hp} {v : V} {x : γ} {F : Rg}, tr K H v x F → ∀ a ∈ F, H a ≠ none
  rp' : ∀ {K : PySem.W.Frag} {B : Av} {H : Hp} {v : V} {x : γ} {F : Rg}, tr K H v x F → (∀ a ∈ F, ¬ B a) → rp K B H v x
open Tr (tr)
/-- what is no tree: it leans on nothing that changes -/
class Lf (γ : Type) [Rp γ] extends Tr γ where
  of : ∀ {K : PySem.W.Frag} {A : Av} {H : Hp} {v : V} {x : γ}, rp K A H v x → tr K H v x []
  nil : ∀ {K : PySem.W.Frag} {H : Hp} {v : V} {x : γ} {F : Rg}, tr K H v x F → F = []
/-- the avoid set of all that may change -/
def mutA (H : Hp) : Av := fun a => ∃ o, H a = some o ∧ ¬ Imm o
theorem im_le {H H' : Hp} (h : im H H') : Le (mutA H) H (mutA H) H' := ⟨fun a o e z => h a o e (z.elim (fun n => Classical.byContradiction fun i => n ⟨o, e, i⟩) id), fun _ _ _ n => n⟩
abbrev lf {γ : Type} [Rp γ] [Im γ] : Lf γ where
  tr := fun K H v x F => F = [] ∧ rp K no H v x
  le := fun i _ h => ⟨h.1, Im.any (Rp.le (im_le i) (Im.any h.2))⟩
  live := fun h a m => by
    rw [h.1] at m
    cases m
  rp' := fun h _ => Im.any h.2
  of := fun h => ⟨rfl, Im.any h⟩
  nil := fun h => h.1
instance : Lf Int := lf
instance : Lf Bool := lf
instance : Lf Str := lf
instance : Lf Unit := lf
instance {α : Type} [Rp α] [Im α] : Lf (Option α) := lf
instance {α : Type} [Rp α] [Im α] : Lf (Tup α) := lf
instance {α β : Type} [Rp α] [Rp β] [Im α] [Im β] : Lf (T2 α β) := lf
instance {α β γ : Type} [Rp α] [Rp β] [Rp γ] [Im α] [Im β] [Im γ] : Lf (T3 α β γ) := lf
instance {α β γ δ : Type} [Rp α] [Rp β] [Rp γ] [Rp δ] [Im α] [Im β] [Im γ] [Im δ] : Lf (T4 α β γ δ) := lf
theorem Lf.to {γ : Type} [Rp γ] [Lf γ] {K : PySem.W.Frag} {A : Av} {H : Hp} {v : V} {x : γ} {F : Rg} (h : tr K H v x F) : rp K A H v x :=
  Tr.rp' h fun a m => by
    rw [Lf.nil h] at m
    cases m
/-- items, each a tree, apart from one another -/
inductive Fa {α : Type} (P : V → α → Rg → Prop) : List V → List α → Rg → Prop
  | nil : Fa P [] [] []
  | cons {v : V} {x : α} {G F : Rg} {vs : List V} {xs : List α} : P v x G → Fa P vs xs F → (∀ a ∈ G, a ∉ F) → Fa P (v :: vs) (x :: xs) (G ++ F)
section
variable {α : Type} {P P' : V → α → Rg → Prop}
theorem Fa.length {vs : List V} {xs : List α} {F : Rg} (h : Fa P vs xs F) : vs.length = xs.length := by
  induction h with
  | nil => rfl
  | cons _ _ _ ih => rw [List.length_cons, List.length_cons, ih]
theorem Fa.mono {vs : List V} {xs : List α} {F : Rg} (h : Fa P vs xs F) (m : ∀ v x G, (∀ a ∈ G, a ∈ F) → P v x G → P' v x G) : Fa P' vs xs F := by
  induction h with
  | nil => exact .nil
  | cons p _ d ih => exact .cons (m _ _ _ (fun a h => List.mem_append.mpr (.inl h)) p) (ih fun v x G s => m v x G fun a h => List.mem_append.mpr (.inr (s a h))) d
theorem Fa.live {Q : Addr → Prop} {vs : List V} {xs : List α} {F : Rg} (h : Fa P vs xs F) (m : ∀ v x G, P v x G → ∀ a ∈ G, Q a) : ∀ a ∈ F, Q a := by
  induction h with
  | nil => exact fun a h => by cases h
  | cons p _ _ ih => exact fun a h => (List.mem_append.mp h).elim (m _ _ _ p a) (ih a)
theorem Fa.snoc {vs : List V} {xs : List α} {F G : Rg} {v : V} {x : α} (h : Fa P vs xs F) (p : P v x G) (d : ∀ a ∈ G, a ∉ F) : Fa P (vs ++ [v]) (xs ++ [x]) (F ++ G) := by
  induction h with
  | nil =>
    have := Fa.cons p (Fa.nil (P := P)) (fun a _ z => by cases z)
    rwa [List.append_nil] at this
  | cons q r e ih =>
    rw [List.append_assoc]
    refine .cons q (ih fun a h z => d a h (List.mem_append.mpr (.inr z))) fun a h z => ?_
    rcases List.mem_append.mp z with z | z
    · exact e a h z
    · exact d a z (List.mem_append.mpr (.inl h))
theorem Fa.reverse {vs : List V} {xs : List α} {F : Rg} (h : Fa P vs xs F) : ∃ F', Fa P vs.reverse xs.reverse F' ∧ ∀ a ∈ F', a ∈ F := by
  induction h with
  | nil => exact ⟨[], .nil, fun _ z => z⟩
  | cons p _ d ih =>
    obtain ⟨F', f, s⟩ := ih
    rw [List.reverse_cons, List.reverse_cons]
    exact ⟨_, f.snoc p fun a h z => d a h (s a z), fun a z => List.mem_append.mpr ((List.mem_append.mp z).elim (fun z => .inr (s a z)) .inl)⟩
/-- one item of them, and how they stand when it has changed -/
theorem Fa.part : ∀ {vs : List V} {xs : List α} {F : Rg} {j : Nat} {x : α}, Fa P vs xs F → xs[j]? = some x → ∃ (v : V) (G S : Rg), vs[j]? = some v ∧ P v x G ∧ (∀ a ∈ G, a ∉ S) ∧ (∀ a ∈ G, a ∈ F) ∧ (∀ a ∈ S, a ∈ F) ∧
    ∀ (P' : V → α → Rg → Prop) (x' : α) (G' : Rg), (∀ (v : V) (x : α) (G2 : Rg), (∀ a ∈ G2, a ∈ S) → P v x G2 → P' v x G2) → P' v x' G' → (∀ a ∈ G', a ∉ S) → ∃ F' : Rg, Fa P' vs (xs.set j x') F' ∧ ∀ a ∈ F', a ∈ S ∨ a ∈ G'
  | _, _, _, _, _, .nil, e => by simp at e
  | _, _, _, 0, x, @Fa.cons _ _ v x0 G F vs xs p f d, e => by
    have : x0 = x := by simpa using e
    subst this
    refine ⟨v, G, F, rfl, p, d, fun a h => List.mem_append.mpr (.inl h), fun a h => List.mem_append.mpr (.inr h), fun P' x' G' t p' dj => ⟨G' ++ F, .cons p' (f.mono fun v x G2 s q => t v x G2 s q) dj, fun a h => (List.mem_append.mp h).symm⟩⟩
  | _, _, _, j + 1, x, @Fa.cons _ _ v x0 G F vs xs p f d, e => by
    obtain ⟨w, Gj, S, h1, h2, h3, h4, h5, h6⟩ := Fa.part (j := j) (x := x) f (by simpa using e)
    refine ⟨w, Gj, G ++ S, by simpa using h1, h2, fun a h z => (List.mem_append.mp z).elim (fun z => d a z (h4 a h)) (h3 a h), fun a h => List.mem_append.mpr (.inr (h4 a h)), fun a h => List.mem_append.mpr ((List.mem_append.mp h).imp id (h5 a)), fun P' x' G' t p' dj => ?_⟩
    obtain ⟨F', f', s'⟩ := h6 P' x' G' (fun v x G2 s q => t v x G2 (fun a h => List.mem_append.mpr (.inr (s a h))) q) p' fun a h z => dj a h (List.mem_append.mpr (.inr z))
    refine ⟨G ++ F', .cons (t _ _ _ (fun a h => List.mem_append.mpr (.inl h)) p) f' fun a h z => ?_, fun a h => ?_⟩
    · rcases s' a z with z | z
      · exact d a h (h5 a z)
      · exact dj a z (List.mem_append.mpr (.inl h))
    · rcases List.mem_append.mp h with h | h
      · exact .inl (List.mem_append.mpr (.inl h))
      · exact (s' a h).imp (fun z => List.mem_append.mpr (.inr z)) id
end
theorem Fa.all {α : Type} [Rp α] [Tr α] {K : PySem.W.Frag} {H : Hp} {B : Av} {vs : List V} {xs : List α} {F : Rg} (h : Fa (tr K H) vs xs F) (n : ∀ a ∈ F, ¬ B a) : All K B H vs xs := by
  induction h with
  | nil => exact .nil
  | cons p _ _ ih => exact .cons (Tr.rp' p fun a h => n a (List.mem_append.mpr (.inl h))) (ih fun a h => n a (List.mem_append.mpr (.inr h)))
theorem Fa.of_all {α : Type} [Rp α] [Lf α] {K : PySem.W.Frag} {H : Hp} {B : Av} {vs : List V} {xs : List α} (h : All K B H vs xs) : Fa (tr K H) vs xs [] := by
  induction h with
  | nil => exact .nil
  | cons p _ ih => exact .cons (G := []) (Lf.of p) ih fun a z => by cases z
theorem Fa.leaf {α : Type} [Rp α] [Lf α] {K : PySem.W.Frag} {H : Hp} {vs : List V} {xs : List α} {F : Rg} (h : Fa (tr K H) vs xs F) : F = [] := by
  induction h with
  | nil => rfl
  | cons p _ _ ih => rw [ih, Lf.nil p]; rfl
instance {α : Type} [Rp α] [Tr α] : Tr (List α) where
  tr := fun K H v ds F => ds.length ≤ big ∧ ∃ a xs G, v = .ref a ∧ H a = some (.lst xs) ∧ F = a :: G ∧ a ∉ G ∧ Fa (tr K H) xs ds G
  le := fun i s ⟨l, a, xs, G, h1, h2, h3, h4, h5⟩ => ⟨l, a, xs, G, h1, (s a (h3 ▸ List.mem_cons_self ..)).trans h2, h3, h4, h5.mono fun v x G2 m p => Tr.le i (fun b hb => s b (h3 ▸ List.mem_cons_of_mem _ (m b hb))) p⟩
  live := fun ⟨_, a, xs, G, _, h2, h3, _, h5⟩ b hb => by
    rw [h3] at hb
    rcases List.mem_cons.mp hb with hb | hb
    · rw [hb, h2]
      exact fun z => by cases z
    · exact h5.live (Q := fun a => _ ≠ none) (fun _ _ _ p => Tr.live p) b hb
  rp' := fun ⟨l, a, xs, G, h1, h2, h3, h4, h5⟩ n => ⟨l, a, xs, h1, ⟨h2, n a (h3 ▸ List.mem_cons_self ..)⟩, h5.all fun b hb => n b (h3 ▸ List.mem_cons_of_mem _ hb)⟩
def dj (F G : Rg) : Prop := ∀ a ∈ F, a ∉ G
instance {α β γ δ ε : Type} [Rp α] [Rp β] [Rp γ] [Rp δ] [Rp ε] [Tr α] [Tr β] [Tr γ] [Tr δ] [Tr ε] : Tr (H5 α β γ δ ε) where
  tr := fun K H v c F => ∃ p v1 v2 v3 v4 v5 F1 F2 F3 F4 F5, v = .ref p ∧ H p = some (.lst [v1, v2, v3, v4, v5]) ∧ F = p :: (F1 ++ (F2 ++ (F3 ++ (F4 ++ F5)))) ∧
    (p ∉ F1 ++ (F2 ++ (F3 ++ (F4 ++ F5))) ∧ dj F1 (F2 ++ (F3 ++ (F4 ++ F5))) ∧ dj F2 (F3 ++ (F4 ++ F5)) ∧ dj F3 (F4 ++ F5) ∧ dj F4 F5) ∧
    tr K H v1 c.a F1 ∧ tr K H v2 c.b F2 ∧ tr K H v3 c.c F3 ∧ tr K H v4 c.d F4 ∧ tr K H v5 c.e F5
  le := fun i s ⟨p, v1, v2, v3, v4, v5, F1, F2, F3, F4, F5, h1, h2, h3, h4, t1, t2, t3, t4, t5⟩ => by
    subst h3
    refine ⟨p, v1, v2, v3, v4, v5, F1, F2, F3, F4, F5, h1, (s p (by simp)).trans h2, rfl, h4, Tr.le i (fun a h => s a ?_) t1, Tr.le i (fun a h => s a ?_) t2, Tr.le i (fun a h => s a ?_) t3, Tr.le i (fun a h => s a ?_) t4, Tr.le i (fun a h => s a ?_) t5⟩ <;>
      simp only [List.mem_cons, List.mem_append, h, true_or, or_true]
  live := fun ⟨p, v1, v2, v3, v4, v5, F1, F2, F3, F4, F5, h1, h2, h3, h4, t1, t2, t3, t4, t5⟩ a h => by
    subst h3
    simp only [List.mem_cons, List.mem_append] at h
    rcases h with h | h | h | h | h | h
    · rw [h, h2]
      exact fun z => by cases z
    · exact Tr.live t1 a h
    · exact Tr.live t2 a h
    · exact Tr.live t3 a h
    · exact Tr.live t4 a h
    · exact Tr.live t5 a h
  rp' := fun ⟨p, v1, v2, v3, v4, v5, F1, F2, F3, F4, F5, h1, h2, h3, h4, t1, t2, t3, t4, t5⟩ n => by
    subst h3
    refine ⟨p, v1, v2, v3, v4, v5, h1, ⟨h2, n p (by simp)⟩, Tr.rp' t1 fun a h => n a ?_, Tr.rp' t2 fun a h => n a ?_, Tr.rp' t3 fun a h => n a ?_, Tr.rp' t4 fun a h => n a ?_, Tr.rp' t5 fun a h => n a ?_⟩ <;>
      simp only [List.mem_cons, List.mem_append, h, true_or, or_true]
/-- a tree that is owned, in the region R -/
structure OwT {γ : Type} [Rp γ] [Tr γ] (K : PySem.W.Frag) (A R : Av) (H : Hp) (p : Addr) (x : γ) : Prop where
  av : ∀ a, R a → A a
  lv : ∀ a, R a → H a ≠ none
  at_ : ∃ F, (∀ a ∈ F, R a) ∧ tr K H (.ref p) x F
/-- a part u of it, d what it stands for; up: the whole by the part -/
structure Zm {γ δ : Type} [Rp γ] [Tr γ] [Rp δ] [Tr δ] (K : PySem.W.Frag) (A R : Av) (H : Hp) (p : Addr) (u : V) (d : δ) (up : δ → γ) : Prop where
  av : ∀ a, R a → A a
  lv : ∀ a, R a → H a ≠ none
  at_ : ∃ S G, (∀ a ∈ S, R a) ∧ (∀ a ∈ G, R a) ∧ dj G S ∧ tr K H u d G ∧ ∀ H', im H H' → (∀ a ∈ S, H' a = H a) → ∀ d' G', tr K H' u d' G' → dj G' S → ∃ F', tr K H' (.ref p) (up d') F' ∧ ∀ a ∈ F', a ∈ S ∨ a ∈ G'
section
variable {γ δ : Type} [Rp γ] [Tr γ] [Rp δ] [Tr δ] {K : PySem.W.Frag} {A B C R : Av} {H H' : Hp} {p : Addr} {u : V} {x : γ} {d : δ} {up : δ → γ}
theorem OwT.zm (h : OwT K A R H p x) : Zm K A R H p (.ref p) x id := by
  obtain ⟨F, s, t⟩ := h.at_
  exact ⟨h.av, h.lv, [], F, fun _ z => (by cases z), s, fun _ _ z => (by cases z), t, fun H' _ _ d' G' t' _ => ⟨G', t', fun a h => .inr h⟩⟩
theorem Zm.own (h : Zm K A R H p u d up) : OwT K A R H p (up d) := by
  obtain ⟨S, G, s1, s2, dd, t, b⟩ := h.at_
  obtain ⟨F, t', s⟩ := b H im.refl (fun _ _ => rfl) d G t dd
  exact ⟨h.av, h.lv, F, fun a m => (s a m).elim (s1 a) (s2 a), t'⟩
theorem Zm.le' (h : Zm K A R H p u d up) (i : im H H') (q : ∀ a, R a → H' a = H a) (b : ∀ a, R a → B a) : Zm K B R H' p u d up := by
  obtain ⟨S, G, s1, s2, dd, t, k⟩ := h.at_
  exact ⟨b, fun a m => by rw [q a m]; exact h.lv a m, S, G, s1, s2, dd, Tr.le i (fun a m => q a (s2 a m)) t, fun H2 i2 e2 => k H2 (i.trans i2) fun a m => (e2 a m).trans (q a (s1 a m))⟩
theorem OwT.le' (h : OwT K A R H p x) (i : im H H') (q : ∀ a, R a → H' a = H a) (b : ∀ a, R a → B a) : OwT K B R H' p x := by
  obtain ⟨F, s, t⟩ := h.at_
  exact ⟨b, fun a m => by rw [q a m]; exact h.lv a m, F, s, Tr.le i (fun a m => q a (s a m)) t⟩
theorem kp_same (k : Kp C H H') (lv : ∀ a, R a → H a ≠ none) (n : ∀ a, R a → ¬ C a) : ∀ a, R a → H' a = H a := fun a m => by
  cases e : H a with
  | none => exact absurd e (lv a m)
  | some o => exact (k a o e).2 (.inl (n a m))
theorem OwT.kp (h : OwT K A R H p x) (k : Kp C H H') (_s : ∀ a, C a → A a) (n : Dj R C) : OwT K A R H' p x := h.le' k.im (kp_same k h.lv n) h.av
theorem Le.im {A B : Av} {H H' : Hp} (l : Le A H B H') : im H H' := fun a o h i => l.keep a o h (.inr i)
theorem OwT.le (h : OwT K A R H p x) (l : Le A H B H') (q : ∀ a, R a → H' a = H a) (b : ∀ a, R a → B a) : OwT K B R H' p x := h.le' l.im q b
theorem OwT.avr (h : OwT K A R H p x) : ∀ a, R a → A a := h.av
theorem OwT.ex (h : OwT K A R H p x) (k : Ex H H') : OwT K A R H' p x := h.kp (C := no) k.kp no_sub Dj.no
theorem OwT.ins (h : OwT K A R H p x) {q : Addr} (_hq : H q = none) : OwT K (G.ins q A) R H p x := h.le' im.refl (fun _ _ => rfl) (avi h.av)
theorem OwT.un (h : OwT K A R H p x) {S : Av} (_f : ∀ a, S a → H a = none) : OwT K (G.un S A) R H p x := h.le' im.refl (fun _ _ => rfl) (avi h.av)
theorem OwT.sub (h : OwT K A R H p x) (_s : ∀ a, B a → A a) (b : ∀ a, R a → B a) : OwT K B R H p x := h.le' im.refl (fun _ _ => rfl) b
theorem OwT.any (h : OwT K A R H p x) (b : ∀ a, R a → B a) : OwT K B R H p x := h.le' im.refl (fun _ _ => rfl) b
theorem OwT.rp (h : OwT K A R H p x) (n : Dj R B) : Rp.rp K B H (.ref p) x := by
  obtain ⟨F, s, t⟩ := h.at_
  exact Tr.rp' t fun a m => n a (s a m)
theorem Zm.kp (h : Zm K A R H p u d up) (k : Kp C H H') (_s : ∀ a, C a → A a) (n : Dj R C) : Zm K A R H' p u d up := h.le' k.im (kp_same k h.lv n) h.av
theorem Zm.ex (h : Zm K A R H p u d up) (k : Ex H H') : Zm K A R H' p u d up := h.kp (C := no) k.kp no_sub Dj.no
theorem Zm.ins (h : Zm K A R H p u d up) {q : Addr} (_hq : H q = none) : Zm K (G.ins q A) R H p u d up := h.le' im.refl (fun _ _ => rfl) (avi h.av)
theorem Zm.un (h : Zm K A R H p u d up) {S : Av} (_f : ∀ a, S a → H a = none) : Zm K (G.un S A) R H p u d up := h.le' im.refl (fun _ _ => rfl) (avi h.av)
theorem Zm.sub (h : Zm K A R H p u d up) (_s : ∀ a, B a → A a) (b : ∀ a, R a → B a) : Zm K B R H p u d up := h.le' im.refl (fun _ _ => rfl) b
theorem Zm.rp (h : Zm K A R H p u d up) (n : Dj R B) : Rp.rp K B H u d := by
  obtain ⟨S, G, s1, s2, dd, t, k⟩ := h.at_
  exact Tr.rp' t fun a m => n a (s2 a m)
end
theorem Zm.leaf {γ δ : Type} [Rp γ] [Tr γ] [Rp δ] [Lf δ] {K : PySem.W.Frag} {A B R : Av} {H : Hp} {p : Addr} {u : V} {d : δ} {up : δ → γ} (h : Zm K A R H p u d up) : Rp.rp K B H u d := by
  obtain ⟨S, G, s1, s2, dd, t, k⟩ := h.at_
  exact Lf.to t
theorem Zm.lst {γ δ : Type} [Rp γ] [Tr γ] [Rp δ] [Lf δ] {K : PySem.W.Frag} {A B R : Av} {H : Hp} {p : Addr} {u : V} {d : List δ} {up : List δ → γ} (h : Zm K A R H p u d up) : Lst K B H u d := by
  obtain ⟨S, G, s1, s2, dd, ⟨l, a, xs, G0, h1, h2, h3, h4, h5⟩, k⟩ := h.at_
  exact ⟨⟨a, xs, h1, h2, h5.all fun b m => by
    rw [h5.leaf] at m
    cases m⟩, l⟩
theorem Zm.len {γ δ : Type} [Rp γ] [Tr γ] [Rp δ] [Tr δ] {K : PySem.W.Frag} {A R : Av} {H : Hp} {p : Addr} {u : V} {d : List δ} {up : List δ → γ} {Q : VK} (h : Zm K A R H p u d up) (k : Q (.int (d.length : Int)) H) : rLenL K [u] H Q := by
  obtain ⟨S, G, s1, s2, dd, ⟨l, a, xs, G0, rfl, h2, h3, h4, h5⟩, _⟩ := h.at_
  exact ⟨a, xs, rfl, .inl (SqL.of h2), by rw [h5.length]; exact k⟩
theorem Zm.ty {γ δ : Type} [Rp γ] [Tr γ] [Rp δ] [Tr δ] {K : PySem.W.Frag} {A R : Av} {H : Hp} {p : Addr} {u : V} {d : List δ} {up : List δ → γ} (h : Zm K A R H p u d up) : tyV K "list" u H := by
  obtain ⟨S, G, s1, s2, dd, ⟨l, a, xs, G0, rfl, h2, h3, h4, h5⟩, _⟩ := h.at_
  exact .inl ⟨rfl, xs, SqL.of h2⟩
def setI {α : Type} (ds : List α) (i : Int) (d : α) : List α := match ixN ds.length i with
  | some j => ds.set j d
  | none => ds
section
variable {γ δ : Type} [Rp γ] [Tr γ] [Rp δ] [Tr δ] {K : PySem.W.Frag} {A R : Av} {H : Hp} {p : Addr} {u : V} {Q : VK}
/-- u[i], as a part -/
theorem z_ix {ds : List δ} {up : List δ → γ} {i : Int} {y : δ} (h : Zm K A R H p u ds up) (e : atI ds i = some y) (k : ∀ w, Zm K A R H p w y (fun z => up (setI ds i z)) → Q w H) : rIxL K u (.int i) H Q := by
  obtain ⟨S, G, s1, s2, dd, ⟨l, a, xs, G0, rfl, h2, rfl, h4, h5⟩, b⟩ := h.at_
  unfold atI at e
  cases q : ixN ds.length i with
  | none =>
    rw [q] at e
    cases e
  | some j =>
    rw [q] at e
    have e' : ds[j]? = some y := e
    obtain ⟨w, Gj, Sj, t1, t2, t3, t4, t5, t6⟩ := h5.part e'
    have ds' : ∀ b ∈ G0, b ∉ S := fun b m => dd b (List.mem_cons_of_mem _ m)
    refine ⟨a, xs, i, w, rfl, rfl, SqL.of h2, by unfold atI; rw [h5.length, q]; exact t1, k w ⟨h.av, h.lv, S ++ (a :: Sj), Gj, fun b m => ?_, fun b m => s2 b (List.mem_cons_of_mem _ (t4 b m)), fun b m z => ?_, t2, fun H' im' e2 d' G' t' dj' => ?_⟩⟩
    · rcases List.mem_append.mp m with m | m
      · exact s1 b m
      · rcases List.mem_cons.mp m with m | m
        · exact m ▸ s2 a (List.mem_cons_self ..)
        · exact s2 b (List.mem_cons_of_mem _ (t5 b m))
    · rcases List.mem_append.mp z with z | z
      · exact ds' b (t4 b m) z
      · rcases List.mem_cons.mp z with z | z
        · exact h4 (z ▸ t4 b m)
        · exact t3 b m z
    · obtain ⟨F', f', sf⟩ := t6 (tr K H') d' G' (fun v x G2 sg pp => Tr.le im' (fun b m => e2 b (List.mem_append.mpr (.inr (List.mem_cons_of_mem _ (sg b m))))) pp) t' fun b m z => dj' b m (List.mem_append.mpr (.inr (List.mem_cons_of_mem _ z)))
      have ha' : a ∉ F' := fun z => (sf a z).elim (fun z => h4 (t5 a z)) fun z => dj' a z (List.mem_append.mpr (.inr (List.mem_cons_self ..)))
      have e3 : setI ds i d' = ds.set j d' := by
        unfold setI
        rw [q]
      have hd : dj (a :: F') S := fun b m z => by
        rcases List.mem_cons.mp m with m | m
        · exact dd a (List.mem_cons_self ..) (m ▸ z)
        · rcases sf b m with m | m
          · exact ds' b (t5 b m) z
          · exact dj' b m (List.mem_append.mpr (.inl z))
      obtain ⟨F2, tt, ss⟩ := b H' im' (fun b m => e2 b (List.mem_append.mpr (.inl m))) (ds.set j d') (a :: F') ⟨by rw [List.length_set]; exact l, a, xs, F', rfl, (e2 a (List.mem_append.mpr (.inr (List.mem_cons_self ..)))).trans h2, rfl, ha', f'⟩ hd
      refine ⟨F2, by rw [e3]; exact tt, fun b m => ?_⟩
      rcases ss b m with m | m
      · exact .inl (List.mem_append.mpr (.inl m))
      · rcases List.mem_cons.mp m with m | m
        · exact .inl (List.mem_append.mpr (.inr (m ▸ List.mem_cons_self ..)))
        · exact (sf b m).imp (fun m => List.mem_append.mpr (.inr (List.mem_cons_of_mem _ m))) id
/-- a list that is a part changes: what it held and what it holds -/
theorem z_put {ds es : List δ} {up : List δ → γ} {xs ys : List V} (h : Zm K A R H p u ds up) (hp : ∃ a, u = .ref a ∧ H a = some (.lst xs)) (l : es.length ≤ big) (f : ∀ G, Fa (tr K H) xs ds G → ∃ G', Fa (tr K H) ys es G' ∧ ∀ a ∈ G', a ∈ G) :
    ∃ a, u = .ref a ∧ Kp R H (upd H a (.lst ys)) ∧ Zm K A R (upd H a (.lst ys)) p u es up := by
  obtain ⟨S, G, s1, s2, dd, ⟨_, a, xs', G0, rfl, h2, rfl, h4, h5⟩, b⟩ := h.at_
  obtain ⟨a', e1, e2⟩ := hp
  cases e1
  rw [h2] at e2
  cases e2
  have kw : Kp (c1 a) H (upd H a (.lst ys)) := Kp.write h2 fun z => z
  have ra : R a := s2 a (List.mem_cons_self ..)
  obtain ⟨G', f', sg⟩ := f G0 h5
  have hn : ∀ b, b ≠ a → (upd H a (.lst ys)) b = H b := fun b z => upd_ne z
  refine ⟨a, rfl, kw.mono fun b z => z ▸ ra, h.av, fun b m z => ?_, S, a :: G', s1, fun b m => ?_, fun b m z => ?_, ⟨l, a, ys, G', rfl, upd_same, rfl, fun z => h4 (sg a z), f'.mono fun v x G2 m p' => Tr.le kw.im (fun b m2 => hn b fun z => h4 (sg a (z ▸ m b m2))) p'⟩, fun H' i' e' => b H' (kw.im.trans i') fun b m => (e' b m).trans (hn b fun z => dd a (List.mem_cons_self ..) (z ▸ m))⟩
  · by_cases q : b = a
    · rw [q, upd_same] at z
      cases z
    · rw [hn b q] at z
      exact h.lv b m z
  · rcases List.mem_cons.mp m with m | m
    · exact m ▸ ra
    · exact s2 b (List.mem_cons_of_mem _ (sg b m))
  · rcases List.mem_cons.mp m with m | m
    · exact dd a (List.mem_cons_self ..) (m ▸ z)
    · exact dd b (List.mem_cons_of_mem _ (sg b m)) z
theorem Zm.lst' {ds : List δ} {up : List δ → γ} (h : Zm K A R H p u ds up) : ds.length ≤ big ∧ ∃ a xs G, u = .ref a ∧ H a = some (.lst xs) ∧ Fa (tr K H) xs ds G := by
  obtain ⟨S, G, s1, s2, dd, ⟨l, a, xs, G0, rfl, h2, rfl, h4, h5⟩, b⟩ := h.at_
  exact ⟨l, a, xs, G0, rfl, h2, h5⟩
theorem z_reverse {ds : List δ} {up : List δ → γ} (h : Zm K A R H p u ds up) (k : ∀ H', Kp R H H' → Zm K A R H' p u ds.reverse up → Q .non H') : rReverse u [] H Q := by
  obtain ⟨l, a, xs, G, rfl, e, f⟩ := h.lst'
  obtain ⟨a', q, kw, z⟩ := z_put (ys := xs.reverse) (es := ds.reverse) h ⟨a, rfl, e⟩ (by rw [List.length_reverse]; exact l) fun G f => f.reverse
  cases q
  exact ⟨a, xs, rfl, rfl, e, k _ kw z⟩
theorem z_clear {ds : List δ} {up : List δ → γ} (h : Zm K A R H p u ds up) (k : ∀ H', Kp R H H' → Zm K A R H' p u ([] : List δ) up → Q .non H') : rClear u [] H Q := by
  obtain ⟨l, a, xs, G, rfl, e, f⟩ := h.lst'
  obtain ⟨a', q, kw, z⟩ := z_put (ys := []) (es := ([] : List δ)) h ⟨a, rfl, e⟩ (Nat.zero_le _) fun G f => ⟨[], .nil, fun _ z => by cases z⟩
  cases q
  exact ⟨a, xs, rfl, rfl, e, k _ kw z⟩
end
section
variable {γ δ : Type} [Rp γ] [Tr γ] [Rp δ] [Lf δ] {K : PySem.W.Frag} {A B R : Av} {H : Hp} {p : Addr} {u w : V} {Q : VK} {ds : List δ} {y : δ} {up : List δ → γ}
theorem z_app (h : Zm K A R H p u ds up) (r : rp K B H w y) (l : ds.length < big) (k : ∀ H', Kp R H H' → Zm K A R H' p u (ds ++ [y]) up → Q .non H') : rAppend u [w] H Q := by
  obtain ⟨_, a, xs, G, rfl, e, f⟩ := h.lst'
  obtain ⟨a', q, kw, z⟩ := z_put (ys := xs ++ [w]) (es := ds ++ [y]) h ⟨a, rfl, e⟩ (by rw [List.length_append, List.length_singleton]; exact l)
    fun G f => ⟨G ++ [], f.snoc (Lf.of r) fun _ z => (by cases z), fun a m => by rwa [List.append_nil] at m⟩
  cases q
  exact ⟨a, xs, w, rfl, rfl, e, by rw [f.length]; exact big_lt l, k _ kw z⟩
theorem Fa.setl {vs : List V} {xs : List δ} {F : Rg} {j : Nat} (h : Fa (tr K H) vs xs F) (r : rp K B H w y) : ∃ F', Fa (tr K H) (vs.set j w) (xs.set j y) F' ∧ ∀ a ∈ F', a ∈ F := by
  have hF := h.leaf
  have ha : All K (fun _ => False) H vs xs := h.all fun _ _ z => z
  exact ⟨[], Fa.of_all (ha.set j (Rp.le (A := B) (Le.drop fun _ z => z.elim) r)), fun a z => by cases z⟩
theorem z_set {es : List δ} {i : Int} {N : Hp → Prop} (h : Zm K A R H p u ds up) (r : rp K B H w y) (e : setO ds i y = some es) (k : ∀ H', Kp R H H' → Zm K A R H' p u es up → N H') : rSetL u (.int i) w H N := by
  obtain ⟨l, a, xs, G, rfl, e0, f⟩ := h.lst'
  unfold setO at e
  cases q : ixN ds.length i with
  | none =>
    rw [q] at e
    cases e
  | some j =>
    rw [q] at e
    have e1 : ds.set j y = es := si e
    subst e1
    obtain ⟨a', q', kw, z⟩ := z_put (ys := xs.set j w) (es := ds.set j y) h ⟨a, rfl, e0⟩ (by rw [List.length_set]; exact l) fun G f => f.setl r
    cases q'
    exact ⟨a, xs, i, j, rfl, rfl, e0, by rw [f.length]; exact q, k _ kw z⟩
end
/-! new trees -/
structure NwT {γ : Type} [Rp γ] [Tr γ] (K : PySem.W.Frag) (Hi H : Hp) (v : V) (x : γ) : Prop where
  at_ : ∃ F, tr K H v x F ∧ ∀ a ∈ F, Hi a = none
section
variable {γ : Type} [Rp γ] [Tr γ] {K : PySem.W.Frag} {A B : Av} {Hi Hj H H' : Hp} {p : Addr} {v : V} {x : γ}
theorem NwT.rp (n : NwT K Hi H v x) (d : Dm B Hi) : Rp.rp K B H v x := by
  obtain ⟨F, t, f⟩ := n.at_
  exact Tr.rp' t fun a m => d.not (f a m)
theorem NwT.ex (n : NwT K Hi H v x) (e : Ex H H') : NwT K Hi H' v x := by
  obtain ⟨F, t, f⟩ := n.at_
  exact ⟨F, Tr.le e.im (fun a m => by
    cases q : H a with
    | none => exact absurd q (Tr.live t a m)
    | some o => exact e a o q) t, f⟩
theorem NwT.back (n : NwT K Hi H v x) (e : ∀ a, Hi a = none → Hj a = none) : NwT K Hj H v x := by
  obtain ⟨F, t, f⟩ := n.at_
  exact ⟨F, t, fun a m => e a (f a m)⟩
theorem NwT.take (n : NwT K Hi H (.ref p) x) : ∃ R : Av, (∀ a, R a → Hi a = none) ∧ OwT K (un R A) R H p x := by
  obtain ⟨F, t, f⟩ := n.at_
  exact ⟨fun a => a ∈ F, f, fun a m => .inl m, Tr.live t, F, fun a m => m, t⟩
theorem OwT.nwt {R : Av} (h : OwT K A R H p x) (f : ∀ a, R a → Hi a = none) : NwT K Hi H (.ref p) x := by
  obtain ⟨F, s, t⟩ := h.at_
  exact ⟨F, t, fun a m => f a (s a m)⟩
end
theorem New.nwt {α : Type} [Rp α] [Lf α] {K : PySem.W.Frag} {A : Av} {Hi H : Hp} {D : Addr} {ds : List α} (n : New K A H D ds) (h : Hi D = none) : NwT K Hi H (.ref D) ds := by
  obtain ⟨acc, e, r⟩ := n.at_
  exact ⟨[D], ⟨n.len, D, acc, [], rfl, e, rfl, fun z => (by cases z), Fa.of_all r⟩, fun a m => by
    rcases List.mem_cons.mp m with m | m
    · exact m ▸ h
    · cases m⟩
theorem nwt_nil {α : Type} [Rp α] [Tr α] {K : PySem.W.Frag} {A : Av} {Hi H : Hp} {D : Addr} (n : New K A H D ([] : List α)) (h : Hi D = none) : NwT K Hi H (.ref D) ([] : List α) := by
  obtain ⟨acc, e, r⟩ := n.at_
  cases r
  exact ⟨[D], ⟨n.len, D, [], [], rfl, e, rfl, fun z => (by cases z), .nil⟩, fun a m => by
    rcases List.mem_cons.mp m with m | m
    · exact m ▸ h
    · cases m⟩
theorem g_mkH5T {α β γ δ ε : Type} [Rp α] [Rp β] [Rp γ] [Rp δ] [Rp ε] [Tr α] [Tr β] [Tr γ] [Tr δ] [Tr ε] {K : PySem.W.Frag} {v1 v2 v3 v4 v5 : V} {x : H5 α β γ δ ε} {I1 J1 I2 J2 I3 J3 I4 J4 I5 H : Hp} {Q : VK}
    (n1 : NwT K I1 J1 v1 x.a) (e1 : Ex J1 I2) (n2 : NwT K I2 J2 v2 x.b) (e2 : Ex J2 I3) (n3 : NwT K I3 J3 v3 x.c) (e3 : Ex J3 I4) (n4 : NwT K I4 J4 v4 x.d) (e4 : Ex J4 I5) (n5 : NwT K I5 H v5 x.e)
    (c1 : Ex I1 J1) (c2 : Ex I2 J2) (c3 : Ex I3 J3) (c4 : Ex I4 J4) (c5 : Ex I5 H)
    (k : ∀ p H', Ex H H' → NwT K I1 H' (.ref p) x → Q (.ref p) H') : rMkL [v1, v2, v3, v4, v5] H Q := by
  refine ⟨by show 5 ≤ sizeLine; decide, fun p hp => k _ _ (Ex.new hp) ?_⟩
  obtain ⟨F1, t1, f1⟩ := n1.at_
  obtain ⟨F2, t2, f2⟩ := n2.at_
  obtain ⟨F3, t3, f3⟩ := n3.at_
  obtain ⟨F4, t4, f4⟩ := n4.at_
  obtain ⟨F5, t5, f5⟩ := n5.at_
  have l1 := Tr.live t1
  have l2 := Tr.live t2
  have l3 := Tr.live t3
  have l4 := Tr.live t4
  have l5 := Tr.live t5
  have d2 : ∀ a, I3 a = none → I2 a = none := fun a z => c2.dom (e2.dom z)
  have d3 : ∀ a, I4 a = none → I3 a = none := fun a z => c3.dom (e3.dom z)
  have d4 : ∀ a, I5 a = none → I4 a = none := fun a z => c4.dom (e4.dom z)
  have d1 : ∀ a, I2 a = none → I1 a = none := fun a z => c1.dom (e1.dom z)
  have x4 := e4.trans c5
  have x3 := e3.trans (c4.trans x4)
  have x2 := e2.trans (c3.trans x3)
  have x1 := e1.trans (c2.trans x2)
  have mv : ∀ {J : Hp} {F : Rg}, Ex J H → (∀ a ∈ F, J a ≠ none) → ∀ a ∈ F, (upd H p (.lst [v1, v2, v3, v4, v5])) a = J a := fun {J F} e l a m => by
    cases q : J a with
    | none => exact absurd q (l a m)
    | some o => exact (e.trans (Ex.new hp)) a o q
  refine ⟨p :: (F1 ++ (F2 ++ (F3 ++ (F4 ++ F5)))), ⟨p, v1, v2, v3, v4, v5, F1, F2, F3, F4, F5, rfl, upd_same, rfl, ⟨?_, ?_, ?_, ?_, ?_⟩, Tr.le (x1.trans (Ex.new hp)).im (mv x1 l1) t1, Tr.le (x2.trans (Ex.new hp)).im (mv x2 l2) t2, Tr.le (x3.trans (Ex.new hp)).im (mv x3 l3) t3, Tr.le (x4.trans (Ex.new hp)).im (mv x4 l4) t4, Tr.le (Ex.new hp).im (mv (Ex.refl H) l5) t5⟩, ?_⟩
  · intro z
    simp only [List.mem_append] at z
    rcases z with z | z | z | z | z
    · exact l1 p z (x1.dom hp)
    · exact l2 p z (x2.dom hp)
    · exact l3 p z (x3.dom hp)
    · exact l4 p z (x4.dom hp)
    · exact l5 p z hp
  · intro a m z
    simp only [List.mem_append] at z
    refine l1 a m (e1.dom ?_)
    rcases z with z | z | z | z
    · exact f2 a z
    · exact d2 a (f3 a z)
    · exact d2 a (d3 a (f4 a z))
    · exact d2 a (d3 a (d4 a (f5 a z)))
  · intro a m z
    simp only [List.mem_append] at z
    refine l2 a m (e2.dom ?_)
    rcases z with z | z | z
    · exact f3 a z
    · exact d3 a (f4 a z)
    · exact d3 a (d4 a (f5 a z))
  · intro a m z
    simp only [List.mem_append] at z
    refine l3 a m (e3.dom ?_)
    rcases z with z | z
    · exact f4 a z
    · exact d4 a (f5 a z)
  · intro a m z
    exact l4 a m (e4.dom (f5 a z))
  · intro a m
    simp only [List.mem_cons, List.mem_append] at m
    rcases m with m | m | m | m | m | m
    · exact m ▸ c1.dom (x1.dom hp)
    · exact f1 a m
    · exact d1 a (f2 a m)
    · exact d1 a (d2 a (f3 a m))
    · exact d1 a (d2 a (d3 a (f4 a m)))
    · exact d1 a (d2 a (d3 a (d4 a (f5 a m))))
section
variable {α β γ δ ε ζ : Type} [Rp α] [Rp β] [Rp γ] [Rp δ] [Rp ε] [Rp ζ] [Tr α] [Tr β] [Tr γ] [Tr δ] [Tr ε] [Tr ζ] {K : PySem.W.Frag} {A R : Av} {H : Hp} {p : Addr} {u : V} {Q : VK}
theorem z_H5_a {x : H5 α β δ ε ζ} {up : H5 α β δ ε ζ → γ} (h : Zm K A R H p u x up) (k : ∀ w, Zm K A R H p w x.a (fun z => up { x with a := z }) → Q w H) : rIxL K u (.int (0 : Int)) H Q := by
  obtain ⟨S, G, s1, s2, dd, ⟨a, v1, v2, v3, v4, v5, F1, F2, F3, F4, F5, rfl, h2, rfl, ⟨q0, q1, q2, q3, q4⟩, t1, t2, t3, t4, t5⟩, b⟩ := h.at_
  refine ⟨a, _, _, v1, rfl, rfl, SqL.of h2, rfl, k v1 ⟨h.av, h.lv, S ++ (a :: (F2 ++ (F3 ++ (F4 ++ F5)))), F1, ?_, fun b m => s2 b (by simp only [List.mem_append, List.mem_cons, m, true_or, or_true]), ?_, t1, fun H' im' e2 d' G' t' dj' => ?_⟩⟩
  · clear b
    intro b m
    simp only [List.mem_append, List.mem_cons] at m s2
    rcases m with m | m
    · exact s1 b m
    · exact s2 b (by grind)
  · clear b
    intro b m z
    simp only [List.mem_append, List.mem_cons, dj] at z dd q0 q1 q2 q3 q4
    grind
  · have hd : dj (a :: (G' ++ (F2 ++ (F3 ++ (F4 ++ F5))))) S := by
      intro b m z
      simp only [List.mem_append, List.mem_cons, dj] at m dd dj'
      grind
    have hq : a ∉ G' ++ (F2 ++ (F3 ++ (F4 ++ F5))) ∧ dj G' (F2 ++ (F3 ++ (F4 ++ F5))) ∧ dj F2 (F3 ++ (F4 ++ F5)) ∧ dj F3 (F4 ++ F5) ∧ dj F4 F5 := by
      clear hd b
      simp only [List.mem_append, List.mem_cons, dj] at *
      grind
    obtain ⟨F', tt, ss⟩ := b H' im' (fun b m => e2 b (List.mem_append.mpr (.inl m))) { x with a := d' } (a :: (G' ++ (F2 ++ (F3 ++ (F4 ++ F5))))) ⟨a, v1, v2, v3, v4, v5, G', F2, F3, F4, F5, rfl, (e2 a (by simp)).trans h2, rfl, hq, t', Tr.le im' (fun b m => e2 b (by simp only [List.mem_append, List.mem_cons, m, true_or, or_true])) t2, Tr.le im' (fun b m => e2 b (by simp only [List.mem_append, List.mem_cons, m, true_or, or_true])) t3, Tr.le im' (fun b m => e2 b (by simp only [List.mem_append, List.mem_cons, m, true_or, or_true])) t4, Tr.le im' (fun b m => e2 b (by simp only [List.mem_append, List.mem_cons, m, true_or, or_true])) t5⟩ hd
    refine ⟨F', tt, fun b m => ?_⟩
    have := ss b m
    clear hq hd ss
    simp only [List.mem_append, List.mem_cons] at this ⊢
    grind
theorem z_H5_b {x : H5 α β δ ε ζ} {up : H5 α β δ ε ζ → γ} (h : Zm K A R H p u x up) (k : ∀ w, Zm K A R H p w x.b (fun z => up { x with b := z }) → Q w H) : rIxL K u (.int (1 : Int)) H Q := by
  obtain ⟨S, G, s1, s2, dd, ⟨a, v1, v2, v3, v4, v5, F1, F2, F3, F4, F5, rfl, h2, rfl, ⟨q0, q1, q2, q3, q4⟩, t1, t2, t3, t4, t5⟩, b⟩ := h.at_
  refine ⟨a, _, _, v2, rfl, rfl, SqL.of h2, rfl, k v2 ⟨h.av, h.lv, S ++ (a :: (F1 ++ (F3 ++ (F4 ++ F5)))), F2, ?_, fun b m => s2 b (by simp only [List.mem_append, List.mem_cons, m, true_or, or_true]), ?_, t2, fun H' im' e2 d' G' t' dj' => ?_⟩⟩
  · clear b
    intro b m
    simp only [List.mem_append, List.mem_cons] at m s2
    rcases m with m | m
    · exact s1 b m
    · exact s2 b (by grind)
  · clear b
    intro b m z
    simp only [List.mem_append, List.mem_cons, dj] at z dd q0 q1 q2 q3 q4
    grind
  · have hd : dj (a :: (F1 ++ (G' ++ (F3 ++ (F4 ++ F5))))) S := by
      intro b m z
      simp only [List.mem_append, List.mem_cons, dj] at m dd dj'
      grind
    have hq : a ∉ F1 ++ (G' ++ (F3 ++ (F4 ++ F5))) ∧ dj F1 (G' ++ (F3 ++ (F4 ++ F5))) ∧ dj G' (F3 ++ (F4 ++ F5)) ∧ dj F3 (F4 ++ F5) ∧ dj F4 F5 := by
      clear hd b
      simp only [List.mem_append, List.mem_cons, dj] at *
      grind
    obtain ⟨F', tt, ss⟩ := b H' im' (fun b m => e2 b (List.mem_append.mpr (.inl m))) { x with b := d' } (a :: (F1 ++ (G' ++ (F3 ++ (F4 ++ F5))))) ⟨a, v1, v2, v3, v4, v5, F1, G', F3, F4, F5, rfl, (e2 a (by simp)).trans h2, rfl, hq, Tr.le im' (fun b m => e2 b (by simp only [List.mem_append, List.mem_cons, m, true_or, or_true])) t1, t', Tr.le im' (fun b m => e2 b (by simp only [List.mem_append, List.mem_cons, m, true_or, or_true])) t3, Tr.le im' (fun b m => e2 b (by simp only [List.mem_append, List.mem_cons, m, true_or, or_true])) t4, Tr.le im' (fun b m => e2 b (by simp only [List.mem_append, List.mem_cons, m, true_or, or_true])) t5⟩ hd
    refine ⟨F', tt, fun b m => ?_⟩
    have := ss b m
    clear hq hd ss
    simp only [List.mem_append, List.mem_cons] at this ⊢
    grind
theorem z_H5_c {x : H5 α β δ ε ζ} {up : H5 α β δ ε ζ → γ} (h : Zm K A R H p u x up) (k : ∀ w, Zm K A R H p w x.c (fun z => up { x with c := z }) → Q w H) : rIxL K u (.int (2 : Int)) H Q := by
  obtain ⟨S, G, s1, s2, dd, ⟨a, v1, v2, v3, v4, v5, F1, F2, F3, F4, F5, rfl, h2, rfl, ⟨q0, q1, q2, q3, q4⟩, t1, t2, t3, t4, t5⟩, b⟩ := h.at_
  refine ⟨a, _, _, v3, rfl, rfl, SqL.of h2, rfl, k v3 ⟨h.av, h.lv, S ++ (a :: (F1 ++ (F2 ++ (F4 ++ F5)))), F3, ?_, fun b m => s2 b (by simp only [List.mem_append, List.mem_cons, m, true_or, or_true]), ?_, t3, fun H' im' e2 d' G' t' dj' => ?_⟩⟩
  · clear b
    intro b m
    simp only [List.mem_append, List.mem_cons] at m s2
    rcases m with m | m
    · exact s1 b m
    · exact s2 b (by grind)
  · clear b
    intro b m z
    simp only [List.mem_append, List.mem_cons, dj] at z dd q0 q1 q2 q3 q4
    grind
  · have hd : dj (a :: (F1 ++ (F2 ++ (G' ++ (F4 ++ F5))))) S := by
      intro b m z
      simp only [List.mem_append, List.mem_cons, dj] at m dd dj'
      grind
    have hq : a ∉ F1 ++ (F2 ++ (G' ++ (F4 ++ F5))) ∧ dj F1 (F2 ++ (G' ++ (F4 ++ F5))) ∧ dj F2 (G' ++ (F4 ++ F5)) ∧ dj G' (F4 ++ F5) ∧ dj F4 F5 := by
      clear hd b
      simp only [List.mem_append, List.mem_cons, dj] at *
      grind
    obtain ⟨F', tt, ss⟩ := b H' im' (fun b m => e2 b (List.mem_append.mpr (.inl m))) { x with c := d' } (a :: (F1 ++ (F2 ++ (G' ++ (F4 ++ F5))))) ⟨a, v1, v2, v3, v4, v5, F1, F2, G', F4, F5, rfl, (e2 a (by simp)).trans h2, rfl, hq, Tr.le im' (fun b m => e2 b (by simp only [List.mem_append, List.mem_cons, m, true_or, or_true])) t1, Tr.le im' (fun b m => e2 b (by simp only [List.mem_append, List.mem_cons, m, true_or, or_true])) t2, t', Tr.le im' (fun b m => e2 b (by simp only [List.mem_append, List.mem_cons, m, true_or, or_true])) t4, Tr.le im' (fun b m => e2 b (by simp only [List.mem_append, List.mem_cons, m, true_or, or_true])) t5⟩ hd
    refine ⟨F', tt, fun b m => ?_⟩
    have := ss b m
    clear hq hd ss
    simp only [List.mem_append, List.mem_cons] at this ⊢
    grind
theorem z_H5_d {x : H5 α β δ ε ζ} {up : H5 α β δ ε ζ → γ} (h : Zm K A R H p u x up) (k : ∀ w, Zm K A R H p w x.d (fun z => up { x with d := z }) → Q w H) : rIxL K u (.int (3 : Int)) H Q := by
  obtain ⟨S, G, s1, s2, dd, ⟨a, v1, v2, v3, v4, v5, F1, F2, F3, F4, F5, rfl, h2, rfl, ⟨q0, q1, q2, q3, q4⟩, t1, t2, t3, t4, t5⟩, b⟩ := h.at_
  refine ⟨a, _, _, v4, rfl, rfl, SqL.of h2, rfl, k v4 ⟨h.av, h.lv, S ++ (a :: (F1 ++ (F2 ++ (F3 ++ F5)))), F4, ?_, fun b m => s2 b (by simp only [List.mem_append, List.mem_cons, m, true_or, or_true]), ?_, t4, fun H' im' e2 d' G' t' dj' => ?_⟩⟩
  · clear b
    intro b m
    simp only [List.mem_append, List.mem_cons] at m s2
    rcases m with m | m
    · exact s1 b m
    · exact s2 b (by grind)
  · clear b
    intro b m z
    simp only [List.mem_append, List.mem_cons, dj] at z dd q0 q1 q2 q3 q4
    grind
  · have hd : dj (a :: (F1 ++ (F2 ++ (F3 ++ (G' ++ F5))))) S := by
      intro b m z
      simp only [List.mem_append, List.mem_cons, dj] at m dd dj'
      grind
    have hq : a ∉ F1 ++ (F2 ++ (F3 ++ (G' ++ F5))) ∧ dj F1 (F2 ++ (F3 ++ (G' ++ F5))) ∧ dj F2 (F3 ++ (G' ++ F5)) ∧ dj F3 (G' ++ F5) ∧ dj G' F5 := by
      clear hd b
      simp only [List.mem_append, List.mem_cons, dj] at *
      grind
    obtain ⟨F', tt, ss⟩ := b H' im' (fun b m => e2 b (List.mem_append.mpr (.inl m))) { x with d := d' } (a :: (F1 ++ (F2 ++ (F3 ++ (G' ++ F5))))) ⟨a, v1, v2, v3, v4, v5, F1, F2, F3, G', F5, rfl, (e2 a (by simp)).trans h2, rfl, hq, Tr.le im' (fun b m => e2 b (by simp only [List.mem_append, List.mem_cons, m, true_or, or_true])) t1, Tr.le im' (fun b m => e2 b (by simp only [List.mem_append, List.mem_cons, m, true_or, or_true])) t2, Tr.le im' (fun b m => e2 b (by simp only [List.mem_append, List.mem_cons, m, true_or, or_true])) t3, t', Tr.le im' (fun b m => e2 b (by simp only [List.mem_append, List.mem_cons, m, true_or, or_true])) t5⟩ hd
    refine ⟨F', tt, fun b m => ?_⟩
    have := ss b m
    clear hq hd ss
    simp only [List.mem_append, List.mem_cons] at this ⊢
    grind
theorem z_H5_e {x : H5 α β δ ε ζ} {up : H5 α β δ ε ζ → γ} (h : Zm K A R H p u x up) (k : ∀ w, Zm K A R H p w x.e (fun z => up { x with e := z }) → Q w H) : rIxL K u (.int (4 : Int)) H Q := by
  obtain ⟨S, G, s1, s2, dd, ⟨a, v1, v2, v3, v4, v5, F1, F2, F3, F4, F5, rfl, h2, rfl, ⟨q0, q1, q2, q3, q4⟩, t1, t2, t3, t4, t5⟩, b⟩ := h.at_
  refine ⟨a, _, _, v5, rfl, rfl, SqL.of h2, rfl, k v5 ⟨h.av, h.lv, S ++ (a :: (F1 ++ (F2 ++ (F3 ++ F4)))), F5, ?_, fun b m => s2 b (by simp only [List.mem_append, List.mem_cons, m, true_or, or_true]), ?_, t5, fun H' im' e2 d' G' t' dj' => ?_⟩⟩
  · clear b
    intro b m
    simp only [List.mem_append, List.mem_cons] at m s2
    rcases m with m | m
    · exact s1 b m
    · exact s2 b (by grind)
  · clear b
    intro b m z
    simp only [List.mem_append, List.mem_cons, dj] at z dd q0 q1 q2 q3 q4
    grind
  · have hd : dj (a :: (F1 ++ (F2 ++ (F3 ++ (F4 ++ G'))))) S := by
      intro b m z
      simp only [List.mem_append, List.mem_cons, dj] at m dd dj'
      grind
    have hq : a ∉ F1 ++ (F2 ++ (F3 ++ (F4 ++ G'))) ∧ dj F1 (F2 ++ (F3 ++ (F4 ++ G'))) ∧ dj F2 (F3 ++ (F4 ++ G')) ∧ dj F3 (F4 ++ G') ∧ dj F4 G' := by
      clear hd b
      simp only [List.mem_append, List.mem_cons, dj] at *
      grind
    obtain ⟨F', tt, ss⟩ := b H' im' (fun b m => e2 b (List.mem_append.mpr (.inl m))) { x with e := d' } (a :: (F1 ++ (F2 ++ (F3 ++ (F4 ++ G'))))) ⟨a, v1, v2, v3, v4, v5, F1, F2, F3, F4, G', rfl, (e2 a (by simp)).trans h2, rfl, hq, Tr.le im' (fun b m => e2 b (by simp only [List.mem_append, List.mem_cons, m, true_or, or_true])) t1, Tr.le im' (fun b m => e2 b (by simp only [List.mem_append, List.mem_cons, m, true_or, or_true])) t2, Tr.le im' (fun b m => e2 b (by simp only [List.mem_append, List.mem_cons, m, true_or, or_true])) t3, Tr.le im' (fun b m => e2 b (by simp only [List.mem_append, List.mem_cons, m, true_or, or_true])) t4, t'⟩ hd
    refine ⟨F', tt, fun b m => ?_⟩
    have := ss b m
    clear hq hd ss
    simp only [List.mem_append, List.mem_cons] at this ⊢
    grind
end
/-- a comprehension whose items are new trees -/
theorem lc_t {α β : Type} [Rp α] [Rp β] [Tr β] {K : PySem.W.Frag} {J : It} {ds : List α} {g : TG} {te : TE} {vs : List Nat} {σ : St} {H1 : Hp} {Q : VK} {B : Av} (w : TW K J B H1 ds) (f : α → Option β) (r : List β) (hm : mapO f ds = some r) (hz : ds.length ≤ big)
    (hs : ∀ D, H1 D = none → ∀ d y v H', f d = some y → Ex H1 H' → H' D ≠ none → rp K (ins D B) H' v d → ∀ (M : V → Hp → Prop), (∀ u H4, Ex H' H4 → NwT K H' H4 u y → M u H4) →
      g v (wipe σ vs) H' fun σ2 H2 => wipe σ2 vs = wipe σ vs ∧ te σ2 H2 M)
    (hd : ∀ D H, H1 D = none → Ex H1 H → NwT K H1 H (.ref D) r → Q (.ref D) H) : LcQ g tYes te vs σ Q J H1 := by
  intro D hD
  refine ⟨fun i m H => m = ds.length - i ∧ i ≤ ds.length ∧ ∃ acc ys zs F, r = ys ++ zs ∧ ys.length = i ∧ mapO f (ds.drop i) = some zs ∧ Ex H1 H ∧ H D = some (.lst acc) ∧ Fa (tr K H) acc ys F ∧ (∀ a ∈ F, H1 a = none) ∧ D ∉ F,
    ⟨ds.length, by simp, Nat.zero_le _, [], [], r, [], rfl, rfl, hm, Ex.new hD, upd_same, .nil, fun _ z => (by cases z), fun z => by cases z⟩, ?_⟩
  rintro i m H ⟨rfl, hi, acc, ys, zs, F, e1, hl, hf, k, hDl, fa, fr, dF⟩
  have le2 : Le B H1 (ins D B) H := (Le.grow hD).trans k.le
  by_cases hlt : i < ds.length
  · rw [drop_cons hlt] at hf
    obtain ⟨y, h1, h2⟩ := ob hf
    obtain ⟨zs', h3, h4⟩ := ob h2
    cases h4
    refine .inr ⟨w.goes i B H hlt k.le, fun H' => ∃ acc ys zs F, r = ys ++ zs ∧ ys.length = i + 1 ∧ mapO f (ds.drop (i + 1)) = some zs ∧ Ex H1 H' ∧ H' D = some (.lst acc) ∧ Fa (tr K H') acc ys F ∧ (∀ a ∈ F, H1 a = none) ∧ D ∉ F,
      fun H' z => ⟨ds.length - (i + 1), by omega, rfl, hlt, z⟩, fun v H' yl => ?_⟩
    have hg := List.getElem?_eq_getElem hlt
    obtain ⟨ex, rv⟩ := w.yields i _ H v H' ds[i] le2 yl hg
    have hD' : H' D = some (.lst acc) := ex D _ hDl
    refine hs D hD ds[i] y v H' h1 (k.trans ex) (by rw [hD']; exact fun z => by cases z) rv _ fun u H4 x nt => ?_
    obtain ⟨G, tg, fg⟩ := nt.at_
    have hD4 : H4 D = some (.lst acc) := x D _ hD'
    have la := fa.length
    have nD : D ∉ G := fun z => by
      have := fg D z
      rw [hD'] at this
      cases this
    have kw : Kp (fun a => a = D) H4 (upd H4 D (.lst (acc ++ [u]))) := Kp.write hD4 fun z => z
    have e5 : Ex H1 (upd H4 D (.lst (acc ++ [u]))) := fun a o h => by
      rw [upd_ne (ne_of_none h hD)]
      exact x a o (ex a o (k a o h))
    have lv : ∀ a ∈ F, H a ≠ none := fa.live (Q := fun a => H a ≠ none) fun _ _ _ p => Tr.live p
    have sm : ∀ a ∈ F, (upd H4 D (.lst (acc ++ [u]))) a = H a := fun a m => by
      rw [upd_ne (show a ≠ D from fun z => dF (z ▸ m))]
      cases q : H a with
      | none => exact absurd q (lv a m)
      | some o => exact x a o (ex a o q)
    refine ⟨acc, hD4, by rw [la]; exact big_lt (by omega), acc ++ [u], ys ++ [y], zs', F ++ G, by rw [e1, List.append_assoc]; rfl, by rw [List.length_append, List.length_singleton]; omega, h3, e5, upd_same, ?_, fun a m => ?_, fun z => ?_⟩
    · refine (fa.mono fun v x0 G2 s p => Tr.le ((ex.trans x).im.trans kw.im) (fun a m => sm a (s a m)) p).snoc (Tr.le kw.im (fun a m => upd_ne (show a ≠ D from fun z => nD (z ▸ m))) tg) fun a m z => ?_
      exact lv a z (ex.dom (fg a m))
    · rcases List.mem_append.mp m with m | m
      · exact fr a m
      · exact (k.trans ex).dom (fg a m)
    · exact (List.mem_append.mp z).elim dF nD
  · have ei : i = ds.length := by omega
    subst ei
    rw [List.drop_length] at hf
    cases hf
    rw [List.append_nil] at e1
    subst e1
    exact .inl ⟨w.stops B H k.le, hd D H hD k ⟨D :: F, ⟨by omega, D, acc, F, rfl, hDl, rfl, dF, fa⟩, fun a m => by
      rcases List.mem_cons.mp m with m | m
      · exact m ▸ hD
      · exact fr a m⟩⟩


/-! ### == of data -/
class Da (α : Type) [Rp α] [DecidableEq α] where
  dat : α → PyData
  ok : α → Bool
  dpt : Nat
  dp : ∀ {K : PySem.W.Frag} {A : Av} {H : Hp} {v : V} {x : α}, rp K A H v x → Dp K H v (dat x)
  can : ∀ {x : α}, ok x = true → (dat x).canLay0 = true
  dep : ∀ (x : α), (dat x).depth ≤ dpt
  eqv : ∀ (x y : α), (dat x).eqv (dat y) = decide (x = y)
/-- data that is never None -/
class Dn (α : Type) [Rp α] [DecidableEq α] [Da α] : Prop where
  nl : ∀ (x : α), PyData.none.eqv (Da.dat x) = false
  nr : ∀ (x : α), (Da.dat x).eqv PyData.none = false
section
variable {α β γ δ ε : Type} [Rp α] [Rp β] [Rp γ] [Rp δ] [Rp ε] [DecidableEq α] [DecidableEq β] [DecidableEq γ] [DecidableEq δ] [DecidableEq ε] [Da α] [Da β] [Da γ] [Da δ] [Da ε]
theorem beq_dec {x y : α} (h : (x == y) = decide (x = y)) : (x == y) = decide (x = y) := h
instance : Da Int where
  dat := .int
  ok := fun _ => true
  dpt := 0
  dp := fun {K A H v x} h => by
    obtain rfl : v = .int x := h
    exact .int x
  can := fun _ => rfl
  dep := fun _ => Nat.le_refl _
  eqv := fun x y => by
    show (x == y) = decide (x = y)
    rw [Bool.eq_iff_iff, beq_iff_eq, decide_eq_true_iff]
instance : Da Bool where
  dat := .bool
  ok := fun _ => true
  dpt := 0
  dp := fun {K A H v x} h => by
    obtain rfl : v = .bl x := h
    exact .bl x
  can := fun _ => rfl
  dep := fun _ => Nat.le_refl _
  eqv := fun x y => by
    show (x == y) = decide (x = y)
    rw [Bool.eq_iff_iff, beq_iff_eq, decide_eq_true_iff]
instance : Da Str where
  dat := .str
  ok := PyData.strOk
  dpt := 0
  dp := fun {K A H v x} h => by
    obtain rfl : v = .str x := h
    exact .str x
  can := fun h => h
  dep := fun _ => Nat.le_refl _
  eqv := fun x y => by
    show (x == y) = decide (x = y)
    rw [Bool.eq_iff_iff, beq_iff_eq, decide_eq_true_iff]
instance : Dn Int := ⟨fun _ => rfl, fun _ => rfl⟩
instance : Dn Bool := ⟨fun _ => rfl, fun _ => rfl⟩
instance : Dn Str := ⟨fun _ => rfl, fun _ => rfl⟩
theorem dpAll {K : PySem.W.Frag} {A : Av} {H : Hp} {vs : List V} {xs : List α} (h : All K A H vs xs) : DpAll K H vs (xs.map Da.dat) := by
  induction h with
  | nil => exact .nil
  | cons r _ ih => exact .cons (Da.dp r) ih
theorem canAll : ∀ {xs : List α}, xs.all Da.ok = true → PyData.canLayAll0 (xs.map Da.dat) = true
  | [], _ => rfl
  | x :: xs, h => by
    rw [List.all_cons, Bool.and_eq_true] at h
    show ((Da.dat x).canLay0 && PyData.canLayAll0 (xs.map Da.dat)) = true
    rw [Da.can h.1, canAll h.2]
    rfl
theorem depAll : ∀ (xs : List α), PyData.depthAll (xs.map Da.dat) ≤ Da.dpt α
  | [] => Nat.zero_le _
  | x :: xs => Nat.max_le.mpr ⟨Da.dep x, depAll xs⟩
theorem eqvAll' : ∀ (xs ys : List α), PyData.eqvAll (xs.map Da.dat) (ys.map Da.dat) = decide (xs = ys)
  | [], [] => rfl
  | [], _ :: _ => rfl
  | _ :: _, [] => rfl
  | x :: xs, y :: ys => by
    show ((Da.dat x).eqv (Da.dat y) && PyData.eqvAll (xs.map Da.dat) (ys.map Da.dat)) = decide (x :: xs = y :: ys)
    rw [Da.eqv, eqvAll' xs ys, Bool.eq_iff_iff, Bool.and_eq_true, decide_eq_true_iff, decide_eq_true_iff, decide_eq_true_iff, List.cons.injEq]
instance : Da (List α) where
  dat := fun xs => .list (xs.map Da.dat)
  ok := fun xs => xs.all Da.ok
  dpt := Da.dpt α + 1
  dp := fun ⟨_, a, xs, h1, h2, h3⟩ => h1 ▸ .lst h2.sq (dpAll h3)
  can := canAll
  dep := fun xs => Nat.add_le_add_right (depAll xs) 1
  eqv := eqvAll'
instance : Dn (List α) := ⟨fun _ => rfl, fun _ => rfl⟩
instance : Da (Tup α) where
  dat := fun xs => .tuple (xs.l.map Da.dat)
  ok := fun xs => xs.l.all Da.ok
  dpt := Da.dpt α + 1
  dp := fun ⟨_, a, xs, h1, h2, h3⟩ => h1 ▸ .tup h2 (dpAll h3)
  can := canAll
  dep := fun xs => Nat.add_le_add_right (depAll xs.l) 1
  eqv := fun ⟨x⟩ ⟨y⟩ => by
    show PyData.eqvAll (x.map Da.dat) (y.map Da.dat) = _
    rw [eqvAll', Bool.eq_iff_iff, decide_eq_true_iff, decide_eq_true_iff, Tup.mk.injEq]
instance : Dn (Tup α) := ⟨fun _ => rfl, fun _ => rfl⟩
instance [Dn α] : Da (Option α) where
  dat := fun x => match x with
    | none => .none
    | some y => Da.dat y
  ok := fun x => match x with
    | none => true
    | some y => Da.ok y
  dpt := Da.dpt α
  dp := fun {K A H v x} h => by
    cases x with
    | none =>
      obtain rfl : v = .non := h
      exact .non
    | some y => exact Da.dp h.2
  can := fun {x} h => by
    cases x with
    | none => rfl
    | some y => exact Da.can h
  dep := fun x => by
    cases x with
    | none => exact Nat.zero_le _
    | some y => exact Da.dep y
  eqv := fun x y => by
    cases x with
    | none =>
      cases y with
      | none => rfl
      | some y => exact Dn.nl y
    | some x =>
      cases y with
      | none => exact Dn.nr x
      | some y =>
        show (Da.dat x).eqv (Da.dat y) = _
        rw [Da.eqv, Bool.eq_iff_iff, decide_eq_true_iff, decide_eq_true_iff, Option.some.injEq]
instance : Da (T2 α β) where
  dat := fun x => .tuple [Da.dat x.a, Da.dat x.b]
  ok := fun x => Da.ok x.a && Da.ok x.b
  dpt := max (Da.dpt α) (Da.dpt β) + 1
  dp := fun ⟨p, v1, v2, h, t, h1, h2⟩ => h ▸ .tup t (.cons (Da.dp h1) (.cons (Da.dp h2) .nil))
  can := fun {x} h => by
    rw [Bool.and_eq_true] at h
    show ((Da.dat x.a).canLay0 && ((Da.dat x.b).canLay0 && true)) = true
    rw [Da.can h.1, Da.can h.2]
    rfl
  dep := fun x => by
    show max (Da.dat x.a).depth (max (Da.dat x.b).depth 0) + 1 ≤ _
    have := Da.dep x.a
    have := Da.dep x.b
    omega
  eqv := fun ⟨a, b⟩ ⟨c, d⟩ => by
    show ((Da.dat a).eqv (Da.dat c) && ((Da.dat b).eqv (Da.dat d) && true)) = _
    rw [Da.eqv, Da.eqv, Bool.and_true, Bool.eq_iff_iff, Bool.and_eq_true, decide_eq_true_iff, decide_eq_true_iff, decide_eq_true_iff, T2.mk.injEq]
instance : Dn (T2 α β) := ⟨fun _ => rfl, fun _ => rfl⟩
instance : Da (T3 α β γ) where
  dat := fun x => .tuple [Da.dat x.a, Da.dat x.b, Da.dat x.c]
  ok := fun x => Da.ok x.a && (Da.ok x.b && Da.ok x.c)
  dpt := max (Da.dpt α) (max (Da.dpt β) (Da.dpt γ)) + 1
  dp := fun ⟨p, v1, v2, v3, h, t, h1, h2, h3⟩ => h ▸ .tup t (.cons (Da.dp h1) (.cons (Da.dp h2) (.cons (Da.dp h3) .nil)))
  can := fun {x} h => by
    rw [Bool.and_eq_true, Bool.and_eq_true] at h
    show ((Da.dat x.a).canLay0 && ((Da.dat x.b).canLay0 && ((Da.dat x.c).canLay0 && true))) = true
    rw [Da.can h.1, Da.can h.2.1, Da.can h.2.2]
    rfl
  dep := fun x => by
    show max (Da.dat x.a).depth (max (Da.dat x.b).depth (max (Da.dat x.c).depth 0)) + 1 ≤ _
    have := Da.dep x.a
    have := Da.dep x.b
    have := Da.dep x.c
    omega
  eqv := fun ⟨a, b, c⟩ ⟨d, e, f⟩ => by
    show ((Da.dat a).eqv (Da.dat d) && ((Da.dat b).eqv (Da.dat e) && ((Da.dat c).eqv (Da.dat f) && true))) = _
    rw [Da.eqv, Da.eqv, Da.eqv, Bool.and_true, Bool.eq_iff_iff, Bool.and_eq_true, Bool.and_eq_true, decide_eq_true_iff, decide_eq_true_iff, decide_eq_true_iff, decide_eq_true_iff, T3.mk.injEq]
instance : Dn (T3 α β γ) := ⟨fun _ => rfl, fun _ => rfl⟩
instance : Da (H2 α β) where
  dat := fun x => .list [Da.dat x.a, Da.dat x.b]
  ok := fun x => Da.ok x.a && Da.ok x.b
  dpt := max (Da.dpt α) (Da.dpt β) + 1
  dp := fun ⟨p, v1, v2, h, t, h1, h2⟩ => h ▸ .lst t.sq (.cons (Da.dp h1) (.cons (Da.dp h2) .nil))
  can := fun {x} h => by
    rw [Bool.and_eq_true] at h
    show ((Da.dat x.a).canLay0 && ((Da.dat x.b).canLay0 && true)) = true
    rw [Da.can h.1, Da.can h.2]
    rfl
  dep := fun x => by
    show max (Da.dat x.a).depth (max (Da.dat x.b).depth 0) + 1 ≤ _
    have := Da.dep x.a
    have := Da.dep x.b
    omega
  eqv := fun ⟨a, b⟩ ⟨c, d⟩ => by
    show ((Da.dat a).eqv (Da.dat c) && ((Da.dat b).eqv (Da.dat d) && true)) = _
    rw [Da.eqv, Da.eqv, Bool.and_true, Bool.eq_iff_iff, Bool.and_eq_true, decide_eq_true_iff, decide_eq_true_iff, decide_eq_true_iff, H2.mk.injEq]
instance : Da (H5 α β γ δ ε) where
  dat := fun x => .list [Da.dat x.a, Da.dat x.b, Da.dat x.c, Da.dat x.d, Da.dat x.e]
  ok := fun x => Da.ok x.a && (Da.ok x.b && (Da.ok x.c && (Da.ok x.d && Da.ok x.e)))
  dpt := max (Da.dpt α) (max (Da.dpt β) (max (Da.dpt γ) (max (Da.dpt δ) (Da.dpt ε)))) + 1
  dp := fun ⟨p, v1, v2, v3, v4, v5, h, t, h1, h2, h3, h4, h5⟩ => h ▸ .lst t.sq (.cons (Da.dp h1) (.cons (Da.dp h2) (.cons (Da.dp h3) (.cons (Da.dp h4) (.cons (Da.dp h5) .nil)))))
  can := fun {x} h => by
    rw [Bool.and_eq_true, Bool.and_eq_true, Bool.and_eq_true, Bool.and_eq_true] at h
    show ((Da.dat x.a).canLay0 && ((Da.dat x.b).canLay0 && ((Da.dat x.c).canLay0 && ((Da.dat x.d).canLay0 && ((Da.dat x.e).canLay0 && true))))) = true
    rw [Da.can h.1, Da.can h.2.1, Da.can h.2.2.1, Da.can h.2.2.2.1, Da.can h.2.2.2.2]
    rfl
  dep := fun x => by
    show max (Da.dat x.a).depth (max (Da.dat x.b).depth (max (Da.dat x.c).depth (max (Da.dat x.d).depth (max (Da.dat x.e).depth 0)))) + 1 ≤ _
    have := Da.dep x.a
    have := Da.dep x.b
    have := Da.dep x.c
    have := Da.dep x.d
    have := Da.dep x.e
    omega
  eqv := fun ⟨a, b, c, d, e⟩ ⟨a', b', c', d', e'⟩ => by
    show ((Da.dat a).eqv (Da.dat a') && ((Da.dat b).eqv (Da.dat b') && ((Da.dat c).eqv (Da.dat c') && ((Da.dat d).eqv (Da.dat d') && ((Da.dat e).eqv (Da.dat e') && true))))) = _
    rw [Da.eqv, Da.eqv, Da.eqv, Da.eqv, Da.eqv, Bool.and_true, Bool.eq_iff_iff, Bool.and_eq_true, Bool.and_eq_true, Bool.and_eq_true, Bool.and_eq_true, decide_eq_true_iff, decide_eq_true_iff, decide_eq_true_iff, decide_eq_true_iff, decide_eq_true_iff, decide_eq_true_iff, H5.mk.injEq]
end
/-- x == y, data whose texts are plain -/
def eqD {α : Type} [Rp α] [DecidableEq α] [Da α] (x y : α) : Option Bool := if Da.ok x = true ∧ Da.ok y = true then some (decide (x = y)) else none
theorem eqD_of {α : Type} [Rp α] [DecidableEq α] [Da α] {x y : α} {b : Bool} (h : eqD x y = some b) : (Da.ok x = true ∧ Da.ok y = true) ∧ b = decide (x = y) := by
  unfold eqD at h
  by_cases q : Da.ok x = true ∧ Da.ok y = true
  · rw [if_pos q] at h
    exact ⟨q, (si h).symm⟩
  · rw [if_neg q] at h
    cases h
section
variable {α : Type} [Rp α] [DecidableEq α] [Da α] {K : PySem.W.Frag} {A B : Av} {H : Hp} {v u : V} {x y : α} {Q : VK}
theorem sh_of (h : Da.ok x = true) (d : Da.dpt α ≤ 64) : SeqAt.shaped (Da.dat x) = true := by
  unfold SeqAt.shaped
  rw [Da.can h, Bool.true_and]
  exact decide_eq_true (Nat.le_trans (Da.dep x) d)
theorem g_eqD (h : rp K A H v x) (g : rp K B H u y) (c : Da.ok x = true ∧ Da.ok y = true) (d : Da.dpt α ≤ 64) (k : Q (.bl (decide (x = y))) H) : rEqD K v u H Q :=
  ⟨_, _, Da.dp h, Da.dp g, sh_of c.1 d, sh_of c.2 d, by rw [Da.eqv]; exact k⟩
theorem g_neD (h : rp K A H v x) (g : rp K B H u y) (c : Da.ok x = true ∧ Da.ok y = true) (d : Da.dpt α ≤ 64) (k : Q (.bl (!decide (x = y))) H) : rNeD K v u H Q :=
  ⟨_, _, Da.dp h, Da.dp g, sh_of c.1 d, sh_of c.2 d, by rw [Da.eqv]; exact k⟩
end


/-! ### isinstance -/
class Ty1 (α : Type) [Rp α] where
  t : String
  ty : ∀ {K : PySem.W.Frag} {A : Av} {H : Hp} {v : V} {x : α}, rp K A H v x → TyX K H v (.type t)
theorem tyT {K : PySem.W.Frag} {H : Hp} {a : Addr} {xs : List V} (h : SqT K H a xs) : TyX K H (.ref a) (.type "tuple") := by
  rcases h with (h | ⟨o, h⟩) | ⟨o, its, n, h, c, _⟩
  · exact .base (.tup h)
  · exact .fTuple h
  · exact .kTuple h c
section
variable {α β γ : Type} [Rp α] [Rp β] [Rp γ]
instance : Ty1 Int := ⟨"int", fun {K A H v x} h => by
  obtain rfl : v = .int x := h
  exact .base (.int x)⟩
instance : Ty1 Bool := ⟨"bool", fun {K A H v x} h => by
  obtain rfl : v = .bl x := h
  exact .base (.bl x)⟩
instance : Ty1 Str := ⟨"str", fun {K A H v x} h => by
  obtain rfl : v = .str x := h
  exact .base (.str x)⟩
instance : Ty1 (List α) := ⟨"list", fun ⟨_, a, xs, h, t, _⟩ => h ▸ .base (.lst t.1)⟩
instance : Ty1 (Tup α) := ⟨"tuple", fun ⟨_, a, xs, h, t, _⟩ => h ▸ tyT t⟩
instance : Ty1 (T2 α β) := ⟨"tuple", fun ⟨p, v1, v2, h, t, _⟩ => h ▸ tyT t⟩
instance : Ty1 (T3 α β γ) := ⟨"tuple", fun ⟨p, v1, v2, v3, h, t, _⟩ => h ▸ tyT t⟩
theorem g_isi {K : PySem.W.Frag} {A : Av} {H : Hp} {v : V} {x : α} [Ty1 α] {U : String} {b : Bool} {Q : VK} (h : rp K A H v x) (e : kitB (Ty1.t α) U = some b) (k : Q (.bl b) H) : rIsi K [v, .ty U] H Q :=
  ⟨v, .ty U, .type (Ty1.t α), .type U, b, rfl, .ty U, Ty1.ty h, kit_ty e, k⟩
end
theorem qe_ty {X : Cx} {x : Str} {T : String} {pos : Pos} (hg : Gl X x) (hm : X.mg x = none) (hv : bootBuiltins x = some (.type T)) (hn : x ≠ "__name__" := by decide) (hd : (x == ("__debug__" : Str)) = false := by decide) : PE X (.Name x pos) (fun _ H Q => Q (.ty T) H) := pe_bltn hg hm hv rfl hn hd
/-! ### objects -/
def isC (K : PySem.W.Frag) (n : Str) (C : Addr) : Prop := PySem.W.nsIn K mainGlobals n = some (some (.ref C))
theorem isC.eq {K : PySem.W.Frag} {n : Str} {C D : Addr} (h : isC K n C) (g : isC K n D) : C = D := by
  have e := h.symm.trans g
  cases e
  rfl
/-- an object that is being made: nothing leans on it yet -/
structure OwnO (A : Av) (H : Hp) (p C dx : Addr) (fs : List (Str × V)) : Prop where
  av : A p
  at_ : H p = some (.ins C dx fs)
section
variable {K : PySem.W.Frag} {A B C' : Av} {H H' : Hp} {p C dx : Addr} {fs : List (Str × V)}
theorem OwnO.avr (h : OwnO A H p C dx fs) : ∀ a, c1 p a → A a := fun _ z => z ▸ h.av
theorem OwnO.lv (h : OwnO A H p C dx fs) : ∀ a, c1 p a → H a ≠ none := fun _ z => z ▸ (by rw [h.at_]; exact fun z => by cases z)
theorem OwnO.kp (h : OwnO A H p C dx fs) (k : Kp C' H H') (_s : ∀ a, C' a → A a) (n : Dj (c1 p) C') : OwnO A H' p C dx fs := ⟨h.av, (k p _ h.at_).2 (.inl (n p rfl))⟩
theorem OwnO.ex (h : OwnO A H p C dx fs) (k : Ex H H') : OwnO A H' p C dx fs := ⟨h.av, k p _ h.at_⟩
theorem OwnO.ins (h : OwnO A H p C dx fs) {q : Addr} (_hq : H q = none) : OwnO (G.ins q A) H p C dx fs := ⟨.inr h.av, h.at_⟩
theorem OwnO.un (h : OwnO A H p C dx fs) {S : Av} (_f : ∀ a, S a → H a = none) : OwnO (G.un S A) H p C dx fs := ⟨.inr h.av, h.at_⟩
theorem OwnO.sub (h : OwnO A H p C dx fs) (_s : ∀ a, B a → A a) (b : ∀ a, c1 p a → B a) : OwnO B H p C dx fs := ⟨b p rfl, h.at_⟩
theorem OwnO.any (h : OwnO A H p C dx fs) (b : ∀ a, c1 p a → B a) : OwnO B H p C dx fs := ⟨b p rfl, h.at_⟩
/-- self.f = y -/
theorem g_setF {gs : List (Str × V)} {f : Str} {y : V} {N : Hp → Prop} (h : OwnO A H p C dx fs) (c : Cls K C) (n : NoAttr K C f) (l : fs.length < 1000) (e : putF f y fs = gs) (k : ∀ H', Kp (c1 p) H H' → OwnO A H' p C dx gs → N H') :
    ∃ a C dx fs, V.ref p = .ref a ∧ H a = some (.ins C dx fs) ∧ Cls K C ∧ NoAttr K C f ∧ fs.length < 1000 ∧ N (upd H a (.ins C dx (putF f y fs))) :=
  ⟨p, C, dx, fs, rfl, h.at_, c, n, l, e ▸ k _ (Kp.write h.at_ fun z => z) ⟨h.av, upd_same⟩⟩
theorem mk_ex {x dx : Addr} {o o' : HO} {H2 : Hp} (hx : H x = none) (hd : H dx = none) (k : Kp (c1 x) (upd (upd H dx o) x o') H2) : Ex H H2 := fun a u e => by
  have n1 : a ≠ x := ne_of_none e hx
  have n2 : a ≠ dx := ne_of_none e hd
  exact (k a u (by rw [upd_ne n1, upd_ne n2]; exact e)).2 (.inl n1)
theorem mk_ex0 {x dx : Addr} {o o' : HO} (hx : H x = none) (hd : H dx = none) : Ex H (upd (upd H dx o) x o') := mk_ex hx hd (Kp.refl _)
end
theorem lFldS {X : Cx} {K : PySem.W.Frag} {ta tv : TE} {f : Str} {st : Stmt} (h : PS X st (sFld K ta tv f)) : PS X st (fun D σ H => tv σ H fun y H1 => ta σ H1 fun x H2 => ∃ a C dx fs, x = .ref a ∧ H2 a = some (.ins C dx fs) ∧ Cls K C ∧ NoAttr K C f ∧ fs.length < 1000 ∧
  D.nx σ (upd H2 a (.ins C dx (putF f y fs)))) := h
/-! ### small lists of a fixed length, as trees -/
instance {α β : Type} [Rp α] [Rp β] [Lf α] [Lf β] : Tr (H2 α β) where
  tr := fun K H v c F => ∃ p v1 v2, v = .ref p ∧ H p = some (.lst [v1, v2]) ∧ F = [p] ∧ Tr.tr K H v1 c.a [] ∧ Tr.tr K H v2 c.b []
  le := fun i s ⟨p, v1, v2, h1, h2, h3, t1, t2⟩ => ⟨p, v1, v2, h1, (s p (h3 ▸ List.mem_cons_self ..)).trans h2, h3, Tr.le i (fun _ m => by cases m) t1, Tr.le i (fun _ m => by cases m) t2⟩
  live := fun ⟨p, v1, v2, h1, h2, h3, t1, t2⟩ a m => by
    rw [h3] at m
    rcases List.mem_cons.mp m with m | m
    · rw [m, h2]
      exact fun z => by cases z
    · cases m
  rp' := fun ⟨p, v1, v2, h1, h2, h3, t1, t2⟩ n => ⟨p, v1, v2, h1, ⟨h2, n p (h3 ▸ List.mem_cons_self ..)⟩, Lf.to t1, Lf.to t2⟩
theorem g_mkH2T {α β : Type} [Rp α] [Rp β] [Lf α] [Lf β] {K : PySem.W.Frag} {A : Av} {H : Hp} {v1 v2 : V} {x : H2 α β} {Q : VK} (h1 : Rp.rp K A H v1 x.a) (h2 : Rp.rp K A H v2 x.b) (k : ∀ p H', Ex H H' → NwT K H H' (.ref p) x → Q (.ref p) H') : rMkL [v1, v2] H Q :=
  ⟨by show 2 ≤ sizeLine; decide, fun p hp => k p _ (Ex.new hp) ⟨[p], ⟨p, v1, v2, rfl, upd_same, rfl, Lf.of (Rp.le (Ex.new hp).le h1), Lf.of (Rp.le (Ex.new hp).le h2)⟩, fun a m => by
    rcases List.mem_cons.mp m with m | m
    · exact m ▸ hp
    · cases m⟩⟩
theorem NwT.own2 {α β : Type} [Rp α] [Rp β] [Lf α] [Lf β] {K : PySem.W.Frag} {A : Av} {Hi H : Hp} {p : Addr} {x : H2 α β} (n : NwT K Hi H (.ref p) x) : Hi p = none ∧ Own K (un (c1 p) A) H p x := by
  obtain ⟨F, ⟨q, v1, v2, e, h2, rfl, t1, t2⟩, f⟩ := n.at_
  cases e
  exact ⟨f p (List.mem_cons_self ..), .inl rfl, _, h2, v1, v2, rfl, Lf.to t1, Lf.to t2⟩
theorem NwT.own1 {α : Type} [Rp α] [Lf α] {K : PySem.W.Frag} {A : Av} {Hi H : Hp} {p : Addr} {x : List α} (n : NwT K Hi H (.ref p) x) : Hi p = none ∧ Own K (un (c1 p) A) H p x := by
  obtain ⟨F, ⟨l, q, xs, G, e, h2, rfl, h3, fa⟩, f⟩ := n.at_
  cases e
  refine ⟨f p (List.mem_cons_self ..), .inl rfl, _, h2, l, xs, rfl, fa.all fun a m => ?_⟩
  rw [fa.leaf] at m
  cases m
theorem Le.dropR {A R : Av} {H : Hp} : Le A H (fun a => A a ∧ ¬ R a) H := Le.drop fun _ z => z.1


/-! ### plain words: a reckoning ends, and what holds of its end -/
def Ok {α : Type} (m : Option α) (P : α → Prop) : Prop := ∃ r, m = some r ∧ P r
namespace Ok
variable {α β σ ρ : Type}
theorem pure {r : α} {P : α → Prop} (h : P r) : Ok (some r) P := ⟨r, rfl, h⟩
theorem bind {m : Option α} {f : α → Option β} {P : α → Prop} {Q : β → Prop} (h : Ok m P) (k : ∀ a, P a → Ok (f a) Q) : Ok (m.bind f) Q := by
  obtain ⟨r, rfl, p⟩ := h
  exact k r p
theorem mono {m : Option α} {P Q : α → Prop} (h : Ok m P) (k : ∀ a, P a → Q a) : Ok m Q := by
  obtain ⟨r, e, p⟩ := h
  exact ⟨r, e, k r p⟩
theorem eq {m : Option α} {r : α} {Q : α → Prop} (h : m = some r) (q : Q r) : Ok m Q := ⟨r, h, q⟩
theorem foldO (f : σ → α → Option σ) (I : Nat → σ → Prop) : ∀ (ds : List α) (s : σ) (n : Nat), I n s → (∀ i d s, ds[i]? = some d → I (n + i) s → Ok (f s d) (I (n + i + 1))) → Ok (G.foldO f s ds) (I (n + ds.length))
  | [], s, n, h, _ => ⟨s, rfl, h⟩
  | d :: ds, s, n, h, k => by
    obtain ⟨s1, e, p⟩ := k 0 d s rfl h
    obtain ⟨r, e2, q⟩ := foldO f I ds s1 (n + 1) p fun i d s hd hi => by
      have := k (i + 1) d s (by simpa using hd) (by rwa [show n + (i + 1) = n + 1 + i by omega])
      rwa [show n + (i + 1) + 1 = n + 1 + i + 1 by omega] at this
    refine ⟨r, ?_, ?_⟩
    · show ((f s d).bind fun s' => G.foldO f s' ds) = some r
      rw [e]
      exact e2
    · rwa [show n + (d :: ds).length = n + 1 + ds.length by rw [List.length_cons]; omega]
theorem mapS (f : σ → α → Option (β × σ)) (I : σ → List β → Prop) : ∀ (ds : List α) (s : σ) (acc : List β), I s acc → (∀ i d s ac, ds[i]? = some d → ac.length = acc.length + i → I s ac → Ok (f s d) (fun r => I r.2 (ac ++ [r.1]))) → Ok (G.mapS f s ds) (fun r => I r.2 (acc ++ r.1) ∧ r.1.length = ds.length)
  | [], s, acc, h, _ => ⟨([], s), rfl, by rw [List.append_nil]; exact h, rfl⟩
  | d :: ds, s, acc, h, k => by
    obtain ⟨y, e, p⟩ := k 0 d s acc rfl rfl h
    obtain ⟨r, e2, q, l⟩ := mapS f I ds y.2 (acc ++ [y.1]) p fun i d s ac hd hl => k (i + 1) d s ac (by simpa using hd) (by rw [List.length_append, List.length_singleton] at hl; omega)
    refine ⟨(y.1 :: r.1, r.2), ?_, ?_, ?_⟩
    · show ((f s d).bind fun y => (G.mapS f y.2 ds).bind fun ys => some (y.1 :: ys.1, ys.2)) = _
      rw [e]
      show ((G.mapS f y.2 ds).bind fun ys => some (y.1 :: ys.1, ys.2)) = _
      rw [e2]
      rfl
    · show I r.2 (acc ++ (y.1 :: r.1))
      rwa [List.append_assoc] at q
    · rw [List.length_cons, List.length_cons, l]
theorem filtS (t : σ → α → Option (Bool × σ)) (f : σ → α → Option (β × σ)) (I : σ → Prop) (P : β → Prop) : ∀ (ds : List α) (s : σ), I s → (∀ d ∈ ds, ∀ s, I s → Ok (t s d) (fun b => I b.2 ∧ (b.1 = true → Ok (f b.2 d) (fun y => I y.2 ∧ P y.1)))) → Ok (G.filtS t f s ds) (fun r => I r.2 ∧ ∀ y ∈ r.1, P y)
  | [], s, h, _ => ⟨([], s), rfl, h, fun _ z => by cases z⟩
  | d :: ds, s, h, k => by
    obtain ⟨b, e, p, c⟩ := k d (List.mem_cons_self ..) s h
    by_cases hb : b.1 = true
    · obtain ⟨y, e1, p1, py⟩ := c hb
      obtain ⟨r, e2, q, l⟩ := filtS t f I P ds y.2 p1 fun d hd => k d (List.mem_cons_of_mem _ hd)
      refine ⟨(y.1 :: r.1, r.2), ?_, q, fun z hz => ?_⟩
      · show ((t s d).bind fun b => if b.1 = true then (f b.2 d).bind fun y => (G.filtS t f y.2 ds).bind fun ys => some (y.1 :: ys.1, ys.2) else G.filtS t f b.2 ds) = _
        rw [e]
        show (if b.1 = true then (f b.2 d).bind fun y => (G.filtS t f y.2 ds).bind fun ys => some (y.1 :: ys.1, ys.2) else G.filtS t f b.2 ds) = _
        rw [if_pos hb, e1]
        show ((G.filtS t f y.2 ds).bind fun ys => some (y.1 :: ys.1, ys.2)) = _
        rw [e2]
        rfl
      · rcases List.mem_cons.mp hz with hz | hz
        · rw [hz]
          exact py
        · exact l z hz
    · obtain ⟨r, e2, q, l⟩ := filtS t f I P ds b.2 p fun d hd => k d (List.mem_cons_of_mem _ hd)
      refine ⟨r, ?_, q, l⟩
      show ((t s d).bind fun b => if b.1 = true then (f b.2 d).bind fun y => (G.filtS t f y.2 ds).bind fun ys => some (y.1 :: ys.1, ys.2) else G.filtS t f b.2 ds) = _
      rw [e]
      show (if b.1 = true then (f b.2 d).bind fun y => (G.filtS t f y.2 ds).bind fun ys => some (y.1 :: ys.1, ys.2) else G.filtS t f b.2 ds) = _
      rw [if_neg hb]
      exact e2
theorem filtS' {t : σ → α → Option (Bool × σ)} {f : σ → α → Option (β × σ)} {ds : List α} {s : σ} {P : List β × σ → Prop} (h : Ok (G.filtS t f s ds) P) : Ok (G.filtS t f s ds) fun r => P r ∧ r.1.length ≤ ds.length := by
  obtain ⟨r, e, p⟩ := h
  exact ⟨r, e, p, filtS_length e⟩
/-- a for that goes through all its turns -/
theorem forO (f : σ → α → Option (Ctl σ ρ)) (I : Nat → σ → Prop) : ∀ (ds : List α) (s : σ) (n : Nat), I n s → (∀ i d s, ds[i]? = some d → I (n + i) s → ∃ s', f s d = some (.nx s') ∧ I (n + i + 1) s') → ∃ s', G.forO f s ds = some (.nx s') ∧ I (n + ds.length) s'
  | [], s, n, h, _ => ⟨s, rfl, h⟩
  | d :: ds, s, n, h, k => by
    obtain ⟨s1, e, p⟩ := k 0 d s rfl h
    obtain ⟨r, e2, q⟩ := forO f I ds s1 (n + 1) p fun i d s hd hi => by
      have := k (i + 1) d s (by simpa using hd) (by rwa [show n + (i + 1) = n + 1 + i by omega])
      rwa [show n + (i + 1) + 1 = n + 1 + i + 1 by omega] at this
    refine ⟨r, ?_, ?_⟩
    · show ((f s d).bind fun c => match c with | .nx s' => G.forO f s' ds | .bk s' => some (.nx s') | .rt r => some (.rt r)) = some (.nx r)
      rw [e]
      exact e2
    · rwa [show n + (d :: ds).length = n + 1 + ds.length by rw [List.length_cons]; omega]
end Ok
theorem mapO_eq {α β : Type} {f : α → Option β} (g : α → β) : ∀ {ds : List α}, (∀ d ∈ ds, f d = some (g d)) → mapO f ds = some (ds.map g)
  | [], _ => rfl
  | d :: ds, h => by
    show ((f d).bind fun y => (mapO f ds).bind fun ys => some (y :: ys)) = _
    rw [h d (List.mem_cons_self ..), mapO_eq g fun d hd => h d (List.mem_cons_of_mem _ hd)]
    rfl
theorem rng1_eq {j : Int} (h : 0 ≤ j ∧ j ≤ 1000000) : rng1 j = some (rng 0 j.toNat) := if_pos (by omega)
theorem rng_get0 {n i : Nat} {d : Int} (h : (rng 0 n)[i]? = some d) : i < n ∧ d = (i : Int) := by
  obtain ⟨h1, h2⟩ := rng_get h
  exact ⟨h1, by omega⟩
theorem rng_mem {n : Nat} {d : Int} (h : d ∈ rng 0 n) : 0 ≤ d ∧ d < n := by
  obtain ⟨i, hi⟩ := List.mem_iff_getElem?.mp h
  obtain ⟨h1, h2⟩ := rng_get0 hi
  omega
theorem atI_eq {α : Type} {xs : List α} {i : Int} (h : 0 ≤ i ∧ i < xs.length) : atI xs i = some (xs[i.toNat]'(by omega)) := by
  unfold atI ixN
  rw [if_pos h.1, if_pos h.2]
  show xs[i.toNat]? = _
  exact List.getElem?_eq_getElem (by omega)
theorem atI_ok {α : Type} {xs : List α} {i : Int} {P : α → Prop} (h : 0 ≤ i ∧ i < xs.length) (p : ∀ x ∈ xs, P x) : Ok (atI xs i) P := ⟨_, atI_eq h, p _ (List.getElem_mem _)⟩
theorem appO_eq {α : Type} {ds : List α} {d : α} (h : ds.length < big) : appO ds d = some (ds ++ [d]) := if_pos h
theorem eqD_eq {α : Type} [Rp α] [DecidableEq α] [Da α] {x y : α} (h : Da.ok x = true) (g : Da.ok y = true) : eqD x y = some (decide (x = y)) := if_pos ⟨h, g⟩
/-! texts of small letters -/
def sg (c : Nat) : Str := ⟨#[c]⟩
def lett (c : Nat) : Prop := 97 ≤ c ∧ c < 123
/-- a word: one to eight small letters -/
def Wd (w : Str) : Prop := 1 ≤ w.cps.toList.length ∧ w.cps.toList.length ≤ 8 ∧ ∀ c ∈ w.cps.toList, lett c
abbrev abc : Str := "abcdefghijklmnopqrstuvwxyz"
theorem lett_at {c : Nat} (h : lett c) : ∃ i : Fin 26, c = 97 + i.1 := ⟨⟨c - 97, by have := h.1; have := h.2; omega⟩, by have := h.1; show c = 97 + (c - 97); omega⟩
theorem abc_ix0 : ∀ i : Fin 26, ixS abc (i.1 : Int) = some (sg (97 + i.1)) := by decide +kernel
theorem abc_idx0 : ∀ i : Fin 26, idxS abc (sg (97 + i.1)) = some (i.1 : Int) := by decide +kernel
theorem abc_in0 : ∀ i : Fin 26, inS (sg (97 + i.1)) abc = true := by decide +kernel
theorem abc_ix {i : Int} (h : 0 ≤ i ∧ i < 26) : ixS abc i = some (sg (97 + i.toNat)) := by
  have e := abc_ix0 ⟨i.toNat, by omega⟩
  rwa [show ((i.toNat : Nat) : Int) = i by omega] at e
theorem abc_idx {c : Nat} (h : lett c) : idxS abc (sg c) = some ((c : Int) - 97) := by
  obtain ⟨i, rfl⟩ := lett_at h
  rw [abc_idx0 i]
  congr 1
  omega
theorem abc_in {c : Nat} (h : lett c) : inS (sg c) abc = true := by
  obtain ⟨i, rfl⟩ := lett_at h
  exact abc_in0 i
theorem str_ext {x y : Str} (h : x.cps.toList = y.cps.toList) : x = y := by
  obtain ⟨⟨a⟩⟩ := x
  obtain ⟨⟨b⟩⟩ := y
  have : a = b := h
  rw [this]
theorem len_eq (x : Str) : x.length = x.cps.toList.length := (Array.length_toList).symm
theorem sgn_eq (x : Str) : sgn x = x.cps.toList.map sg := rfl
theorem glue_fold : ∀ (cs : List Nat) (a : Array Nat), ((cs.map sg).foldl (fun acc p => acc ++ ("" : Str).cps ++ p.cps) a).toList = a.toList ++ cs
  | [], a => by simp
  | c :: cs, a => by
    rw [List.map_cons, List.foldl_cons, glue_fold cs]
    have e0 : ("" : Str).cps = #[] := rfl
    rw [e0]
    show (a ++ #[] ++ #[c]).toList ++ cs = a.toList ++ (c :: cs)
    simp
theorem join_sg {c : Nat} {cs : List Nat} : (Txt.join ("" : Str) ((c :: cs).map sg)).cps.toList = c :: cs := by
  show ((((c :: cs).map sg).drop 1).foldl (fun acc p => acc ++ ("" : Str).cps ++ p.cps) (((c :: cs).map sg).headD Str.empty).cps).toList = _
  rw [List.map_cons, List.drop_one, List.tail_cons, glue_fold]
  rfl
theorem strOk_of {x : Str} (h : ∀ c ∈ x.cps.toList, lett c) : PyData.strOk x = true := by
  unfold PyData.strOk
  rw [Array.all_eq_true']
  intro c hc
  have := (h c (Array.mem_def.mp hc)).2
  exact decide_eq_true (by omega)
theorem Wd.ok {w : Str} (h : Wd w) : Da.ok w = true := strOk_of h.2.2
theorem all_ok {ws : List Str} (h : ∀ w ∈ ws, Wd w) : Da.ok ws = true := List.all_eq_true.mpr fun w hw => (h w hw).ok
/-- w[1:] -/
theorem tail_eq {c : Nat} {cs : List Nat} {w : Str} (h : w.cps.toList = c :: cs) : (cutS w (some 1) none).cps.toList = cs := by
  unfold cutS HT.sIx
  have e : w.length = cs.length + 1 := by rw [len_eq, h, List.length_cons]
  simp only [e, h]
  rw [if_neg (by decide)]
  show List.take (cs.length + 1 - min (Int.toNat 1) (cs.length + 1)) (List.drop (min (Int.toNat 1) (cs.length + 1)) (c :: cs)) = cs
  have e1 : min (Int.toNat 1) (cs.length + 1) = 1 := by
    show min 1 (cs.length + 1) = 1
    omega
  rw [e1]
  show List.take (cs.length + 1 - 1) cs = cs
  exact List.take_of_length_le (by omega)

end G
namespace G
open PySem L2
def top (i : Nat) : Stmt := PySem.Challenge.pw_relayholds_k51_tables_told.main.body.getD i (.Pass ⟨0, 0, 0, 0⟩)
abbrev s_first_crowd : Stmt := (top 13)
abbrev s_first_misfit : Stmt := (top 14)
abbrev s_first_unsettled : Stmt := (top 15)
abbrev s_look : Stmt := (top 16)
abbrev s_is_word : Stmt := (top 6)
abbrev s_word_fault : Stmt := (top 7)
abbrev s_look_at_words : Stmt := (top 17)
abbrev s_Table_init : Stmt := (inClass (top 18) 0)
abbrev s_Table_key_words : Stmt := (inClass (top 18) 1)
abbrev s_Table_lamps : Stmt := (inClass (top 18) 3)
abbrev s_Table_states : Stmt := (inClass (top 18) 2)
abbrev s_Table_goes : Stmt := (inClass (top 18) 5)
abbrev s_Table_letters : Stmt := (inClass (top 18) 4)
abbrev s_Table_lights : Stmt := (inClass (top 18) 6)
abbrev s_law_is_whole : Stmt := (top 28)
abbrev s_law_agrees : Stmt := (top 29)
abbrev s_law_copy : Stmt := (top 27)
abbrev s_pressed_by : Stmt := (top 19)
abbrev s_law_letters_right : Stmt := (top 30)
abbrev s_law_pot : Stmt := (top 21)
abbrev s_law_spoil : Stmt := (top 31)
abbrev s_law_draw : Stmt := (top 22)
abbrev s_law_rows : Stmt := (top 25)
abbrev s_law_word : Stmt := (top 23)
abbrev s_law_words : Stmt := (top 24)
abbrev s_law_table : Stmt := (top 26)
abbrev s_law : Stmt := (top 32)
structure O_Table where
  all_keys : (List Str)
  all_states : (List Str)
  all_lamps : (List Str)
  goals : (List (List Int))
  shining : (List (Tup Int))
  deriving DecidableEq
instance : Rp O_Table := ⟨fun K A H v x => ∃ p C dx v0 v1 v2 v3 v4, v = .ref p ∧ isC K "Table" C ∧ (H p = some (.ins C dx [("all_keys", v0), ("all_states", v1), ("all_lamps", v2), ("goals", v3), ("shining", v4)]) ∧ ¬ A p) ∧ Rp.rp K A H v0 x.all_keys ∧ Rp.rp K A H v1 x.all_states ∧ Rp.rp K A H v2 x.all_lamps ∧ Rp.rp K A H v3 x.goals ∧ Rp.rp K A H v4 x.shining,
  fun e ⟨p, C, dx, v0, v1, v2, v3, v4, h, c, ⟨t, n⟩, h0, h1, h2, h3, h4⟩ => ⟨p, C, dx, v0, v1, v2, v3, v4, h, c, ⟨e.keep _ _ t (.inl n), e.av _ _ t n⟩, Rp.le e h0, Rp.le e h1, Rp.le e h2, Rp.le e h3, Rp.le e h4⟩⟩
structure Ad where
  f_first_crowd : Addr
  d_first_crowd : FuncData
  f_first_misfit : Addr
  d_first_misfit : FuncData
  f_first_unsettled : Addr
  d_first_unsettled : FuncData
  f_look : Addr
  d_look : FuncData
  f_is_word : Addr
  d_is_word : FuncData
  f_word_fault : Addr
  d_word_fault : FuncData
  f_look_at_words : Addr
  d_look_at_words : FuncData
  f_Table_init : Addr
  d_Table_init : FuncData
  f_Table_key_words : Addr
  d_Table_key_words : FuncData
  f_Table_lamps : Addr
  d_Table_lamps : FuncData
  f_Table_states : Addr
  d_Table_states : FuncData
  f_Table_goes : Addr
  d_Table_goes : FuncData
  f_Table_letters : Addr
  d_Table_letters : FuncData
  f_Table_lights : Addr
  d_Table_lights : FuncData
  f_law_is_whole : Addr
  d_law_is_whole : FuncData
  f_law_agrees : Addr
  d_law_agrees : FuncData
  f_law_copy : Addr
  d_law_copy : FuncData
  f_pressed_by : Addr
  d_pressed_by : FuncData
  f_law_letters_right : Addr
  d_law_letters_right : FuncData
  f_law_pot : Addr
  d_law_pot : FuncData
  f_law_spoil : Addr
  d_law_spoil : FuncData
  f_law_draw : Addr
  d_law_draw : FuncData
  f_law_rows : Addr
  d_law_rows : FuncData
  f_law_word : Addr
  d_law_word : FuncData
  f_law_words : Addr
  d_law_words : FuncData
  f_law_table : Addr
  d_law_table : FuncData
  f_law : Addr
  d_law : FuncData
  C_Table : Addr
structure Tx (K : PySem.W.Frag) (mg : Str → Option Value) (a : Ad) : Prop where
  F_first_crowd : Fun K "first_crowd" "first_crowd" s_first_crowd a.f_first_crowd a.d_first_crowd
  b_first_crowd : Binds K a.d_first_crowd ["keys", "states", "lamps"] []
  g_first_crowd : mg "first_crowd" = some (.ref a.f_first_crowd)
  F_first_misfit : Fun K "first_misfit" "first_misfit" s_first_misfit a.f_first_misfit a.d_first_misfit
  b_first_misfit : Binds K a.d_first_misfit ["many", "told", "long", "bound"] []
  g_first_misfit : mg "first_misfit" = some (.ref a.f_first_misfit)
  F_first_unsettled : Fun K "first_unsettled" "first_unsettled" s_first_unsettled a.f_first_unsettled a.d_first_unsettled
  b_first_unsettled : Binds K a.d_first_unsettled ["rows"] []
  g_first_unsettled : mg "first_unsettled" = some (.ref a.f_first_unsettled)
  F_look : Fun K "look" "look" s_look a.f_look a.d_look
  b_look : Binds K a.d_look ["word", "number"] []
  g_look : mg "look" = some (.ref a.f_look)
  F_is_word : Fun K "is_word" "is_word" s_is_word a.f_is_word a.d_is_word
  b_is_word : Binds K a.d_is_word ["text"] []
  g_is_word : mg "is_word" = some (.ref a.f_is_word)
  F_word_fault : Fun K "word_fault" "word_fault" s_word_fault a.f_word_fault a.d_word_fault
  b_word_fault : Binds K a.d_word_fault ["words"] []
  g_word_fault : mg "word_fault" = some (.ref a.f_word_fault)
  F_look_at_words : Fun K "look_at_words" "look_at_words" s_look_at_words a.f_look_at_words a.d_look_at_words
  b_look_at_words : Binds K a.d_look_at_words ["words"] []
  g_look_at_words : mg "look_at_words" = some (.ref a.f_look_at_words)
  F_Table_init : Fun K "__init__" "Table.__init__" s_Table_init a.f_Table_init a.d_Table_init
  b_Table_init : Binds K a.d_Table_init ["self", "keys", "states", "lamps", "rows", "lights"] []
  F_Table_key_words : Fun K "key_words" "Table.key_words" s_Table_key_words a.f_Table_key_words a.d_Table_key_words
  b_Table_key_words : Binds K a.d_Table_key_words ["self"] []
  mt_Table_key_words : Meth K a.C_Table "key_words" a.f_Table_key_words
  F_Table_lamps : Fun K "lamps" "Table.lamps" s_Table_lamps a.f_Table_lamps a.d_Table_lamps
  b_Table_lamps : Binds K a.d_Table_lamps ["self"] []
  mt_Table_lamps : Meth K a.C_Table "lamps" a.f_Table_lamps
  F_Table_states : Fun K "states" "Table.states" s_Table_states a.f_Table_states a.d_Table_states
  b_Table_states : Binds K a.d_Table_states ["self"] []
  mt_Table_states : Meth K a.C_Table "states" a.f_Table_states
  F_Table_goes : Fun K "goes" "Table.goes" s_Table_goes a.f_Table_goes a.d_Table_goes
  b_Table_goes : Binds K a.d_Table_goes ["self", "s", "x"] []
  mt_Table_goes : Meth K a.C_Table "goes" a.f_Table_goes
  F_Table_letters : Fun K "letters" "Table.letters" s_Table_letters a.f_Table_letters a.d_Table_letters
  b_Table_letters : Binds K a.d_Table_letters ["self"] []
  mt_Table_letters : Meth K a.C_Table "letters" a.f_Table_letters
  F_Table_lights : Fun K "lights" "Table.lights" s_Table_lights a.f_Table_lights a.d_Table_lights
  b_Table_lights : Binds K a.d_Table_lights ["self", "s"] []
  mt_Table_lights : Meth K a.C_Table "lights" a.f_Table_lights
  F_law_is_whole : Fun K "_law_is_whole" "_law_is_whole" s_law_is_whole a.f_law_is_whole a.d_law_is_whole
  b_law_is_whole : Binds K a.d_law_is_whole ["_law_thing"] []
  g_law_is_whole : mg "_law_is_whole" = some (.ref a.f_law_is_whole)
  F_law_agrees : Fun K "_law_agrees" "_law_agrees" s_law_agrees a.f_law_agrees a.d_law_agrees
  b_law_agrees : Binds K a.d_law_agrees ["_law_table_here", "_law_told"] []
  g_law_agrees : mg "_law_agrees" = some (.ref a.f_law_agrees)
  F_law_copy : Fun K "_law_copy" "_law_copy" s_law_copy a.f_law_copy a.d_law_copy
  b_law_copy : Binds K a.d_law_copy ["_law_told"] []
  g_law_copy : mg "_law_copy" = some (.ref a.f_law_copy)
  F_pressed_by : Fun K "pressed_by" "pressed_by" s_pressed_by a.f_pressed_by a.d_pressed_by
  b_pressed_by : Binds K a.d_pressed_by ["many", "x"] []
  g_pressed_by : mg "pressed_by" = some (.ref a.f_pressed_by)
  F_law_letters_right : Fun K "_law_letters_right" "_law_letters_right" s_law_letters_right a.f_law_letters_right a.d_law_letters_right
  b_law_letters_right : Binds K a.d_law_letters_right ["_law_many"] []
  g_law_letters_right : mg "_law_letters_right" = some (.ref a.f_law_letters_right)
  F_law_pot : Fun K "_law_pot" "_law_pot" s_law_pot a.f_law_pot a.d_law_pot
  b_law_pot : Binds K a.d_law_pot ["_law_script", "_law_k"] []
  g_law_pot : mg "_law_pot" = some (.ref a.f_law_pot)
  F_law_spoil : Fun K "_law_spoil" "_law_spoil" s_law_spoil a.f_law_spoil a.d_law_spoil
  b_law_spoil : Binds K a.d_law_spoil ["_law_handed"] []
  g_law_spoil : mg "_law_spoil" = some (.ref a.f_law_spoil)
  F_law_draw : Fun K "_law_draw" "_law_draw" s_law_draw a.f_law_draw a.d_law_draw
  b_law_draw : Binds K a.d_law_draw ["_law_pot_here", "_law_many"] []
  g_law_draw : mg "_law_draw" = some (.ref a.f_law_draw)
  F_law_rows : Fun K "_law_rows" "_law_rows" s_law_rows a.f_law_rows a.d_law_rows
  b_law_rows : Binds K a.d_law_rows ["_law_pot_here", "_law_many", "_law_letters"] []
  g_law_rows : mg "_law_rows" = some (.ref a.f_law_rows)
  F_law_word : Fun K "_law_word" "_law_word" s_law_word a.f_law_word a.d_law_word
  b_law_word : Binds K a.d_law_word ["_law_pot_here", "_law_taken"] []
  g_law_word : mg "_law_word" = some (.ref a.f_law_word)
  F_law_words : Fun K "_law_words" "_law_words" s_law_words a.f_law_words a.d_law_words
  b_law_words : Binds K a.d_law_words ["_law_pot_here", "_law_many", "_law_taken"] []
  g_law_words : mg "_law_words" = some (.ref a.f_law_words)
  F_law_table : Fun K "_law_table" "_law_table" s_law_table a.f_law_table a.d_law_table
  b_law_table : Binds K a.d_law_table ["_law_pot_here"] []
  g_law_table : mg "_law_table" = some (.ref a.f_law_table)
  F_law : Fun K "law" "law" s_law a.f_law a.d_law
  b_law : Binds K a.d_law ["_law_script"] []
  g_law : mg "law" = some (.ref a.f_law)
  cl_Table : Cls K a.C_Table
  g_Table : mg "Table" = some (.ref a.C_Table)
  n_Table : isC K "Table" a.C_Table
  mk_Table : Mk K a.C_Table a.f_Table_init
  na_Table_all_keys : NoAttr K a.C_Table "all_keys"
  na_Table_all_states : NoAttr K a.C_Table "all_states"
  na_Table_all_lamps : NoAttr K a.C_Table "all_lamps"
  na_Table_goals : NoAttr K a.C_Table "goals"
  na_Table_shining : NoAttr K a.C_Table "shining"
  z_abs : mg "abs" = none
  z_all : mg "all" = none
  z_any : mg "any" = none
  z_bool : mg "bool" = none
  z_divmod : mg "divmod" = none
  z_enumerate : mg "enumerate" = none
  z_int : mg "int" = none
  z_isinstance : mg "isinstance" = none
  z_len : mg "len" = none
  z_list : mg "list" = none
  z_max : mg "max" = none
  z_min : mg "min" = none
  z_range : mg "range" = none
  z_tuple : mg "tuple" = none
  c_FEWEST_STATES : ∃ t, mg "FEWEST_STATES" = some (.int 2 t)
  c_LETTERS : ∃ t, mg "LETTERS" = some (.str "abcdefghijklmnopqrstuvwxyz" t)
  c_MOST_KEYS : ∃ t, mg "MOST_KEYS" = some (.int 2 t)
  c_MOST_LAMPS : ∃ t, mg "MOST_LAMPS" = some (.int 2 t)
  c_MOST_LETTERS : ∃ t, mg "MOST_LETTERS" = some (.int 8 t)
  c_MOST_STATES : ∃ t, mg "MOST_STATES" = some (.int 4 t)
theorem g_Table_all_keys {K : PySem.W.Frag} {mg : Str → Option Value} {a : Ad} (T : Tx K mg a) {A : Av} {H : Hp} {v : V} {x : O_Table} {Q : VK} (h : Rp.rp K A H v x) (k : ∀ u, Rp.rp K A H u x.all_keys → Q u H) : rFld K "all_keys" v H Q := by
  obtain ⟨p, C, dx, v0, v1, v2, v3, v4, rfl, c, ⟨t, n⟩, h0, h1, h2, h3, h4⟩ := h
  obtain rfl := isC.eq c T.n_Table
  exact ⟨p, _, dx, _, v0, rfl, t, T.cl_Table, T.na_Table_all_keys, by rfl, k v0 h0⟩
theorem g_Table_all_states {K : PySem.W.Frag} {mg : Str → Option Value} {a : Ad} (T : Tx K mg a) {A : Av} {H : Hp} {v : V} {x : O_Table} {Q : VK} (h : Rp.rp K A H v x) (k : ∀ u, Rp.rp K A H u x.all_states → Q u H) : rFld K "all_states" v H Q := by
  obtain ⟨p, C, dx, v0, v1, v2, v3, v4, rfl, c, ⟨t, n⟩, h0, h1, h2, h3, h4⟩ := h
  obtain rfl := isC.eq c T.n_Table
  exact ⟨p, _, dx, _, v1, rfl, t, T.cl_Table, T.na_Table_all_states, by rfl, k v1 h1⟩
theorem g_Table_all_lamps {K : PySem.W.Frag} {mg : Str → Option Value} {a : Ad} (T : Tx K mg a) {A : Av} {H : Hp} {v : V} {x : O_Table} {Q : VK} (h : Rp.rp K A H v x) (k : ∀ u, Rp.rp K A H u x.all_lamps → Q u H) : rFld K "all_lamps" v H Q := by
  obtain ⟨p, C, dx, v0, v1, v2, v3, v4, rfl, c, ⟨t, n⟩, h0, h1, h2, h3, h4⟩ := h
  obtain rfl := isC.eq c T.n_Table
  exact ⟨p, _, dx, _, v2, rfl, t, T.cl_Table, T.na_Table_all_lamps, by rfl, k v2 h2⟩
theorem g_Table_goals {K : PySem.W.Frag} {mg : Str → Option Value} {a : Ad} (T : Tx K mg a) {A : Av} {H : Hp} {v : V} {x : O_Table} {Q : VK} (h : Rp.rp K A H v x) (k : ∀ u, Rp.rp K A H u x.goals → Q u H) : rFld K "goals" v H Q := by
  obtain ⟨p, C, dx, v0, v1, v2, v3, v4, rfl, c, ⟨t, n⟩, h0, h1, h2, h3, h4⟩ := h
  obtain rfl := isC.eq c T.n_Table
  exact ⟨p, _, dx, _, v3, rfl, t, T.cl_Table, T.na_Table_goals, by rfl, k v3 h3⟩
theorem g_Table_shining {K : PySem.W.Frag} {mg : Str → Option Value} {a : Ad} (T : Tx K mg a) {A : Av} {H : Hp} {v : V} {x : O_Table} {Q : VK} (h : Rp.rp K A H v x) (k : ∀ u, Rp.rp K A H u x.shining → Q u H) : rFld K "shining" v H Q := by
  obtain ⟨p, C, dx, v0, v1, v2, v3, v4, rfl, c, ⟨t, n⟩, h0, h1, h2, h3, h4⟩ := h
  obtain rfl := isC.eq c T.n_Table
  exact ⟨p, _, dx, _, v4, rfl, t, T.cl_Table, T.na_Table_shining, by rfl, k v4 h4⟩
theorem obj_Table_key_words {K : PySem.W.Frag} {mg : Str → Option Value} {a : Ad} (T : Tx K mg a) {A : Av} {H : Hp} {v : V} {x : O_Table} (h : Rp.rp K A H v x) : ∃ b dx fs, v = .ref b ∧ H b = some (.ins a.C_Table dx fs) ∧ fs.lookup ("key_words" : Str) = none := by
  obtain ⟨p, C, dx, v0, v1, v2, v3, v4, rfl, c, ⟨t, n⟩, h0, h1, h2, h3, h4⟩ := h
  obtain rfl := isC.eq c T.n_Table
  exact ⟨p, dx, _, rfl, t, by rfl⟩
theorem obj_Table_lamps {K : PySem.W.Frag} {mg : Str → Option Value} {a : Ad} (T : Tx K mg a) {A : Av} {H : Hp} {v : V} {x : O_Table} (h : Rp.rp K A H v x) : ∃ b dx fs, v = .ref b ∧ H b = some (.ins a.C_Table dx fs) ∧ fs.lookup ("lamps" : Str) = none := by
  obtain ⟨p, C, dx, v0, v1, v2, v3, v4, rfl, c, ⟨t, n⟩, h0, h1, h2, h3, h4⟩ := h
  obtain rfl := isC.eq c T.n_Table
  exact ⟨p, dx, _, rfl, t, by rfl⟩
theorem obj_Table_states {K : PySem.W.Frag} {mg : Str → Option Value} {a : Ad} (T : Tx K mg a) {A : Av} {H : Hp} {v : V} {x : O_Table} (h : Rp.rp K A H v x) : ∃ b dx fs, v = .ref b ∧ H b = some (.ins a.C_Table dx fs) ∧ fs.lookup ("states" : Str) = none := by
  obtain ⟨p, C, dx, v0, v1, v2, v3, v4, rfl, c, ⟨t, n⟩, h0, h1, h2, h3, h4⟩ := h
  obtain rfl := isC.eq c T.n_Table
  exact ⟨p, dx, _, rfl, t, by rfl⟩
theorem obj_Table_goes {K : PySem.W.Frag} {mg : Str → Option Value} {a : Ad} (T : Tx K mg a) {A : Av} {H : Hp} {v : V} {x : O_Table} (h : Rp.rp K A H v x) : ∃ b dx fs, v = .ref b ∧ H b = some (.ins a.C_Table dx fs) ∧ fs.lookup ("goes" : Str) = none := by
  obtain ⟨p, C, dx, v0, v1, v2, v3, v4, rfl, c, ⟨t, n⟩, h0, h1, h2, h3, h4⟩ := h
  obtain rfl := isC.eq c T.n_Table
  exact ⟨p, dx, _, rfl, t, by rfl⟩
theorem obj_Table_letters {K : PySem.W.Frag} {mg : Str → Option Value} {a : Ad} (T : Tx K mg a) {A : Av} {H : Hp} {v : V} {x : O_Table} (h : Rp.rp K A H v x) : ∃ b dx fs, v = .ref b ∧ H b = some (.ins a.C_Table dx fs) ∧ fs.lookup ("letters" : Str) = none := by
  obtain ⟨p, C, dx, v0, v1, v2, v3, v4, rfl, c, ⟨t, n⟩, h0, h1, h2, h3, h4⟩ := h
  obtain rfl := isC.eq c T.n_Table
  exact ⟨p, dx, _, rfl, t, by rfl⟩
theorem obj_Table_lights {K : PySem.W.Frag} {mg : Str → Option Value} {a : Ad} (T : Tx K mg a) {A : Av} {H : Hp} {v : V} {x : O_Table} (h : Rp.rp K A H v x) : ∃ b dx fs, v = .ref b ∧ H b = some (.ins a.C_Table dx fs) ∧ fs.lookup ("lights" : Str) = none := by
  obtain ⟨p, C, dx, v0, v1, v2, v3, v4, rfl, c, ⟨t, n⟩, h0, h1, h2, h3, h4⟩ := h
  obtain rfl := isC.eq c T.n_Table
  exact ⟨p, dx, _, rfl, t, by rfl⟩
section
variable {P : Program} {w : World} {K : PySem.W.Frag} {mg : Str → Option Value} {base : Heap} {a : Ad}
/-! first_crowd -/
def m_first_crowd (x_keys : (List Str)) (x_states : (List Str)) (x_lamps : (List Str)) : Option (Option Int) :=
  (if decide ((2 : Int) ≤ ((x_states).length : Int)) = true then some (decide (((x_states).length : Int) ≤ (4 : Int))) else some (false)).bind fun x1 => (if (decide (false ∈ [decide (((x_keys).length : Int) ≤ (2 : Int)), x1, decide (((x_lamps).length : Int) ≤ (2 : Int))])) = true then (idxO [decide (((x_keys).length : Int) ≤ (2 : Int)), x1, decide (((x_lamps).length : Int) ≤ (2 : Int))] false).bind fun x16 => some ((some (x16 : Int))) else some ((none : (Option Int)))).bind fun x11 => some (x11)
def sp_first_crowd (K : PySem.W.Frag) : Sp := fun vs H Q _ => ∃ (A : Av) (v_keys : V) (x_keys : (List Str)) (v_states : V) (x_states : (List Str)) (v_lamps : V) (x_lamps : (List Str)) (r : (Option Int)), vs = [v_keys, v_states, v_lamps] ∧ Dm A H ∧ Rp.rp K A H v_keys x_keys ∧ Rp.rp K A H v_states x_states ∧ Rp.rp K A H v_lamps x_lamps ∧ m_first_crowd x_keys x_states x_lamps = some r ∧ (∀ v H', Ex H H' → Rp.rp K A H' v r → Q v H')
abbrev N_first_crowd : List Str := ["keys", "states", "lamps", "fits"]
theorem sc_first_crowd : FnScope N_first_crowd ["keys", "states", "lamps"] (defScope s_first_crowd) := ⟨rfl, rfl, rfl, by decide +kernel, rfl, by decide +kernel, by decide +kernel⟩
theorem ok_first_crowd (T : Tx K mg a) : FnOk P w K mg base CX0 1 a.f_first_crowd a.d_first_crowd ["keys", "states", "lamps"] (sp_first_crowd K) := by
  refine T.F_first_crowd.ok sc_first_crowd (fun vs H Q E h => ?_) (fun cdv A' outer s H0 vs Q E hr h => ?_)
  · obtain ⟨_, _, _, _, _, _, _, _, rfl, _⟩ := h
    rfl
  · obtain ⟨A, v_keys, x_keys, v_states, x_states, v_lamps, x_lamps, r, rfl, dm, w_keys, w_states, w_lamps, hm0, kk⟩ := h
    refine ⟨_, (lSeq (pss_cons (lSet (ps_set (i := 3) sc_first_crowd.nd rfl (Or.inl rfl) (qe_lst (lCons (pa_cons (lOp (pe_cmpR op_le (lCB (pe_callB (kq_len (K := K) rfl) (by rfl) T.z_len (by decide +kernel) (lCons (pa_cons (qv (pv 0)) (lNil pa_nil))))) (qe_gi rfl T.c_MOST_KEYS) (nomark _))) (lCons (pa_cons (pe_cut (lChain (pe_chain op_le op_le (qe_gi rfl T.c_FEWEST_STATES) (lCB (pe_callB (kq_len (K := K) rfl) (by rfl) T.z_len (by decide +kernel) (lCons (pa_cons (qv (pv 1)) (lNil pa_nil))))) (qe_gi rfl T.c_MOST_STATES)))) (lCons (pa_cons (lOp (pe_cmpR op_le (lCB (pe_callB (kq_len (K := K) rfl) (by rfl) T.z_len (by decide +kernel) (lCons (pa_cons (qv (pv 2)) (lNil pa_nil))))) (qe_gi rfl T.c_MOST_LAMPS) (nomark _))) (lNil pa_nil)))))))))) (pss_one (lRet (ps_ret (pe_cut (lIfE (pe_ifExp (lOpT (pt_cmpR (kop_in_seq (K := K) rfl) qe_bl (qv (pv 3)) (by rfl))) (lBM (K := K) (pe_bm PySem.F.plainAttrs_list PySem.F.slot_list_index PySem.F.type_list_index (kmt_index (K := K) rfl) (qv (pv 3)) (lCons (pa_cons qe_bl (lNil pa_nil))))) qe_non)))))))), ?_⟩
    unfold m_first_crowd at hm0
    refine ⟨_, rfl, ?_⟩
    refine g_len (rp_lst' w_keys) ?_
    obtain ⟨x1, h_x1, hm0⟩ := ob hm0
    refine ⟨_, _, rfl, rfl, ?_⟩
    refine ⟨fun v H' => v = (V.bl x1) ∧ Ex H0 H', ?_, ?_⟩
    · refine ⟨_, rfl, ?_⟩
      refine g_len (rp_lst' w_states) ?_
      refine ⟨_, _, rfl, rfl, _, rfl, ?_⟩
      refine ite2 (fun c5 => ?_) (fun c5 => ?_)
      · replace h_x1 := ifT c5 h_x1
        refine ⟨_, _, rfl, rfl, ?_⟩
        obtain rfl := si h_x1
        exact ⟨rfl, (Ex.refl _)⟩
      · replace h_x1 := ifF c5 h_x1
        obtain rfl := si h_x1
        exact ⟨rfl, (Ex.refl _)⟩
    · rintro _ Hq2 ⟨rfl, e3⟩
      refine ⟨_, rfl, ?_⟩
      refine g_len (rp_lst' (Rp.le e3.le w_lamps)) ?_
      refine ⟨_, _, rfl, rfl, ?_⟩
      refine g_mkL (K := K) (L := (dom H0)) (ds := [decide (((x_keys).length : Int) ≤ (2 : Int)), x1, decide (((x_lamps).length : Int) ≤ (2 : Int))]) (show 3 ≤ big by decide) (Paired.cons rfl (Paired.cons rfl (Paired.cons rfl Paired.nil))) (fun p6 Hq7 hp8 ex9 n10 => ?_)
      obtain ⟨x11, h_x11, hm0⟩ := ob hm0
      refine ⟨fun v H' => Rp.rp K (dom H0) H' v x11 ∧ Ex Hq7 H', ?_, ?_⟩
      · refine ⟨_, rfl, ?_⟩
        refine g_in_bool (rp_lst' (n10.rp ((Dm.dom.ex e3).not hp8))).sq ?_
        refine ⟨_, rfl, ?_⟩
        refine ite2 (fun c15 => ?_) (fun c15 => ?_)
        · replace h_x11 := ifT c15 h_x11
          obtain ⟨x16, h_x16, h_x11⟩ := ob h_x11
          refine ⟨_, rfl, ((rp_lst' (n10.rp ((Dm.dom.ex e3).not hp8)))).ty, ?_⟩
          refine g_index_bool (rp_lst' (n10.rp ((Dm.dom.ex e3).not hp8))) h_x16 ?_
          obtain rfl := si h_x11
          exact ⟨(⟨fun z => V.noConfusion z, rfl⟩ : Rp.rp K (dom H0) Hq7 (V.int (x16 : Int)) (some (x16 : Int))), (Ex.refl _)⟩
        · replace h_x11 := ifF c15 h_x11
          obtain rfl := si h_x11
          exact ⟨rfl, (Ex.refl _)⟩
      · rintro u17 Hq12 ⟨q14, e13⟩
        obtain rfl := si hm0
        exact kk _ _ ((e3.trans ex9).trans e13) (Rp.le (Le.drop dm) q14)
/-! first_misfit#L -/
def m_first_misfit_L_1 (v_bound : Int) (d : Int) : Option (Bool) :=
  (if decide ((0 : Int) ≤ d) = true then some (decide (d < v_bound)) else some (false)).bind fun x17 => some x17
def m_first_misfit_L_2 (v_long : Int) (v_told : (List (List Int))) (v_bound : Int) (s : Unit) (d : Int) : Option (Ctl Unit (Option Int)) :=
  (if decide (d ≥ ((v_told).length : Int)) = true then some (true) else (atI v_told d).bind fun x7 => if (!decide (((x7).length : Int) = v_long)) = true then some (true) else (atI v_told d).bind fun x11 => (mapO (m_first_misfit_L_1 v_bound) x11).bind fun x22 => some ((!((x22).all id)))).bind fun x2 => if x2 = true then some (.rt ((some d))) else some (.nx ())
def m_first_misfit_L_3 (v_bound : Int) (d : Int) : Option (Bool) :=
  (if decide ((0 : Int) ≤ d) = true then some (decide (d < v_bound)) else some (false)).bind fun x83 => some x83
def m_first_misfit_L (x_many : Int) (x_told : (List (List Int))) (x_long : Int) (x_bound : Int) : Option (Option Int) :=
  (rng1 x_many).bind fun x1 => (forO (m_first_misfit_L_2 x_long x_told x_bound) () x1).bind fun x50 => x50.go (fun r => some r) (fun s120 => (if decide (((x_told).length : Int) > x_many) = true then some ((some x_many)) else some ((none : (Option Int)))).bind fun x121 => some (x121))
def sp_first_misfit_L (K : PySem.W.Frag) : Sp := fun vs H Q _ => ∃ (A : Av) (x_many : Int) (v_told : V) (x_told : (List (List Int))) (x_long : Int) (x_bound : Int) (r : (Option Int)), vs = [(V.int x_many), v_told, (V.int x_long), (V.int x_bound)] ∧ Dm A H ∧ Rp.rp K A H v_told x_told ∧ m_first_misfit_L x_many x_told x_long x_bound = some r ∧ (∀ v H', Ex H H' → Rp.rp K A H' v r → Q v H')
abbrev N_first_misfit_L : List Str := ["many", "told", "long", "bound", "s", "number"]
theorem sc_first_misfit_L : FnScope N_first_misfit_L ["many", "told", "long", "bound"] (defScope s_first_misfit) := ⟨rfl, rfl, rfl, by decide +kernel, rfl, by decide +kernel, by decide +kernel⟩
theorem ok_first_misfit_L (T : Tx K mg a) : FnOk P w K mg base CX0 1 a.f_first_misfit a.d_first_misfit ["many", "told", "long", "bound"] (sp_first_misfit_L K) := by
  refine T.F_first_misfit.ok sc_first_misfit_L (fun vs H Q E h => ?_) (fun cdv A' outer s H0 vs Q E hr h => ?_)
  · obtain ⟨_, _, _, _, _, _, _, rfl, _⟩ := h
    rfl
  · obtain ⟨A, x_many, v_told, x_told, x_long, x_bound, r, rfl, dm, w_told, hm0, kk⟩ := h
    refine ⟨_, (lSeq (pss_cons (qs_for PassesOwn.never rfl (lIRng1 (pi_range1 rfl T.z_range (lCons (pa_cons (qv (pv 0)) (lNil pa_nil))))) (lName (pg_name (i := 4) sc_first_misfit_L.nd rfl (Or.inl rfl))) (pss_one (lIf (ps_if (pt_cut (PW.pt (lOr (pw_or (lOpT (pt_cmpR op_ge (qv (pv 4)) (lCB (pe_callB (kq_len (K := K) rfl) (by rfl) T.z_len (by decide +kernel) (lCons (pa_cons (qv (pv 1)) (lNil pa_nil))))) (nomark _))) (lOr (pw_or (lCmpT (pt_cmp (pc_neI (lCB (pe_callB (kq_len (K := K) rfl) (by rfl) T.z_len (by decide +kernel) (lCons (pa_cons (lOp (pe_ix (kix_list (K := K) rfl) (qv (pv 1)) (qv (pv 4)) (fun _ _ => rfl))) (lNil pa_nil))))) (qv (pv 2))))) (pw_or1 (lNot (pt_not (lVal (pt_val (lCB (pe_callB (kcr_all (K := K) rfl rfl) (by rfl) T.z_all (by decide +kernel) (lCons (pa_cons (qe_lc (own := [("number", 5)]) (g := fun v σ H Q => Q (σ.set 5 (some v)) H) (tt := tYes) rfl sc_first_misfit_L.nd (lIList (K := K) (pi_list (lOp (pe_ix (kix_list (K := K) rfl) (qv (pv 1)) (qv (pv 4)) (fun _ _ => rfl))))) (blkOk_by (N := N_first_misfit_L) (sc := (defScope s_first_misfit)) (by decide +kernel)) (fun _ _ _ _ _ => (lName (pg_name (i := 5) sc_first_misfit_L.nd rfl (Or.inl rfl)))) (fun _ _ _ _ _ => pts_nil) (fun _ _ _ _ _ => (pe_cut (lChain (pe_chain op_le op_lt qe_int (qv (pv 5)) (qv (pv 3))))))) (lNil pa_nil)))))))))))))))) (pss_one (lRet (ps_ret (qv (pv 4))))) (lNext pss_nil))))) (pss_one (lRet (ps_ret (pe_cut (lIfE (pe_ifExp (lOpT (pt_cmpR op_gt (lCB (pe_callB (kq_len (K := K) rfl) (by rfl) T.z_len (by decide +kernel) (lCons (pa_cons (qv (pv 1)) (lNil pa_nil))))) (qv (pv 0)) (nomark _))) (qv (pv 0)) qe_non)))))))), ?_⟩
    unfold m_first_misfit_L at hm0
    obtain ⟨x1, h_x1, hm0⟩ := ob hm0
    obtain ⟨c_x1, rfl⟩ := rng1_of h_x1
    obtain ⟨x50, h_x50, hm0⟩ := ob hm0
    refine ⟨_, rfl, _, rfl, (rng_b c_x1.1).1, (rng_b c_x1.1).2, ?_⟩
    refine for_c (K := K) (A := (dom H0)) (TW.range 0 (x_many).toNat) (m_first_misfit_L_2 x_long x_told x_bound) () x50 h_x50 (fun (s' : Unit) σ' H' => ∃ t_s : Option V, σ' = [some (V.int x_many), some v_told, some (V.int x_long), some (V.int x_bound), t_s, none] ∧ Ex H0 H') ?_ (fun _ _ _ ⟨_, _, k⟩ => ⟨_, Ex.le k⟩) ?_ ?_
    · exact ⟨_, rfl, Ex.refl _⟩
    · rintro σ116 Hq117 s120 q127 ⟨t119, rfl, k118⟩
      rw [q127] at hm0
      obtain ⟨x121, h_x121, hm0⟩ := ob hm0
      refine ⟨fun v H' => Rp.rp K (dom H0) H' v x121 ∧ Ex Hq117 H', ?_, ?_⟩
      · refine ⟨_, rfl, ?_⟩
        refine g_len (rp_lst' (Rp.le k118.le w_told)) ?_
        refine ⟨_, rfl, _, _, rfl, rfl, _, rfl, ?_⟩
        refine ite2 (fun c125 => ?_) (fun c125 => ?_)
        · replace h_x121 := ifT c125 h_x121
          refine ⟨_, rfl, ?_⟩
          obtain rfl := si h_x121
          exact ⟨(⟨fun z => V.noConfusion z, rfl⟩ : Rp.rp K (dom H0) Hq117 (V.int x_many) (some x_many)), (Ex.refl _)⟩
        · replace h_x121 := ifF c125 h_x121
          obtain rfl := si h_x121
          exact ⟨rfl, (Ex.refl _)⟩
      · rintro u126 Hq122 ⟨q124, e123⟩
        obtain rfl := si hm0
        exact kk _ _ (k118.trans e123) (Rp.le (Le.drop dm) q124)
    · rintro s52 d53 c63 v54 σ55 Hq56 Hq57 ⟨t61, rfl, k60⟩ hf62 e58 q59 hr66 hb67
      have q65 := q59 _ k60.le
      obtain rfl := q65
      unfold m_first_misfit_L_2 at hf62
      obtain ⟨x68, h_x68, hf62⟩ := ob hf62
      refine ⟨fun b H' => b = x68 ∧ Ex Hq57 H', ?_, ?_⟩
      · refine ⟨_, rfl, _, rfl, ?_⟩
        refine g_len (rp_lst' (Rp.le (k60.le.trans e58.le) w_told)) ?_
        refine ⟨_, _, rfl, rfl, _, rfl, ?_⟩
        refine ite2 (fun c72 => ?_) (fun c72 => ?_)
        · replace h_x68 := ifT c72 h_x68
          obtain rfl := si h_x68
          exact ⟨rfl, (Ex.refl _)⟩
        · replace h_x68 := ifF c72 h_x68
          obtain ⟨x73, h_x73, h_x68⟩ := ob h_x68
          refine ⟨_, rfl, _, rfl, ?_⟩
          refine g_ix (rp_lst' (Rp.le (k60.le.trans e58.le) w_told)) h_x73 (fun u74 q75 => ?_)
          refine g_len (rp_lst' q75) ?_
          refine ⟨_, rfl, _, _, rfl, rfl, _, rfl, ?_⟩
          refine ite2 (fun c76 => ?_) (fun c76 => ?_)
          · replace h_x68 := ifT c76 h_x68
            obtain rfl := si h_x68
            exact ⟨rfl, (Ex.refl _)⟩
          · replace h_x68 := ifF c76 h_x68
            obtain ⟨x77, h_x77, h_x68⟩ := ob h_x68
            refine ⟨_, rfl, _, rfl, ?_⟩
            refine g_ix (rp_lst' (Rp.le (k60.le.trans e58.le) w_told)) h_x77 (fun u78 q79 => ?_)
            obtain ⟨a80, xs81, h82⟩ := rp_walk q79
            obtain ⟨x88, h_x88, h_x68⟩ := ob h_x68
            refine ⟨a80, h82.1, ⟨_, h82.2.1.sq⟩, ?_⟩
            refine lc_m (K := K) (A := (dom H0)) (B := A) (TW.list h82.2.1 h82.2.2.1) (m_first_misfit_L_3 x_bound) x88 h_x88 h82.2.2.2 ?_ ?_
            · intro D89 hD90 d91 y92 v93 Hq94 hy98 k99 hDn102 q100 M96 hM97
              obtain rfl := q100
              unfold m_first_misfit_L_3 at hy98
              refine ⟨rfl, ?_⟩
              obtain ⟨x104, h_x104, hy98⟩ := ob hy98
              refine ⟨fun v H' => v = (V.bl x104) ∧ Ex Hq94 H', ?_, ?_⟩
              · refine ⟨_, rfl, _, _, rfl, rfl, _, rfl, ?_⟩
                refine ite2 (fun c108 => ?_) (fun c108 => ?_)
                · replace h_x104 := ifT c108 h_x104
                  refine ⟨_, rfl, _, _, rfl, rfl, ?_⟩
                  obtain rfl := si h_x104
                  exact ⟨rfl, (Ex.refl _)⟩
                · replace h_x104 := ifF c108 h_x104
                  obtain rfl := si h_x104
                  exact ⟨rfl, (Ex.refl _)⟩
              · rintro _ Hq105 ⟨rfl, e106⟩
                obtain rfl := si hy98
                exact hM97 _ _ e106 rfl
            · rintro D109 Hq110 hD111 e112 n113
              refine g_all (rp_lst' (n113.rp (((Dm.dom.ex k60).ex e58).not hD111))) ?_
              refine ⟨_, rfl, ?_⟩
              obtain rfl := si h_x68
              exact ⟨rfl, e112⟩
      · rintro _ Hq69 ⟨rfl, e70⟩
        refine ite2 (fun c114 => ?_) (fun c114 => ?_)
        · replace hf62 := ifT c114 hf62
          refine ⟨_, rfl, ?_⟩
          have q115 := hr66 _ (si hf62).symm
          rw [q115] at hm0
          obtain rfl := si hm0
          exact kk _ _ ((k60.trans e58).trans e70) (Rp.le (Le.drop dm) (⟨fun z => V.noConfusion z, rfl⟩ : Rp.rp K (dom H0) Hq69 (V.int d53) (some d53)))
        · replace hf62 := ifF c114 hf62
          exact ⟨_, (si hf62).symm, ⟨_, rfl, ((k60.trans e58).trans e70)⟩⟩
/-! first_misfit#V -/
def m_first_misfit_V_1 (v_bound : Int) (d : Int) : Option (Bool) :=
  (if decide ((0 : Int) ≤ d) = true then some (decide (d < v_bound)) else some (false)).bind fun x17 => some x17
def m_first_misfit_V_2 (v_long : Int) (v_told : (List (Tup Int))) (v_bound : Int) (s : Unit) (d : Int) : Option (Ctl Unit (Option Int)) :=
  (if decide (d ≥ ((v_told).length : Int)) = true then some (true) else (atI v_told d).bind fun x7 => if (!decide (((x7).l.length : Int) = v_long)) = true then some (true) else (atI v_told d).bind fun x11 => (mapO (m_first_misfit_V_1 v_bound) x11.l).bind fun x22 => some ((!((x22).all id)))).bind fun x2 => if x2 = true then some (.rt ((some d))) else some (.nx ())
def m_first_misfit_V_3 (v_bound : Int) (d : Int) : Option (Bool) :=
  (if decide ((0 : Int) ≤ d) = true then some (decide (d < v_bound)) else some (false)).bind fun x83 => some x83
def m_first_misfit_V (x_many : Int) (x_told : (List (Tup Int))) (x_long : Int) (x_bound : Int) : Option (Option Int) :=
  (rng1 x_many).bind fun x1 => (forO (m_first_misfit_V_2 x_long x_told x_bound) () x1).bind fun x50 => x50.go (fun r => some r) (fun s120 => (if decide (((x_told).length : Int) > x_many) = true then some ((some x_many)) else some ((none : (Option Int)))).bind fun x121 => some (x121))
def sp_first_misfit_V (K : PySem.W.Frag) : Sp := fun vs H Q _ => ∃ (A : Av) (x_many : Int) (v_told : V) (x_told : (List (Tup Int))) (x_long : Int) (x_bound : Int) (r : (Option Int)), vs = [(V.int x_many), v_told, (V.int x_long), (V.int x_bound)] ∧ Dm A H ∧ Rp.rp K A H v_told x_told ∧ m_first_misfit_V x_many x_told x_long x_bound = some r ∧ (∀ v H', Ex H H' → Rp.rp K A H' v r → Q v H')
abbrev N_first_misfit_V : List Str := ["many", "told", "long", "bound", "s", "number"]
theorem sc_first_misfit_V : FnScope N_first_misfit_V ["many", "told", "long", "bound"] (defScope s_first_misfit) := ⟨rfl, rfl, rfl, by decide +kernel, rfl, by decide +kernel, by decide +kernel⟩
theorem ok_first_misfit_V (T : Tx K mg a) : FnOk P w K mg base CX0 1 a.f_first_misfit a.d_first_misfit ["many", "told", "long", "bound"] (sp_first_misfit_V K) := by
  refine T.F_first_misfit.ok sc_first_misfit_V (fun vs H Q E h => ?_) (fun cdv A' outer s H0 vs Q E hr h => ?_)
  · obtain ⟨_, _, _, _, _, _, _, rfl, _⟩ := h
    rfl
  · obtain ⟨A, x_many, v_told, x_told, x_long, x_bound, r, rfl, dm, w_told, hm0, kk⟩ := h
    refine ⟨_, (lSeq (pss_cons (qs_for PassesOwn.never rfl (lIRng1 (pi_range1 rfl T.z_range (lCons (pa_cons (qv (pv 0)) (lNil pa_nil))))) (lName (pg_name (i := 4) sc_first_misfit_V.nd rfl (Or.inl rfl))) (pss_one (lIf (ps_if (pt_cut (PW.pt (lOr (pw_or (lOpT (pt_cmpR op_ge (qv (pv 4)) (lCB (pe_callB (kq_len (K := K) rfl) (by rfl) T.z_len (by decide +kernel) (lCons (pa_cons (qv (pv 1)) (lNil pa_nil))))) (nomark _))) (lOr (pw_or (lCmpT (pt_cmp (pc_neI (lCB (pe_callB (kq_len (K := K) rfl) (by rfl) T.z_len (by decide +kernel) (lCons (pa_cons (lOp (pe_ix (kix_list (K := K) rfl) (qv (pv 1)) (qv (pv 4)) (fun _ _ => rfl))) (lNil pa_nil))))) (qv (pv 2))))) (pw_or1 (lNot (pt_not (lVal (pt_val (lCB (pe_callB (kcr_all (K := K) rfl rfl) (by rfl) T.z_all (by decide +kernel) (lCons (pa_cons (qe_lc (own := [("number", 5)]) (g := fun v σ H Q => Q (σ.set 5 (some v)) H) (tt := tYes) rfl sc_first_misfit_V.nd (lITup (K := K) (pi_tup (lOp (pe_ix (kix_list (K := K) rfl) (qv (pv 1)) (qv (pv 4)) (fun _ _ => rfl))))) (blkOk_by (N := N_first_misfit_V) (sc := (defScope s_first_misfit)) (by decide +kernel)) (fun _ _ _ _ _ => (lName (pg_name (i := 5) sc_first_misfit_V.nd rfl (Or.inl rfl)))) (fun _ _ _ _ _ => pts_nil) (fun _ _ _ _ _ => (pe_cut (lChain (pe_chain op_le op_lt qe_int (qv (pv 5)) (qv (pv 3))))))) (lNil pa_nil)))))))))))))))) (pss_one (lRet (ps_ret (qv (pv 4))))) (lNext pss_nil))))) (pss_one (lRet (ps_ret (pe_cut (lIfE (pe_ifExp (lOpT (pt_cmpR op_gt (lCB (pe_callB (kq_len (K := K) rfl) (by rfl) T.z_len (by decide +kernel) (lCons (pa_cons (qv (pv 1)) (lNil pa_nil))))) (qv (pv 0)) (nomark _))) (qv (pv 0)) qe_non)))))))), ?_⟩
    unfold m_first_misfit_V at hm0
    obtain ⟨x1, h_x1, hm0⟩ := ob hm0
    obtain ⟨c_x1, rfl⟩ := rng1_of h_x1
    obtain ⟨x50, h_x50, hm0⟩ := ob hm0
    refine ⟨_, rfl, _, rfl, (rng_b c_x1.1).1, (rng_b c_x1.1).2, ?_⟩
    refine for_c (K := K) (A := (dom H0)) (TW.range 0 (x_many).toNat) (m_first_misfit_V_2 x_long x_told x_bound) () x50 h_x50 (fun (s' : Unit) σ' H' => ∃ t_s : Option V, σ' = [some (V.int x_many), some v_told, some (V.int x_long), some (V.int x_bound), t_s, none] ∧ Ex H0 H') ?_ (fun _ _ _ ⟨_, _, k⟩ => ⟨_, Ex.le k⟩) ?_ ?_
    · exact ⟨_, rfl, Ex.refl _⟩
    · rintro σ116 Hq117 s120 q127 ⟨t119, rfl, k118⟩
      rw [q127] at hm0
      obtain ⟨x121, h_x121, hm0⟩ := ob hm0
      refine ⟨fun v H' => Rp.rp K (dom H0) H' v x121 ∧ Ex Hq117 H', ?_, ?_⟩
      · refine ⟨_, rfl, ?_⟩
        refine g_len (rp_lst' (Rp.le k118.le w_told)) ?_
        refine ⟨_, rfl, _, _, rfl, rfl, _, rfl, ?_⟩
        refine ite2 (fun c125 => ?_) (fun c125 => ?_)
        · replace h_x121 := ifT c125 h_x121
          refine ⟨_, rfl, ?_⟩
          obtain rfl := si h_x121
          exact ⟨(⟨fun z => V.noConfusion z, rfl⟩ : Rp.rp K (dom H0) Hq117 (V.int x_many) (some x_many)), (Ex.refl _)⟩
        · replace h_x121 := ifF c125 h_x121
          obtain rfl := si h_x121
          exact ⟨rfl, (Ex.refl _)⟩
      · rintro u126 Hq122 ⟨q124, e123⟩
        obtain rfl := si hm0
        exact kk _ _ (k118.trans e123) (Rp.le (Le.drop dm) q124)
    · rintro s52 d53 c63 v54 σ55 Hq56 Hq57 ⟨t61, rfl, k60⟩ hf62 e58 q59 hr66 hb67
      have q65 := q59 _ k60.le
      obtain rfl := q65
      unfold m_first_misfit_V_2 at hf62
      obtain ⟨x68, h_x68, hf62⟩ := ob hf62
      refine ⟨fun b H' => b = x68 ∧ Ex Hq57 H', ?_, ?_⟩
      · refine ⟨_, rfl, _, rfl, ?_⟩
        refine g_len (rp_lst' (Rp.le (k60.le.trans e58.le) w_told)) ?_
        refine ⟨_, _, rfl, rfl, _, rfl, ?_⟩
        refine ite2 (fun c72 => ?_) (fun c72 => ?_)
        · replace h_x68 := ifT c72 h_x68
          obtain rfl := si h_x68
          exact ⟨rfl, (Ex.refl _)⟩
        · replace h_x68 := ifF c72 h_x68
          obtain ⟨x73, h_x73, h_x68⟩ := ob h_x68
          refine ⟨_, rfl, _, rfl, ?_⟩
          refine g_ix (rp_lst' (Rp.le (k60.le.trans e58.le) w_told)) h_x73 (fun u74 q75 => ?_)
          refine g_lenV (Im.any (B := (dom H0)) q75) ?_
          refine ⟨_, rfl, _, _, rfl, rfl, _, rfl, ?_⟩
          refine ite2 (fun c76 => ?_) (fun c76 => ?_)
          · replace h_x68 := ifT c76 h_x68
            obtain rfl := si h_x68
            exact ⟨rfl, (Ex.refl _)⟩
          · replace h_x68 := ifF c76 h_x68
            obtain ⟨x77, h_x77, h_x68⟩ := ob h_x68
            refine ⟨_, rfl, _, rfl, ?_⟩
            refine g_ix (rp_lst' (Rp.le (k60.le.trans e58.le) w_told)) h_x77 (fun u78 q79 => ?_)
            obtain ⟨a80, xs81, h82⟩ := rp_walkV (Im.any (B := (dom H0)) q79)
            obtain ⟨x88, h_x88, h_x68⟩ := ob h_x68
            refine ⟨a80, h82.1, ⟨_, h82.2.1⟩, ?_⟩
            refine lc_m (K := K) (A := (dom H0)) (B := (dom H0)) (TW.tup h82.2.1 h82.2.2.1) (m_first_misfit_V_3 x_bound) x88 h_x88 h82.2.2.2 ?_ ?_
            · intro D89 hD90 d91 y92 v93 Hq94 hy98 k99 hDn102 q100 M96 hM97
              obtain rfl := q100
              unfold m_first_misfit_V_3 at hy98
              refine ⟨rfl, ?_⟩
              obtain ⟨x104, h_x104, hy98⟩ := ob hy98
              refine ⟨fun v H' => v = (V.bl x104) ∧ Ex Hq94 H', ?_, ?_⟩
              · refine ⟨_, rfl, _, _, rfl, rfl, _, rfl, ?_⟩
                refine ite2 (fun c108 => ?_) (fun c108 => ?_)
                · replace h_x104 := ifT c108 h_x104
                  refine ⟨_, rfl, _, _, rfl, rfl, ?_⟩
                  obtain rfl := si h_x104
                  exact ⟨rfl, (Ex.refl _)⟩
                · replace h_x104 := ifF c108 h_x104
                  obtain rfl := si h_x104
                  exact ⟨rfl, (Ex.refl _)⟩
              · rintro _ Hq105 ⟨rfl, e106⟩
                obtain rfl := si hy98
                exact hM97 _ _ e106 rfl
            · rintro D109 Hq110 hD111 e112 n113
              refine g_all (rp_lst' (n113.rp (((Dm.dom.ex k60).ex e58).not hD111))) ?_
              refine ⟨_, rfl, ?_⟩
              obtain rfl := si h_x68
              exact ⟨rfl, e112⟩
      · rintro _ Hq69 ⟨rfl, e70⟩
        refine ite2 (fun c114 => ?_) (fun c114 => ?_)
        · replace hf62 := ifT c114 hf62
          refine ⟨_, rfl, ?_⟩
          have q115 := hr66 _ (si hf62).symm
          rw [q115] at hm0
          obtain rfl := si hm0
          exact kk _ _ ((k60.trans e58).trans e70) (Rp.le (Le.drop dm) (⟨fun z => V.noConfusion z, rfl⟩ : Rp.rp K (dom H0) Hq69 (V.int d53) (some d53)))
        · replace hf62 := ifF c114 hf62
          exact ⟨_, (si hf62).symm, ⟨_, rfl, ((k60.trans e58).trans e70)⟩⟩
/-! first_unsettled -/
def m_first_unsettled_1 (v_rows : (List (List Int))) (d : (T2 Int Int)) : Option (Bool) :=
  (atI v_rows d.b).bind fun x15 => (atI x15 d.a).bind fun x18 => some (!decide (x18 = d.b))
def m_first_unsettled_2 (v_rows : (List (List Int))) (s : Unit) (d : (T2 Int (List Int))) : Option (Ctl Unit (Option Int)) :=
  (mapO (m_first_unsettled_1 v_rows) (enumL d.b)).bind fun x21 => if ((x21).any id) = true then some (.rt ((some d.a))) else some (.nx ())
def m_first_unsettled_3 (v_rows : (List (List Int))) (d : (T2 Int Int)) : Option (Bool) :=
  (atI v_rows d.b).bind fun x84 => (atI x84 d.a).bind fun x87 => some (!decide (x87 = d.b))
def m_first_unsettled (x_rows : (List (List Int))) : Option (Option Int) :=
  (forO (m_first_unsettled_2 x_rows) () (enumL x_rows)).bind fun x54 => x54.go (fun r => some r) (fun s128 => some ((none : (Option Int))))
def sp_first_unsettled (K : PySem.W.Frag) : Sp := fun vs H Q _ => ∃ (A : Av) (v_rows : V) (x_rows : (List (List Int))) (r : (Option Int)), vs = [v_rows] ∧ Dm A H ∧ Rp.rp K A H v_rows x_rows ∧ m_first_unsettled x_rows = some r ∧ (∀ v H', Ex H H' → Rp.rp K A H' v r → Q v H')
abbrev N_first_unsettled : List Str := ["rows", "s", "row", "x", "goal"]
theorem sc_first_unsettled : FnScope N_first_unsettled ["rows"] (defScope s_first_unsettled) := ⟨rfl, rfl, rfl, by decide +kernel, rfl, by decide +kernel, by decide +kernel⟩
theorem ok_first_unsettled (T : Tx K mg a) : FnOk P w K mg base CX0 1 a.f_first_unsettled a.d_first_unsettled ["rows"] (sp_first_unsettled K) := by
  refine T.F_first_unsettled.ok sc_first_unsettled (fun vs H Q E h => ?_) (fun cdv A' outer s H0 vs Q E hr h => ?_)
  · obtain ⟨_, _, _, _, rfl, _⟩ := h
    rfl
  · obtain ⟨A, v_rows, x_rows, r, rfl, dm, w_rows, hm0, kk⟩ := h
    refine ⟨_, (lSeq (pss_cons (qs_for PassesOwn.never rfl (lIEnum (K := K) (pi_enum (by rfl) T.z_enumerate (lCons (pa_cons (qv (pv 0)) (lNil pa_nil))))) (lTupG (K := K) (pg_tup (n := 2) rfl (lGCons (pgs_cons (lName (pg_name (i := 1) sc_first_unsettled.nd rfl (Or.inl rfl))) (lGCons (pgs_cons (lName (pg_name (i := 2) sc_first_unsettled.nd rfl (Or.inl rfl))) (lGNil pgs_nil))))))) (pss_one (lIf (ps_if (lVal (pt_val (lCB (pe_callB (kcr_any (K := K) rfl rfl) (by rfl) T.z_any (by decide +kernel) (lCons (pa_cons (qe_lc (own := [("x", 3), ("goal", 4)]) (tt := tYes) rfl sc_first_unsettled.nd (lIEnum (K := K) (pi_enum (by rfl) T.z_enumerate (lCons (pa_cons (qv (pv 2)) (lNil pa_nil))))) (blkOk_by (N := N_first_unsettled) (sc := (defScope s_first_unsettled)) (by decide +kernel)) (fun _ _ _ _ _ => (lTupG (K := K) (pg_tup (n := 2) rfl (lGCons (pgs_cons (lName (pg_name (i := 3) sc_first_unsettled.nd rfl (Or.inl rfl))) (lGCons (pgs_cons (lName (pg_name (i := 4) sc_first_unsettled.nd rfl (Or.inl rfl))) (lGNil pgs_nil)))))))) (fun _ _ _ _ _ => pts_nil) (fun _ _ _ _ _ => (lCmp (pe_cmp (pc_neI (lOp (pe_ix (kix_list (K := K) rfl) (lOp (pe_ix (kix_list (K := K) rfl) (qv (pv 0)) (qv (pv 4)) (fun _ _ => rfl))) (qv (pv 3)) (fun _ _ => rfl))) (qv (pv 4))))))) (lNil pa_nil))))))) (pss_one (lRet (ps_ret (qv (pv 1))))) (lNext pss_nil))))) (pss_one (lRet (ps_ret qe_non))))), ?_⟩
    unfold m_first_unsettled at hm0
    obtain ⟨a1, xs2, h3⟩ := rp_walk w_rows
    obtain ⟨x54, h_x54, hm0⟩ := ob hm0
    refine ⟨_, rfl, a1, xs2, (by rw [h3.1]), h3.2.1.sq, ?_⟩
    refine for_c (K := K) (A := A) (TW.enum h3.2.1 h3.2.2.1) (m_first_unsettled_2 x_rows) () x54 h_x54 (fun (s' : Unit) σ' H' => ∃ t_s : Option V, ∃ t_row : Option V, σ' = [some v_rows, t_s, t_row, none, none] ∧ Ex H0 H') ?_ (fun _ _ _ ⟨_, _, _, k⟩ => ⟨_, Ex.le k⟩) ?_ ?_
    · exact ⟨_, _, rfl, Ex.refl _⟩
    · rintro σ123 Hq124 s128 q129 ⟨t126, t127, rfl, k125⟩
      rw [q129] at hm0
      obtain rfl := si hm0
      exact kk _ _ k125 (Rp.le (Le.drop dm) rfl)
    · rintro s56 d57 c68 v58 σ59 Hq60 Hq61 ⟨t65, t66, rfl, k64⟩ hf67 e62 q63 hr71 hb72
      have q70 := q63 _ k64.le
      unfold m_first_unsettled_2 at hf67
      refine g_unT2 q70 (fun u73 q75 u74 q76 => ?_)
      obtain rfl := q75
      obtain ⟨a77, xs78, h79⟩ := rp_walk q76
      obtain ⟨x90, h_x90, hf67⟩ := ob hf67
      refine ⟨_, _, rfl, _, _, rfl, rfl, _, rfl, a77, xs78, (by rw [h79.1]), h79.2.1.sq, ?_⟩
      refine lc_m (K := K) (A := (dom H0)) (B := A) (TW.enum h79.2.1 h79.2.2.1) (m_first_unsettled_3 x_rows) x90 h_x90 (enumL_len h79.2.2.2) ?_ ?_
      · intro D91 hD92 d93 y94 v95 Hq96 hy100 k101 hDn104 q102 M98 hM99
        unfold m_first_unsettled_3 at hy100
        refine g_unT2 (Im.any (B := (ins D91 (dom H0))) q102) (fun u106 q108 u107 q109 => ?_)
        obtain rfl := q108
        obtain rfl := q109
        refine ⟨_, _, rfl, _, _, rfl, rfl, ?_⟩
        refine ⟨rfl, ?_⟩
        obtain ⟨x110, h_x110, hy100⟩ := ob hy100
        refine ⟨_, rfl, _, rfl, ?_⟩
        refine g_ix (rp_lst' (Rp.le ((k64.le.trans e62.le).trans ((Le.grow hD92).trans k101.le)) w_rows)) h_x110 (fun u111 q112 => ?_)
        obtain ⟨x113, h_x113, hy100⟩ := ob hy100
        refine ⟨_, rfl, ?_⟩
        refine g_ix (rp_lst' q112) h_x113 (fun u114 q115 => ?_)
        obtain rfl := q115
        refine ⟨_, rfl, _, _, rfl, rfl, ?_⟩
        obtain rfl := si hy100
        exact hM99 _ _ (Ex.refl _) rfl
      · rintro D116 Hq117 hD118 e119 n120
        refine g_any (rp_lst' (n120.rp (((Dm.dom.ex k64).ex e62).not hD118))) ?_
        refine ⟨_, rfl, ?_⟩
        refine ite2 (fun c121 => ?_) (fun c121 => ?_)
        · replace hf67 := ifT c121 hf67
          refine ⟨_, rfl, ?_⟩
          have q122 := hr71 _ (si hf67).symm
          rw [q122] at hm0
          obtain rfl := si hm0
          exact kk _ _ ((k64.trans e62).trans e119) (Rp.le (Le.drop dm) (⟨fun z => V.noConfusion z, rfl⟩ : Rp.rp K (dom H0) Hq117 (V.int d57.a) (some d57.a)))
        · replace hf67 := ifF c121 hf67
          exact ⟨_, (si hf67).symm, ⟨_, _, rfl, ((k64.trans e62).trans e119)⟩⟩
/-! look -/
def m_look (x_word : Str) (x_number : (Option Int)) : Option Unit :=
  (match x_number with | none => some () | some y1 => none)
def sp_look (K : PySem.W.Frag) : Sp := fun vs H Q _ => ∃ (A : Av) (x_word : Str) (v_number : V) (x_number : (Option Int)) (r : Unit), vs = [(V.str x_word), v_number] ∧ Dm A H ∧ Rp.rp K A H v_number x_number ∧ m_look x_word x_number = some r ∧ (∀ H', Ex H H' → Q V.non H')
abbrev N_look : List Str := ["word", "number"]
theorem sc_look : FnScope N_look ["word", "number"] (defScope s_look) := ⟨rfl, rfl, rfl, by decide +kernel, rfl, by decide +kernel, by decide +kernel⟩
theorem ok_look (T : Tx K mg a) : FnOk P w K mg base CX0 1 a.f_look a.d_look ["word", "number"] (sp_look K) := by
  refine T.F_look.ok sc_look (fun vs H Q E h => ?_) (fun cdv A' outer s H0 vs Q E hr h => ?_)
  · obtain ⟨_, _, _, _, _, rfl, _⟩ := h
    rfl
  · obtain ⟨A, x_word, v_number, x_number, r, rfl, dm, w_number, hm0, kk⟩ := h
    refine ⟨_, (pss_one (lIf (ps_if (lOpT (pt_cmpR op_notN (qv (pv 1)) qe_non (nomark _))) (pss_one ps_never) (lNext pss_nil)))), ?_⟩
    unfold m_look at hm0
    refine ⟨_, rfl, rfl, ?_⟩
    rw [rp_notN (Im.any (B := (dom H0)) w_number)]
    refine ⟨_, rfl, ?_⟩
    have q2 := (Im.any (B := (dom H0)) w_number)
    cases x_number with
    | none =>
      refine iteF ?_
      obtain rfl := si hm0
      exact kk _ (Ex.refl _)
    | some y1 =>
      obtain ⟨_, rfl⟩ := q2
      refine iteT ?_
      cases hm0
/-! is_word -/
def m_is_word_1 (d : Str) : Option (Bool) :=
  (sgnO d).bind fun x13 => some (inS d ("abcdefghijklmnopqrstuvwxyz" : Str))
def m_is_word (x_text : Str) : Option Bool :=
  (((lenS x_text).bind fun x9 => if decide ((1 : Int) ≤ (x_text.length : Int)) = true then some (decide ((x_text.length : Int) ≤ (8 : Int))) else some (false)).bind fun x5 => if x5 = true then (lenS x_text).bind fun x12 => (mapO (m_is_word_1) (sgn x_text)).bind fun x15 => some (((x15).all id)) else some (false)).bind fun x1 => some (x1)
def sp_is_word (K : PySem.W.Frag) : Sp := fun vs H Q _ => ∃ (A : Av) (x_text : Str) (r : Bool), vs = [(V.str x_text)] ∧ Dm A H ∧ m_is_word x_text = some r ∧ (∀ H', Ex H H' → Q (V.bl r) H')
abbrev N_is_word : List Str := ["text", "sign"]
theorem sc_is_word : FnScope N_is_word ["text"] (defScope s_is_word) := ⟨rfl, rfl, rfl, by decide +kernel, rfl, by decide +kernel, by decide +kernel⟩
theorem ok_is_word (T : Tx K mg a) : FnOk P w K mg base CX0 1 a.f_is_word a.d_is_word ["text"] (sp_is_word K) := by
  refine T.F_is_word.ok sc_is_word (fun vs H Q E h => ?_) (fun cdv A' outer s H0 vs Q E hr h => ?_)
  · obtain ⟨_, _, _, rfl, _⟩ := h
    rfl
  · obtain ⟨A, x_text, r, rfl, dm, hm0, kk⟩ := h
    refine ⟨_, (pss_one (lRet (ps_ret (pe_cut (lAndV (pe_and (pe_cut (lChain (pe_chain op_le op_le qe_int (lCB (pe_callB call_len_str (by rfl) T.z_len (by decide +kernel) (lCons (pa_cons (qv (pv 0)) (lNil pa_nil))))) (qe_gi rfl T.c_MOST_LETTERS)))) (pe_one (lCB (pe_callB (kcr_all (K := K) rfl rfl) (by rfl) T.z_all (by decide +kernel) (lCons (pa_cons (qe_lc (own := [("sign", 1)]) (g := fun v σ H Q => Q (σ.set 1 (some v)) H) (tt := tYes) rfl sc_is_word.nd (lIStr (pi_str (qv (pv 0)))) (blkOk_by (N := N_is_word) (sc := (defScope s_is_word)) (by decide +kernel)) (fun _ _ _ _ _ => (lName (pg_name (i := 1) sc_is_word.nd rfl (Or.inl rfl)))) (fun _ _ _ _ _ => pts_nil) (fun _ _ _ _ _ => (lOp (pe_cmpR q_inS (qv (pv 1)) (qe_gs rfl T.c_LETTERS) (by rfl))))) (lNil pa_nil)))))))))))), ?_⟩
    unfold m_is_word at hm0
    obtain ⟨x1, h_x1, hm0⟩ := ob hm0
    refine ⟨fun v H' => v = (V.bl x1) ∧ Ex H0 H', ?_, ?_⟩
    · obtain ⟨x5, h_x5, h_x1⟩ := ob h_x1
      refine ⟨fun v H' => v = (V.bl x5) ∧ Ex H0 H', ?_, ?_⟩
      · obtain ⟨x9, h_x9, h_x5⟩ := ob h_x5
        have c_x9 := lenS_of h_x9
        refine ⟨_, rfl, _, rfl, c_x9, _, _, rfl, rfl, _, rfl, ?_⟩
        refine ite2 (fun c10 => ?_) (fun c10 => ?_)
        · replace h_x5 := ifT c10 h_x5
          refine ⟨_, _, rfl, rfl, ?_⟩
          obtain rfl := si h_x5
          exact ⟨rfl, (Ex.refl _)⟩
        · replace h_x5 := ifF c10 h_x5
          obtain rfl := si h_x5
          exact ⟨rfl, (Ex.refl _)⟩
      · rintro _ Hq6 ⟨rfl, e7⟩
        refine ⟨_, rfl, ?_⟩
        refine ite2 (fun c11 => ?_) (fun c11 => ?_)
        · replace h_x1 := ifT c11 h_x1
          obtain ⟨x12, h_x12, h_x1⟩ := ob h_x1
          obtain ⟨c_x12, rfl⟩ := sgn_of h_x12
          obtain ⟨x15, h_x15, h_x1⟩ := ob h_x1
          refine ⟨_, rfl, _, rfl, ?_⟩
          refine lc_m (K := K) (A := (dom H0)) (B := (dom H0)) (TW.str x_text) (m_is_word_1) x15 h_x15 c_x12 ?_ ?_
          · intro D16 hD17 d18 y19 v20 Hq21 hy25 k26 hDn29 q27 M23 hM24
            obtain rfl := q27
            unfold m_is_word_1 at hy25
            refine ⟨rfl, ?_⟩
            obtain ⟨x31, h_x31, hy25⟩ := ob hy25
            refine ⟨_, rfl, ?_⟩
            refine g_inS h_x31 ?_
            obtain rfl := si hy25
            exact hM24 _ _ (Ex.refl _) rfl
          · rintro D33 Hq34 hD35 e36 n37
            refine g_all (rp_lst' (n37.rp ((Dm.dom.ex e7).not hD35))) ?_
            obtain rfl := si h_x1
            exact ⟨rfl, (e7.trans e36)⟩
        · replace h_x1 := ifF c11 h_x1
          obtain rfl := si h_x1
          exact ⟨rfl, e7⟩
    · rintro _ Hq2 ⟨rfl, e3⟩
      obtain rfl := si hm0
      exact kk _ e3
/-! word_fault -/
def m_word_fault_1 (v_words : (List Str)) (s : Unit) (d : (T2 Int Str)) : Option (Ctl Unit (Option (T2 Str Int))) :=
  ((m_is_word d.b).bind fun r12 => if (!r12) = true then some (true) else some ((decide (d.b ∈ (cutL v_words none (some d.a)))))).bind fun x8 => if x8 = true then some (.rt ((some (⟨("words" : Str), d.a⟩ : (T2 Str Int))))) else some (.nx ())
def m_word_fault (x_words : (List Str)) : Option (Option (T2 Str Int)) :=
  (forO (m_word_fault_1 x_words) () (enumL x_words)).bind fun x27 => x27.go (fun r => some r) (fun s74 => some ((none : (Option (T2 Str Int)))))
def sp_word_fault (K : PySem.W.Frag) : Sp := fun vs H Q _ => ∃ (A : Av) (v_words : V) (x_words : (List Str)) (r : (Option (T2 Str Int))), vs = [v_words] ∧ Dm A H ∧ Rp.rp K A H v_words x_words ∧ m_word_fault x_words = some r ∧ (∀ v H', Ex H H' → Rp.rp K A H' v r → Q v H')
abbrev N_word_fault : List Str := ["words", "k", "word"]
theorem sc_word_fault : FnScope N_word_fault ["words"] (defScope s_word_fault) := ⟨rfl, rfl, rfl, by decide +kernel, rfl, by decide +kernel, by decide +kernel⟩
theorem ok_word_fault (T : Tx K mg a) : FnOk P w K mg base CX0 2 a.f_word_fault a.d_word_fault ["words"] (sp_word_fault K) := by
  have G_is_word := ok_is_word (P := P) (w := w) (base := base) T
  refine T.F_word_fault.ok sc_word_fault (fun vs H Q E h => ?_) (fun cdv A' outer s H0 vs Q E hr h => ?_)
  · obtain ⟨_, _, _, _, rfl, _⟩ := h
    rfl
  · obtain ⟨A, v_words, x_words, r, rfl, dm, w_words, hm0, kk⟩ := h
    refine ⟨_, (lSeq (pss_cons (qs_for PassesOwn.never rfl (lIEnum (K := K) (pi_enum (by rfl) T.z_enumerate (lCons (pa_cons (qv (pv 0)) (lNil pa_nil))))) (lTupG (K := K) (pg_tup (n := 2) rfl (lGCons (pgs_cons (lName (pg_name (i := 1) sc_word_fault.nd rfl (Or.inl rfl))) (lGCons (pgs_cons (lName (pg_name (i := 2) sc_word_fault.nd rfl (Or.inl rfl))) (lGNil pgs_nil))))))) (pss_one (lIf (ps_if (pt_cut (PW.pt (lOr (pw_or (lNot (pt_not (lVal (pt_val (lCall (pe_call G_is_word (hr.mono (by decide)) rfl T.g_is_word T.F_is_word.kp T.b_is_word .nil pass0 (lCons (pa_cons (qv (pv 2)) (lNil pa_nil))))))))) (pw_or1 (lOpT (pt_cmpR (kop_in_seq (K := K) rfl) (qv (pv 2)) (lSl (pe_slice (ksl_list (K := K) rfl) (qv (pv 0)) (lNoPart po_none) (lPart (po_some (qv (pv 1)))))) (by rfl)))))))) (pss_one (lRet (ps_ret (qe_tup (lCons (pa_cons qe_str (lCons (pa_cons (qv (pv 1)) (lNil pa_nil))))))))) (lNext pss_nil))))) (pss_one (lRet (ps_ret qe_non))))), ?_⟩
    unfold m_word_fault at hm0
    obtain ⟨a1, xs2, h3⟩ := rp_walk w_words
    obtain ⟨x27, h_x27, hm0⟩ := ob hm0
    refine ⟨_, rfl, a1, xs2, (by rw [h3.1]), h3.2.1.sq, ?_⟩
    refine for_c (K := K) (A := A) (TW.enum h3.2.1 h3.2.2.1) (m_word_fault_1 x_words) () x27 h_x27 (fun (s' : Unit) σ' H' => ∃ t_k : Option V, ∃ t_word : Option V, σ' = [some v_words, t_k, t_word] ∧ Ex H0 H') ?_ (fun _ _ _ ⟨_, _, _, k⟩ => ⟨_, Ex.le k⟩) ?_ ?_
    · exact ⟨_, _, rfl, Ex.refl _⟩
    · rintro σ69 Hq70 s74 q75 ⟨t72, t73, rfl, k71⟩
      rw [q75] at hm0
      obtain rfl := si hm0
      exact kk _ _ k71 (Rp.le (Le.drop dm) rfl)
    · rintro s29 d30 c41 v31 σ32 Hq33 Hq34 ⟨t38, t39, rfl, k37⟩ hf40 e35 q36 hr44 hb45
      have q43 := q36 _ k37.le
      unfold m_word_fault_1 at hf40
      refine g_unT2 (Im.any (B := (dom H0)) q43) (fun u46 q48 u47 q49 => ?_)
      obtain rfl := q48
      obtain rfl := q49
      obtain ⟨x50, h_x50, hf40⟩ := ob hf40
      refine ⟨_, _, rfl, _, _, rfl, rfl, ?_⟩
      refine ⟨fun b H' => b = x50 ∧ Ex Hq34 H', ?_, ?_⟩
      · obtain ⟨r54, h_r54, h_x50⟩ := ob h_x50
        refine ⟨_, rfl, (dom H0), d30.b, r54, rfl, ((Dm.dom.ex k37).ex e35), h_r54, fun Hq55 k56 => ?_⟩
        refine ⟨_, rfl, ?_⟩
        refine ite2 (fun c57 => ?_) (fun c57 => ?_)
        · replace h_x50 := ifT c57 h_x50
          obtain rfl := si h_x50
          exact ⟨rfl, k56⟩
        · replace h_x50 := ifF c57 h_x50
          refine ⟨_, rfl, _, rfl, _, rfl, _, rfl, ?_⟩
          refine g_slL (L := (dom H0)) (Lst.any (rp_lst' (Rp.le ((k37.le.trans e35.le).trans k56.le) w_words))) (fun p58 Hq59 hp60 ex61 n62 => ?_)
          refine g_in_str (rp_lst' (n62.rp ((((Dm.dom.ex k37).ex e35).ex k56).not hp60))).sq ?_
          refine ⟨_, rfl, ?_⟩
          obtain rfl := si h_x50
          exact ⟨rfl, (k56.trans ex61)⟩
      · rintro _ Hq51 ⟨rfl, e52⟩
        refine ite2 (fun c63 => ?_) (fun c63 => ?_)
        · replace hf40 := ifT c63 hf40
          refine ⟨_, rfl, ?_⟩
          refine g_mkT2 (K := K) (L := (dom H0)) (x := (⟨("words" : Str), d30.a⟩ : (T2 Str Int))) rfl rfl (fun u64 Hq65 ex66 q67 => ?_)
          have q68 := hr44 _ (si hf40).symm
          rw [q68] at hm0
          obtain rfl := si hm0
          exact kk _ _ (((k37.trans e35).trans e52).trans ex66) (Rp.le (Le.drop dm) (rp_some q67))
        · replace hf40 := ifF c63 hf40
          exact ⟨_, (si hf40).symm, ⟨_, _, rfl, ((k37.trans e35).trans e52)⟩⟩
/-! look_at_words -/
def m_look_at_words (x_words : (List Str)) : Option Unit :=
  (m_word_fault x_words).bind fun r1 => (match r1 with | none => some () | some y6 => none)
def sp_look_at_words (K : PySem.W.Frag) : Sp := fun vs H Q _ => ∃ (A : Av) (v_words : V) (x_words : (List Str)) (r : Unit), vs = [v_words] ∧ Dm A H ∧ Rp.rp K A H v_words x_words ∧ m_look_at_words x_words = some r ∧ (∀ H', Ex H H' → Q V.non H')
abbrev N_look_at_words : List Str := ["words", "fault"]
theorem sc_look_at_words : FnScope N_look_at_words ["words"] (defScope s_look_at_words) := ⟨rfl, rfl, rfl, by decide +kernel, rfl, by decide +kernel, by decide +kernel⟩
theorem ok_look_at_words (T : Tx K mg a) : FnOk P w K mg base CX0 3 a.f_look_at_words a.d_look_at_words ["words"] (sp_look_at_words K) := by
  have G_word_fault := ok_word_fault (P := P) (w := w) (base := base) T
  refine T.F_look_at_words.ok sc_look_at_words (fun vs H Q E h => ?_) (fun cdv A' outer s H0 vs Q E hr h => ?_)
  · obtain ⟨_, _, _, _, rfl, _⟩ := h
    rfl
  · obtain ⟨A, v_words, x_words, r, rfl, dm, w_words, hm0, kk⟩ := h
    refine ⟨_, (lSeq (pss_cons (lSet (ps_set (i := 1) sc_look_at_words.nd rfl (Or.inl rfl) (lCall (pe_call G_word_fault (hr.mono (by decide)) rfl T.g_word_fault T.F_word_fault.kp T.b_word_fault .nil pass0 (lCons (pa_cons (qv (pv 0)) (lNil pa_nil))))))) (pss_one (lIf (ps_if (lOpT (pt_cmpR op_notN (qv (pv 1)) qe_non (nomark _))) (pss_one ps_never) (lNext pss_nil)))))), ?_⟩
    unfold m_look_at_words at hm0
    obtain ⟨r1, h_r1, hm0⟩ := ob hm0
    refine ⟨_, rfl, A, v_words, x_words, r1, rfl, dm, w_words, h_r1, fun u4 Hq2 k3 q5 => ?_⟩
    refine ⟨_, rfl, rfl, ?_⟩
    rw [rp_notN (Im.any (B := (dom H0)) q5)]
    refine ⟨_, rfl, ?_⟩
    have q7 := (Im.any (B := (dom H0)) q5)
    cases r1 with
    | none =>
      refine iteF ?_
      obtain rfl := si hm0
      exact kk _ k3
    | some y6 =>
      refine iteT ?_
      cases hm0
/-! Table.__init__ -/
def m_Table_init_1 (d : (List Int)) : Option ((List Int)) :=
  some d
def m_Table_init (x_keys : (List Str)) (x_states : (List Str)) (x_lamps : (List Str)) (x_rows : (List (List Int))) (x_lights : (List (Tup Int))) : Option O_Table :=
  (catO x_keys x_states).bind fun x1 => (catO x1 x_lamps).bind fun x7 => (m_look_at_words x7).bind fun r13 => (m_first_crowd x_keys x_states x_lamps).bind fun r16 => (m_look ("many" : Str) r16).bind fun r21 => (shlO (1 : Int) ((x_keys).length : Int)).bind fun x24 => (m_first_misfit_L ((x_states).length : Int) x_rows x24 ((x_states).length : Int)).bind fun r25 => (m_look ("row" : Str) r25).bind fun r30 => (m_first_misfit_V ((x_states).length : Int) x_lights ((x_lamps).length : Int) (2 : Int)).bind fun r33 => (m_look ("lights" : Str) r33).bind fun r38 => (m_first_unsettled x_rows).bind fun r41 => (m_look ("unsettled" : Str) r41).bind fun r46 => (mapO (m_Table_init_1) x_rows).bind fun x81 => some ((⟨x_keys, x_states, x_lamps, x81, x_lights⟩ : O_Table))
def sp_Table_init (K : PySem.W.Frag) : Sp := fun vs H Q _ => ∃ (A : Av) (p_self C_self d_self : Addr) (v_keys : V) (x_keys : (List Str)) (v_states : V) (x_states : (List Str)) (v_lamps : V) (x_lamps : (List Str)) (v_rows : V) (x_rows : (List (List Int))) (v_lights : V) (x_lights : (List (Tup Int))) (r : O_Table), vs = [V.ref p_self, v_keys, v_states, v_lamps, v_rows, v_lights] ∧ Dm A H ∧ isC K "Table" C_self ∧ OwnO A H p_self C_self d_self [] ∧ Rp.rp K A H v_keys x_keys ∧ Rp.rp K A H v_states x_states ∧ Rp.rp K A H v_lamps x_lamps ∧ Rp.rp K A H v_rows x_rows ∧ Rp.rp K A H v_lights x_lights ∧ m_Table_init x_keys x_states x_lamps x_rows x_lights = some r ∧ (∀ H', Kp (c1 p_self) H H' → (∀ B, Dm B H → ¬ B p_self → Rp.rp K B H' (V.ref p_self) r) → Q V.non H')
abbrev N_Table_init : List Str := ["self", "keys", "states", "lamps", "rows", "lights", "row"]
theorem sc_Table_init : FnScope N_Table_init ["self", "keys", "states", "lamps", "rows", "lights"] (defScope s_Table_init) := ⟨rfl, rfl, rfl, by decide +kernel, rfl, by decide +kernel, by decide +kernel⟩
theorem ok_Table_init (T : Tx K mg a) : FnOk P w K mg base CX0 4 a.f_Table_init a.d_Table_init ["self", "keys", "states", "lamps", "rows", "lights"] (sp_Table_init K) := by
  have G_first_crowd := ok_first_crowd (P := P) (w := w) (base := base) T
  have G_first_misfit_L := ok_first_misfit_L (P := P) (w := w) (base := base) T
  have G_first_misfit_V := ok_first_misfit_V (P := P) (w := w) (base := base) T
  have G_first_unsettled := ok_first_unsettled (P := P) (w := w) (base := base) T
  have G_look := ok_look (P := P) (w := w) (base := base) T
  have G_look_at_words := ok_look_at_words (P := P) (w := w) (base := base) T
  refine T.F_Table_init.ok sc_Table_init (fun vs H Q E h => ?_) (fun cdv A' outer s H0 vs Q E hr h => ?_)
  · obtain ⟨_, _, _, _, _, _, _, _, _, _, _, _, _, _, _, rfl, _⟩ := h
    rfl
  · obtain ⟨A, p_self, C_self, d_self, v_keys, x_keys, v_states, x_states, v_lamps, x_lamps, v_rows, x_rows, v_lights, x_lights, r, rfl, dm, c_self, o_self, w_keys, w_states, w_lamps, w_rows, w_lights, hm0, kk⟩ := h
    refine ⟨_, (lSeq (pss_cons (lDrop (ps_expr (lCall (pe_call G_look_at_words (hr.mono (by decide)) rfl T.g_look_at_words T.F_look_at_words.kp T.b_look_at_words .nil pass0 (lCons (pa_cons (lOp (pe_op op_cat (lOp (pe_op op_cat (qv (pv 1)) (qv (pv 2)))) (qv (pv 3)))) (lNil pa_nil))))))) (lSeq (pss_cons (lDrop (ps_expr (lCall (pe_call G_look (hr.mono (by decide)) rfl T.g_look T.F_look.kp T.b_look .nil pass0 (lCons (pa_cons qe_str (lCons (pa_cons (lCall (pe_call G_first_crowd (hr.mono (by decide)) rfl T.g_first_crowd T.F_first_crowd.kp T.b_first_crowd .nil pass0 (lCons (pa_cons (qv (pv 1)) (lCons (pa_cons (qv (pv 2)) (lCons (pa_cons (qv (pv 3)) (lNil pa_nil))))))))) (lNil pa_nil))))))))) (lSeq (pss_cons (lDrop (ps_expr (lCall (pe_call G_look (hr.mono (by decide)) rfl T.g_look T.F_look.kp T.b_look .nil pass0 (lCons (pa_cons qe_str (lCons (pa_cons (lCall (pe_call G_first_misfit_L (hr.mono (by decide)) rfl T.g_first_misfit T.F_first_misfit.kp T.b_first_misfit .nil pass0 (lCons (pa_cons (lCB (pe_callB (kq_len (K := K) rfl) (by rfl) T.z_len (by decide +kernel) (lCons (pa_cons (qv (pv 2)) (lNil pa_nil))))) (lCons (pa_cons (qv (pv 4)) (lCons (pa_cons (lOp (pe_op op_shl qe_int (lCB (pe_callB (kq_len (K := K) rfl) (by rfl) T.z_len (by decide +kernel) (lCons (pa_cons (qv (pv 1)) (lNil pa_nil))))))) (lCons (pa_cons (lCB (pe_callB (kq_len (K := K) rfl) (by rfl) T.z_len (by decide +kernel) (lCons (pa_cons (qv (pv 2)) (lNil pa_nil))))) (lNil pa_nil))))))))))) (lNil pa_nil))))))))) (lSeq (pss_cons (lDrop (ps_expr (lCall (pe_call G_look (hr.mono (by decide)) rfl T.g_look T.F_look.kp T.b_look .nil pass0 (lCons (pa_cons qe_str (lCons (pa_cons (lCall (pe_call G_first_misfit_V (hr.mono (by decide)) rfl T.g_first_misfit T.F_first_misfit.kp T.b_first_misfit .nil pass0 (lCons (pa_cons (lCB (pe_callB (kq_len (K := K) rfl) (by rfl) T.z_len (by decide +kernel) (lCons (pa_cons (qv (pv 2)) (lNil pa_nil))))) (lCons (pa_cons (qv (pv 5)) (lCons (pa_cons (lCB (pe_callB (kq_len (K := K) rfl) (by rfl) T.z_len (by decide +kernel) (lCons (pa_cons (qv (pv 3)) (lNil pa_nil))))) (lCons (pa_cons qe_int (lNil pa_nil))))))))))) (lNil pa_nil))))))))) (lSeq (pss_cons (lDrop (ps_expr (lCall (pe_call G_look (hr.mono (by decide)) rfl T.g_look T.F_look.kp T.b_look .nil pass0 (lCons (pa_cons qe_str (lCons (pa_cons (lCall (pe_call G_first_unsettled (hr.mono (by decide)) rfl T.g_first_unsettled T.F_first_unsettled.kp T.b_first_unsettled .nil pass0 (lCons (pa_cons (qv (pv 4)) (lNil pa_nil))))) (lNil pa_nil))))))))) (lSeq (pss_cons (lFldS (K := K) (ps_fld (qv (pv 0)) (lCB (pe_callTy (kq_list (K := K) rfl) (by rfl) T.z_list (by decide +kernel) (lCons (pa_cons (qv (pv 1)) (lNil pa_nil))))) rfl)) (lSeq (pss_cons (lFldS (K := K) (ps_fld (qv (pv 0)) (lCB (pe_callTy (kq_list (K := K) rfl) (by rfl) T.z_list (by decide +kernel) (lCons (pa_cons (qv (pv 2)) (lNil pa_nil))))) rfl)) (lSeq (pss_cons (lFldS (K := K) (ps_fld (qv (pv 0)) (lCB (pe_callTy (kq_list (K := K) rfl) (by rfl) T.z_list (by decide +kernel) (lCons (pa_cons (qv (pv 3)) (lNil pa_nil))))) rfl)) (lSeq (pss_cons (lFldS (K := K) (ps_fld (qv (pv 0)) (qe_lc (own := [("row", 6)]) (g := fun v σ H Q => Q (σ.set 6 (some v)) H) (tt := tYes) rfl sc_Table_init.nd (lIList (K := K) (pi_list (qv (pv 4)))) (blkOk_by (N := N_Table_init) (sc := (defScope s_Table_init)) (by decide +kernel)) (fun _ _ _ _ _ => (lName (pg_name (i := 6) sc_Table_init.nd rfl (Or.inl rfl)))) (fun _ _ _ _ _ => pts_nil) (fun _ _ _ _ _ => (lCB (pe_callTy (kq_list (K := K) rfl) (by rfl) T.z_list (by decide +kernel) (lCons (pa_cons (qv (pv 6)) (lNil pa_nil))))))) rfl)) (pss_one (lFldS (K := K) (ps_fld (qv (pv 0)) (lCB (pe_callTy (kq_list (K := K) rfl) (by rfl) T.z_list (by decide +kernel) (lCons (pa_cons (qv (pv 5)) (lNil pa_nil))))) rfl))))))))))))))))))))), ?_⟩
    obtain rfl := isC.eq c_self T.n_Table
    unfold m_Table_init at hm0
    obtain ⟨x1, h_x1, hm0⟩ := ob hm0
    obtain ⟨c_x1, rfl⟩ := catO_of h_x1
    refine ⟨_, rfl, _, rfl, ?_⟩
    refine g_cat (L := (dom H0)) (Lst.any (rp_lst' w_keys)) (Lst.any (rp_lst' w_states)) c_x1 (fun p2 Hq3 hp4 ex5 n6 => ?_)
    obtain ⟨x7, h_x7, hm0⟩ := ob hm0
    obtain ⟨c_x7, rfl⟩ := catO_of h_x7
    refine ⟨_, rfl, ?_⟩
    refine g_cat (L := (dom H0)) (Lst.any (rp_lst' (n6.rp (Dm.dom.not hp4)))) (Lst.any (rp_lst' (Rp.le ex5.le w_lamps))) c_x7 (fun p8 Hq9 hp10 ex11 n12 => ?_)
    obtain ⟨r13, h_r13, hm0⟩ := ob hm0
    refine ⟨(dom H0), (V.ref p8), ((x_keys ++ x_states) ++ x_lamps), r13, rfl, ((Dm.dom.ex ex5).ex ex11), (n12.rp ((Dm.dom.ex ex5).not hp10)), h_r13, fun Hq14 k15 => ?_⟩
    obtain ⟨r16, h_r16, hm0⟩ := ob hm0
    refine ⟨_, rfl, _, rfl, _, rfl, A, v_keys, x_keys, v_states, x_states, v_lamps, x_lamps, r16, rfl, (((dm.ex ex5).ex ex11).ex k15), (Rp.le ((ex5.le.trans ex11.le).trans k15.le) w_keys), (Rp.le ((ex5.le.trans ex11.le).trans k15.le) w_states), (Rp.le ((ex5.le.trans ex11.le).trans k15.le) w_lamps), h_r16, fun u19 Hq17 k18 q20 => ?_⟩
    obtain ⟨r21, h_r21, hm0⟩ := ob hm0
    refine ⟨(dom H0), ("many" : Str), u19, r16, r21, rfl, ((((Dm.dom.ex ex5).ex ex11).ex k15).ex k18), (Im.any (B := (dom H0)) q20), h_r21, fun Hq22 k23 => ?_⟩
    refine ⟨_, rfl, ?_⟩
    refine g_len (rp_lst' (Rp.le ((((ex5.le.trans ex11.le).trans k15.le).trans k18.le).trans k23.le) w_states)) ?_
    refine ⟨_, rfl, _, rfl, ?_⟩
    refine g_len (rp_lst' (Rp.le ((((ex5.le.trans ex11.le).trans k15.le).trans k18.le).trans k23.le) w_keys)) ?_
    obtain ⟨x24, h_x24, hm0⟩ := ob hm0
    obtain ⟨c_x24, rfl⟩ := shlO_of h_x24
    refine ⟨_, _, rfl, rfl, c_x24, _, rfl, ?_⟩
    refine g_len (rp_lst' (Rp.le ((((ex5.le.trans ex11.le).trans k15.le).trans k18.le).trans k23.le) w_states)) ?_
    obtain ⟨r25, h_r25, hm0⟩ := ob hm0
    refine ⟨A, ((x_states).length : Int), v_rows, x_rows, ((1 : Int) * 2 ^ (((x_keys).length : Int)).toNat), ((x_states).length : Int), r25, rfl, (((((dm.ex ex5).ex ex11).ex k15).ex k18).ex k23), (Rp.le ((((ex5.le.trans ex11.le).trans k15.le).trans k18.le).trans k23.le) w_rows), h_r25, fun u28 Hq26 k27 q29 => ?_⟩
    obtain ⟨r30, h_r30, hm0⟩ := ob hm0
    refine ⟨(dom H0), ("row" : Str), u28, r25, r30, rfl, ((((((Dm.dom.ex ex5).ex ex11).ex k15).ex k18).ex k23).ex k27), (Im.any (B := (dom H0)) q29), h_r30, fun Hq31 k32 => ?_⟩
    refine ⟨_, rfl, ?_⟩
    refine g_len (rp_lst' (Rp.le ((((((ex5.le.trans ex11.le).trans k15.le).trans k18.le).trans k23.le).trans k27.le).trans k32.le) w_states)) ?_
    refine ⟨_, rfl, _, rfl, ?_⟩
    refine g_len (rp_lst' (Rp.le ((((((ex5.le.trans ex11.le).trans k15.le).trans k18.le).trans k23.le).trans k27.le).trans k32.le) w_lamps)) ?_
    obtain ⟨r33, h_r33, hm0⟩ := ob hm0
    refine ⟨A, ((x_states).length : Int), v_lights, x_lights, ((x_lamps).length : Int), (2 : Int), r33, rfl, (((((((dm.ex ex5).ex ex11).ex k15).ex k18).ex k23).ex k27).ex k32), (Rp.le ((((((ex5.le.trans ex11.le).trans k15.le).trans k18.le).trans k23.le).trans k27.le).trans k32.le) w_lights), h_r33, fun u36 Hq34 k35 q37 => ?_⟩
    obtain ⟨r38, h_r38, hm0⟩ := ob hm0
    refine ⟨(dom H0), ("lights" : Str), u36, r33, r38, rfl, ((((((((Dm.dom.ex ex5).ex ex11).ex k15).ex k18).ex k23).ex k27).ex k32).ex k35), (Im.any (B := (dom H0)) q37), h_r38, fun Hq39 k40 => ?_⟩
    obtain ⟨r41, h_r41, hm0⟩ := ob hm0
    refine ⟨_, rfl, A, v_rows, x_rows, r41, rfl, (((((((((dm.ex ex5).ex ex11).ex k15).ex k18).ex k23).ex k27).ex k32).ex k35).ex k40), (Rp.le ((((((((ex5.le.trans ex11.le).trans k15.le).trans k18.le).trans k23.le).trans k27.le).trans k32.le).trans k35.le).trans k40.le) w_rows), h_r41, fun u44 Hq42 k43 q45 => ?_⟩
    obtain ⟨r46, h_r46, hm0⟩ := ob hm0
    refine ⟨(dom H0), ("unsettled" : Str), u44, r41, r46, rfl, ((((((((((Dm.dom.ex ex5).ex ex11).ex k15).ex k18).ex k23).ex k27).ex k32).ex k35).ex k40).ex k43), (Im.any (B := (dom H0)) q45), h_r46, fun Hq47 k48 => ?_⟩
    refine ⟨_, rfl, ?_⟩
    refine g_list (L := (dom H0)) (Lst.any (rp_lst' (Rp.le ((((((((((ex5.le.trans ex11.le).trans k15.le).trans k18.le).trans k23.le).trans k27.le).trans k32.le).trans k35.le).trans k40.le).trans k43.le).trans k48.le) w_keys))) (fun p49 Hq50 hp51 ex52 n53 => ?_)
    refine ⟨_, rfl, ?_⟩
    refine g_setF (gs := [("all_keys", (V.ref p49))]) ((((((((((((o_self.ex ex5).ex ex11).ex k15).ex k18).ex k23).ex k27).ex k32).ex k35).ex k40).ex k43).ex k48).ex ex52) T.cl_Table T.na_Table_all_keys (show 0 < 1000 by decide) (by rfl) (fun Hq54 k55 o56 => ?_)
    refine ⟨_, rfl, ?_⟩
    refine g_list (L := (dom H0)) (Lst.any (rp_lst' (Rp.le ((((((((((((ex5.le.trans ex11.le).trans k15.le).trans k18.le).trans k23.le).trans k27.le).trans k32.le).trans k35.le).trans k40.le).trans k43.le).trans k48.le).trans ex52.le).trans (k55.le o_self.avr)) w_states))) (fun p57 Hq58 hp59 ex60 n61 => ?_)
    refine ⟨_, rfl, ?_⟩
    refine g_setF (gs := [("all_keys", (V.ref p49)), ("all_states", (V.ref p57))]) (o56.ex ex60) T.cl_Table T.na_Table_all_states (show 1 < 1000 by decide) (by rfl) (fun Hq62 k63 o64 => ?_)
    refine ⟨_, rfl, ?_⟩
    refine g_list (L := (dom H0)) (Lst.any (rp_lst' (Rp.le ((((((((((((((ex5.le.trans ex11.le).trans k15.le).trans k18.le).trans k23.le).trans k27.le).trans k32.le).trans k35.le).trans k40.le).trans k43.le).trans k48.le).trans ex52.le).trans (k55.le o_self.avr)).trans ex60.le).trans (k63.le o_self.avr)) w_lamps))) (fun p65 Hq66 hp67 ex68 n69 => ?_)
    refine ⟨_, rfl, ?_⟩
    refine g_setF (gs := [("all_keys", (V.ref p49)), ("all_states", (V.ref p57)), ("all_lamps", (V.ref p65))]) (o64.ex ex68) T.cl_Table T.na_Table_all_lamps (show 2 < 1000 by decide) (by rfl) (fun Hq70 k71 o72 => ?_)
    obtain ⟨a73, xs74, h75⟩ := rp_walk (Rp.le ((((((((((((((((ex5.le.trans ex11.le).trans k15.le).trans k18.le).trans k23.le).trans k27.le).trans k32.le).trans k35.le).trans k40.le).trans k43.le).trans k48.le).trans ex52.le).trans (k55.le o_self.avr)).trans ex60.le).trans (k63.le o_self.avr)).trans ex68.le).trans (k71.le o_self.avr)) w_rows)
    obtain ⟨x81, h_x81, hm0⟩ := ob hm0
    refine ⟨_, rfl, a73, h75.1, ⟨_, h75.2.1.sq⟩, ?_⟩
    refine lc_m (K := K) (A := (dom H0)) (B := A) (TW.list h75.2.1 h75.2.2.1) (m_Table_init_1) x81 h_x81 h75.2.2.2 ?_ ?_
    · intro D82 hD83 d84 y85 v86 Hq87 hy91 k92 hDn95 q93 M89 hM90
      unfold m_Table_init_1 at hy91
      refine ⟨rfl, ?_⟩
      refine ⟨_, rfl, ?_⟩
      refine g_list (L := (ins D82 (dom H0))) (Lst.any (rp_lst' q93)) (fun p97 Hq98 hp99 ex100 n101 => ?_)
      obtain rfl := si hy91
      exact hM90 _ _ ex100 (n101.rp ((((((((((((((((((((Dm.dom.ex ex5).ex ex11).ex k15).ex k18).ex k23).ex k27).ex k32).ex k35).ex k40).ex k43).ex k48).ex ex52).kp k55).ex ex60).kp k63).ex ex68).kp k71).ex k92).ins hDn95).not hp99))
    · rintro D102 Hq103 hD104 e105 n106
      refine ⟨_, rfl, ?_⟩
      refine g_setF (gs := [("all_keys", (V.ref p49)), ("all_states", (V.ref p57)), ("all_lamps", (V.ref p65)), ("goals", (V.ref D102))]) (o72.ex e105) T.cl_Table T.na_Table_goals (show 3 < 1000 by decide) (by rfl) (fun Hq107 k108 o109 => ?_)
      refine ⟨_, rfl, ?_⟩
      refine g_list (L := (dom H0)) (Lst.any (rp_lst' (Rp.le ((((((((((((((((((ex5.le.trans ex11.le).trans k15.le).trans k18.le).trans k23.le).trans k27.le).trans k32.le).trans k35.le).trans k40.le).trans k43.le).trans k48.le).trans ex52.le).trans (k55.le o_self.avr)).trans ex60.le).trans (k63.le o_self.avr)).trans ex68.le).trans (k71.le o_self.avr)).trans e105.le).trans (k108.le o_self.avr)) w_lights))) (fun p110 Hq111 hp112 ex113 n114 => ?_)
      refine ⟨_, rfl, ?_⟩
      refine g_setF (gs := [("all_keys", (V.ref p49)), ("all_states", (V.ref p57)), ("all_lamps", (V.ref p65)), ("goals", (V.ref D102)), ("shining", (V.ref p110))]) (o109.ex ex113) T.cl_Table T.na_Table_shining (show 4 < 1000 by decide) (by rfl) (fun Hq115 k116 o117 => ?_)
      obtain rfl := si hm0
      exact kk _ ((((((((((((((((((((((Kp.refl _).then ex5).then ex11).then k15).then k18).then k23).then k27).then k32).then k35).then k40).then k43).then k48).then ex52).trans k55 (fun x z => .inl z)).then ex60).trans k63 (fun x z => .inl z)).then ex68).trans k71 (fun x z => .inl z)).then e105).trans k108 (fun x z => .inl z)).then ex113).trans k116 (fun x z => .inl z)) (fun B dB nB => ⟨p_self, a.C_Table, d_self, (V.ref p49), (V.ref p57), (V.ref p65), (V.ref D102), (V.ref p110), rfl, T.n_Table, ⟨o117.at_, nB⟩, (Rp.le (Le.drop (fun a z => (dB _ z))) (Rp.le (((((((((k55.le o_self.lv).trans ex60.le).trans (k63.le o_self.lv)).trans ex68.le).trans (k71.le o_self.lv)).trans e105.le).trans (k108.le o_self.lv)).trans ex113.le).trans (k116.le o_self.lv)) (n53.rp ((((((((((((Dm.dom.ex ex5).ex ex11).ex k15).ex k18).ex k23).ex k27).ex k32).ex k35).ex k40).ex k43).ex k48).not hp51)))), (Rp.le (Le.drop (fun a z => (dB _ z))) (Rp.le (((((((k63.le o_self.lv).trans ex68.le).trans (k71.le o_self.lv)).trans e105.le).trans (k108.le o_self.lv)).trans ex113.le).trans (k116.le o_self.lv)) (n61.rp ((((((((((((((Dm.dom.ex ex5).ex ex11).ex k15).ex k18).ex k23).ex k27).ex k32).ex k35).ex k40).ex k43).ex k48).ex ex52).kp k55).not hp59)))), (Rp.le (Le.drop (fun a z => (dB _ z))) (Rp.le (((((k71.le o_self.lv).trans e105.le).trans (k108.le o_self.lv)).trans ex113.le).trans (k116.le o_self.lv)) (n69.rp ((((((((((((((((Dm.dom.ex ex5).ex ex11).ex k15).ex k18).ex k23).ex k27).ex k32).ex k35).ex k40).ex k43).ex k48).ex ex52).kp k55).ex ex60).kp k63).not hp67)))), (Rp.le (Le.drop (fun a z => (dB _ z))) (Rp.le (((k108.le o_self.lv).trans ex113.le).trans (k116.le o_self.lv)) (n106.rp ((((((((((((((((((Dm.dom.ex ex5).ex ex11).ex k15).ex k18).ex k23).ex k27).ex k32).ex k35).ex k40).ex k43).ex k48).ex ex52).kp k55).ex ex60).kp k63).ex ex68).kp k71).not hD104)))), (Rp.le (Le.drop (fun a z => (dB _ z))) (Rp.le (k116.le o_self.lv) (n114.rp ((((((((((((((((((((Dm.dom.ex ex5).ex ex11).ex k15).ex k18).ex k23).ex k27).ex k32).ex k35).ex k40).ex k43).ex k48).ex ex52).kp k55).ex ex60).kp k63).ex ex68).kp k71).ex e105).kp k108).not hp112))))⟩)
/-! Table.key_words -/
def m_Table_key_words (x_self : O_Table) : Option (List Str) :=
  some (x_self.all_keys)
def sp_Table_key_words (K : PySem.W.Frag) : Sp := fun vs H Q _ => ∃ (A : Av) (v_self : V) (x_self : O_Table) (r : (List Str)), vs = [v_self] ∧ Dm A H ∧ Rp.rp K A H v_self x_self ∧ m_Table_key_words x_self = some r ∧ (∀ p H', H p = none → Ex H H' → (∀ B, Dm B H → New K B H' p r) → Q (V.ref p) H')
abbrev N_Table_key_words : List Str := ["self"]
theorem sc_Table_key_words : FnScope N_Table_key_words ["self"] (defScope s_Table_key_words) := ⟨rfl, rfl, rfl, by decide +kernel, rfl, by decide +kernel, by decide +kernel⟩
theorem ok_Table_key_words (T : Tx K mg a) : FnOk P w K mg base CX0 1 a.f_Table_key_words a.d_Table_key_words ["self"] (sp_Table_key_words K) := by
  refine T.F_Table_key_words.ok sc_Table_key_words (fun vs H Q E h => ?_) (fun cdv A' outer s H0 vs Q E hr h => ?_)
  · obtain ⟨_, _, _, _, rfl, _⟩ := h
    rfl
  · obtain ⟨A, v_self, x_self, r, rfl, dm, w_self, hm0, kk⟩ := h
    refine ⟨_, (pss_one (lRet (ps_ret (lCB (pe_callTy (kq_list (K := K) rfl) (by rfl) T.z_list (by decide +kernel) (lCons (pa_cons (lFld (K := K) (pe_fld (qv (pv 0)) rfl)) (lNil pa_nil)))))))), ?_⟩
    unfold m_Table_key_words at hm0
    refine ⟨_, rfl, ?_⟩
    refine g_Table_all_keys T w_self (fun u1 q2 => ?_)
    refine g_list (L := (dom H0)) (Lst.any (rp_lst' q2)) (fun p3 Hq4 hp5 ex6 n7 => ?_)
    obtain rfl := si hm0
    exact kk _ _ hp5 ex6 (fun B dB => New.sub n7 (fun a z => (dB _ z)))
/-! Table.lamps -/
def m_Table_lamps (x_self : O_Table) : Option (List Str) :=
  some (x_self.all_lamps)
def sp_Table_lamps (K : PySem.W.Frag) : Sp := fun vs H Q _ => ∃ (A : Av) (v_self : V) (x_self : O_Table) (r : (List Str)), vs = [v_self] ∧ Dm A H ∧ Rp.rp K A H v_self x_self ∧ m_Table_lamps x_self = some r ∧ (∀ p H', H p = none → Ex H H' → (∀ B, Dm B H → New K B H' p r) → Q (V.ref p) H')
abbrev N_Table_lamps : List Str := ["self"]
theorem sc_Table_lamps : FnScope N_Table_lamps ["self"] (defScope s_Table_lamps) := ⟨rfl, rfl, rfl, by decide +kernel, rfl, by decide +kernel, by decide +kernel⟩
theorem ok_Table_lamps (T : Tx K mg a) : FnOk P w K mg base CX0 1 a.f_Table_lamps a.d_Table_lamps ["self"] (sp_Table_lamps K) := by
  refine T.F_Table_lamps.ok sc_Table_lamps (fun vs H Q E h => ?_) (fun cdv A' outer s H0 vs Q E hr h => ?_)
  · obtain ⟨_, _, _, _, rfl, _⟩ := h
    rfl
  · obtain ⟨A, v_self, x_self, r, rfl, dm, w_self, hm0, kk⟩ := h
    refine ⟨_, (pss_one (lRet (ps_ret (lCB (pe_callTy (kq_list (K := K) rfl) (by rfl) T.z_list (by decide +kernel) (lCons (pa_cons (lFld (K := K) (pe_fld (qv (pv 0)) rfl)) (lNil pa_nil)))))))), ?_⟩
    unfold m_Table_lamps at hm0
    refine ⟨_, rfl, ?_⟩
    refine g_Table_all_lamps T w_self (fun u1 q2 => ?_)
    refine g_list (L := (dom H0)) (Lst.any (rp_lst' q2)) (fun p3 Hq4 hp5 ex6 n7 => ?_)
    obtain rfl := si hm0
    exact kk _ _ hp5 ex6 (fun B dB => New.sub n7 (fun a z => (dB _ z)))
/-! Table.states -/
def m_Table_states (x_self : O_Table) : Option (List Str) :=
  some (x_self.all_states)
def sp_Table_states (K : PySem.W.Frag) : Sp := fun vs H Q _ => ∃ (A : Av) (v_self : V) (x_self : O_Table) (r : (List Str)), vs = [v_self] ∧ Dm A H ∧ Rp.rp K A H v_self x_self ∧ m_Table_states x_self = some r ∧ (∀ p H', H p = none → Ex H H' → (∀ B, Dm B H → New K B H' p r) → Q (V.ref p) H')
abbrev N_Table_states : List Str := ["self"]
theorem sc_Table_states : FnScope N_Table_states ["self"] (defScope s_Table_states) := ⟨rfl, rfl, rfl, by decide +kernel, rfl, by decide +kernel, by decide +kernel⟩
theorem ok_Table_states (T : Tx K mg a) : FnOk P w K mg base CX0 1 a.f_Table_states a.d_Table_states ["self"] (sp_Table_states K) := by
  refine T.F_Table_states.ok sc_Table_states (fun vs H Q E h => ?_) (fun cdv A' outer s H0 vs Q E hr h => ?_)
  · obtain ⟨_, _, _, _, rfl, _⟩ := h
    rfl
  · obtain ⟨A, v_self, x_self, r, rfl, dm, w_self, hm0, kk⟩ := h
    refine ⟨_, (pss_one (lRet (ps_ret (lCB (pe_callTy (kq_list (K := K) rfl) (by rfl) T.z_list (by decide +kernel) (lCons (pa_cons (lFld (K := K) (pe_fld (qv (pv 0)) rfl)) (lNil pa_nil)))))))), ?_⟩
    unfold m_Table_states at hm0
    refine ⟨_, rfl, ?_⟩
    refine g_Table_all_states T w_self (fun u1 q2 => ?_)
    refine g_list (L := (dom H0)) (Lst.any (rp_lst' q2)) (fun p3 Hq4 hp5 ex6 n7 => ?_)
    obtain rfl := si hm0
    exact kk _ _ hp5 ex6 (fun B dB => New.sub n7 (fun a z => (dB _ z)))
/-! Table.goes -/
def m_Table_goes (x_self : O_Table) (x_s : Int) (x_x : Int) : Option Int :=
  (atI x_self.goals x_s).bind fun x3 => (atI x3 x_x).bind fun x6 => some (x6)
def sp_Table_goes (K : PySem.W.Frag) : Sp := fun vs H Q _ => ∃ (A : Av) (v_self : V) (x_self : O_Table) (x_s : Int) (x_x : Int) (r : Int), vs = [v_self, (V.int x_s), (V.int x_x)] ∧ Dm A H ∧ Rp.rp K A H v_self x_self ∧ m_Table_goes x_self x_s x_x = some r ∧ (∀ H', Ex H H' → Q (V.int r) H')
abbrev N_Table_goes : List Str := ["self", "s", "x", "row"]
theorem sc_Table_goes : FnScope N_Table_goes ["self", "s", "x"] (defScope s_Table_goes) := ⟨rfl, rfl, rfl, by decide +kernel, rfl, by decide +kernel, by decide +kernel⟩
theorem ok_Table_goes (T : Tx K mg a) : FnOk P w K mg base CX0 1 a.f_Table_goes a.d_Table_goes ["self", "s", "x"] (sp_Table_goes K) := by
  refine T.F_Table_goes.ok sc_Table_goes (fun vs H Q E h => ?_) (fun cdv A' outer s H0 vs Q E hr h => ?_)
  · obtain ⟨_, _, _, _, _, _, rfl, _⟩ := h
    rfl
  · obtain ⟨A, v_self, x_self, x_s, x_x, r, rfl, dm, w_self, hm0, kk⟩ := h
    refine ⟨_, (lSeq (pss_cons (lSet (ps_set (i := 3) sc_Table_goes.nd rfl (Or.inl rfl) (lOp (pe_ix (kix_list (K := K) rfl) (lFld (K := K) (pe_fld (qv (pv 0)) rfl)) (qv (pv 1)) (fun _ _ => rfl))))) (pss_one (lRet (ps_ret (lOp (pe_ix (kix_list (K := K) rfl) (qv (pv 3)) (qv (pv 2)) (fun _ _ => rfl)))))))), ?_⟩
    unfold m_Table_goes at hm0
    refine ⟨_, rfl, ?_⟩
    refine g_Table_goals T w_self (fun u1 q2 => ?_)
    obtain ⟨x3, h_x3, hm0⟩ := ob hm0
    refine ⟨_, rfl, ?_⟩
    refine g_ix (rp_lst' q2) h_x3 (fun u4 q5 => ?_)
    obtain ⟨x6, h_x6, hm0⟩ := ob hm0
    refine ⟨_, rfl, _, rfl, ?_⟩
    refine g_ix (rp_lst' q5) h_x6 (fun u7 q8 => ?_)
    obtain rfl := q8
    obtain rfl := si hm0
    exact kk _ (Ex.refl _)
/-! Table.letters -/
def m_Table_letters (x_self : O_Table) : Option Int :=
  (shlO (1 : Int) ((x_self.all_keys).length : Int)).bind fun x3 => some (x3)
def sp_Table_letters (K : PySem.W.Frag) : Sp := fun vs H Q _ => ∃ (A : Av) (v_self : V) (x_self : O_Table) (r : Int), vs = [v_self] ∧ Dm A H ∧ Rp.rp K A H v_self x_self ∧ m_Table_letters x_self = some r ∧ (∀ H', Ex H H' → Q (V.int r) H')
abbrev N_Table_letters : List Str := ["self"]
theorem sc_Table_letters : FnScope N_Table_letters ["self"] (defScope s_Table_letters) := ⟨rfl, rfl, rfl, by decide +kernel, rfl, by decide +kernel, by decide +kernel⟩
theorem ok_Table_letters (T : Tx K mg a) : FnOk P w K mg base CX0 1 a.f_Table_letters a.d_Table_letters ["self"] (sp_Table_letters K) := by
  refine T.F_Table_letters.ok sc_Table_letters (fun vs H Q E h => ?_) (fun cdv A' outer s H0 vs Q E hr h => ?_)
  · obtain ⟨_, _, _, _, rfl, _⟩ := h
    rfl
  · obtain ⟨A, v_self, x_self, r, rfl, dm, w_self, hm0, kk⟩ := h
    refine ⟨_, (pss_one (lRet (ps_ret (lOp (pe_op op_shl qe_int (lCB (pe_callB (kq_len (K := K) rfl) (by rfl) T.z_len (by decide +kernel) (lCons (pa_cons (lFld (K := K) (pe_fld (qv (pv 0)) rfl)) (lNil pa_nil)))))))))), ?_⟩
    unfold m_Table_letters at hm0
    refine ⟨_, rfl, ?_⟩
    refine g_Table_all_keys T w_self (fun u1 q2 => ?_)
    refine g_len (rp_lst' q2) ?_
    obtain ⟨x3, h_x3, hm0⟩ := ob hm0
    obtain ⟨c_x3, rfl⟩ := shlO_of h_x3
    refine ⟨_, _, rfl, rfl, c_x3, ?_⟩
    obtain rfl := si hm0
    exact kk _ (Ex.refl _)
/-! Table.lights -/
def m_Table_lights (x_self : O_Table) (x_s : Int) : Option (Tup Int) :=
  (atI x_self.shining x_s).bind fun x3 => some (x3)
def sp_Table_lights (K : PySem.W.Frag) : Sp := fun vs H Q _ => ∃ (A : Av) (v_self : V) (x_self : O_Table) (x_s : Int) (r : (Tup Int)), vs = [v_self, (V.int x_s)] ∧ Dm A H ∧ Rp.rp K A H v_self x_self ∧ m_Table_lights x_self x_s = some r ∧ (∀ v H', Ex H H' → Rp.rp K A H' v r → Q v H')
abbrev N_Table_lights : List Str := ["self", "s"]
theorem sc_Table_lights : FnScope N_Table_lights ["self", "s"] (defScope s_Table_lights) := ⟨rfl, rfl, rfl, by decide +kernel, rfl, by decide +kernel, by decide +kernel⟩
theorem ok_Table_lights (T : Tx K mg a) : FnOk P w K mg base CX0 1 a.f_Table_lights a.d_Table_lights ["self", "s"] (sp_Table_lights K) := by
  refine T.F_Table_lights.ok sc_Table_lights (fun vs H Q E h => ?_) (fun cdv A' outer s H0 vs Q E hr h => ?_)
  · obtain ⟨_, _, _, _, _, rfl, _⟩ := h
    rfl
  · obtain ⟨A, v_self, x_self, x_s, r, rfl, dm, w_self, hm0, kk⟩ := h
    refine ⟨_, (pss_one (lRet (ps_ret (lOp (pe_ix (kix_list (K := K) rfl) (lFld (K := K) (pe_fld (qv (pv 0)) rfl)) (qv (pv 1)) (fun _ _ => rfl)))))), ?_⟩
    unfold m_Table_lights at hm0
    refine ⟨_, rfl, ?_⟩
    refine g_Table_shining T w_self (fun u1 q2 => ?_)
    obtain ⟨x3, h_x3, hm0⟩ := ob hm0
    refine ⟨_, rfl, ?_⟩
    refine g_ix (rp_lst' q2) h_x3 (fun u4 q5 => ?_)
    obtain rfl := si hm0
    exact kk _ _ (Ex.refl _) q5
/-! _law_is_whole -/
def m_law_is_whole (x_law_thing : Int) : Option Bool :=
  (if true = true then some ((!false)) else some (false)).bind fun x1 => some (x1)
def sp_law_is_whole (K : PySem.W.Frag) : Sp := fun vs H Q _ => ∃ (A : Av) (x_law_thing : Int) (r : Bool), vs = [(V.int x_law_thing)] ∧ Dm A H ∧ m_law_is_whole x_law_thing = some r ∧ (∀ H', Ex H H' → Q (V.bl r) H')
abbrev N_law_is_whole : List Str := ["_law_thing"]
theorem sc_law_is_whole : FnScope N_law_is_whole ["_law_thing"] (defScope s_law_is_whole) := ⟨rfl, rfl, rfl, by decide +kernel, rfl, by decide +kernel, by decide +kernel⟩
theorem ok_law_is_whole (T : Tx K mg a) : FnOk P w K mg base CX0 1 a.f_law_is_whole a.d_law_is_whole ["_law_thing"] (sp_law_is_whole K) := by
  refine T.F_law_is_whole.ok sc_law_is_whole (fun vs H Q E h => ?_) (fun cdv A' outer s H0 vs Q E hr h => ?_)
  · obtain ⟨_, _, _, rfl, _⟩ := h
    rfl
  · obtain ⟨A, x_law_thing, r, rfl, dm, hm0, kk⟩ := h
    refine ⟨_, (pss_one (lRet (ps_ret (pe_cut (lAndV (pe_and (lCB (pe_callB (kcall_isi (K := K) rfl) (by rfl) T.z_isinstance (by decide +kernel) (lCons (pa_cons (qv (pv 0)) (lCons (pa_cons (qe_ty (T := "int") rfl T.z_int (by decide +kernel)) (lNil pa_nil))))))) (pe_one (lNotV (pe_not (lCB (pe_callB (kcall_isi (K := K) rfl) (by rfl) T.z_isinstance (by decide +kernel) (lCons (pa_cons (qv (pv 0)) (lCons (pa_cons (qe_ty (T := "bool") rfl T.z_bool (by decide +kernel)) (lNil pa_nil)))))))))))))))), ?_⟩
    unfold m_law_is_whole at hm0
    obtain ⟨x1, h_x1, hm0⟩ := ob hm0
    refine ⟨fun v H' => v = (V.bl x1) ∧ Ex H0 H', ?_, ?_⟩
    · refine ⟨_, rfl, ?_⟩
      refine g_isi (b := true) (show Rp.rp K no H0 (V.int x_law_thing) x_law_thing from rfl) (by decide +kernel) ?_
      refine ⟨_, rfl, ?_⟩
      refine ite2 (fun c5 => ?_) (fun c5 => ?_)
      · replace h_x1 := ifT c5 h_x1
        refine ⟨_, rfl, ?_⟩
        refine g_isi (b := false) (show Rp.rp K no H0 (V.int x_law_thing) x_law_thing from rfl) (by decide +kernel) ?_
        refine ⟨_, rfl, ?_⟩
        obtain rfl := si h_x1
        exact ⟨rfl, (Ex.refl _)⟩
      · replace h_x1 := ifF c5 h_x1
        obtain rfl := si h_x1
        exact ⟨rfl, (Ex.refl _)⟩
    · rintro _ Hq2 ⟨rfl, e3⟩
      obtain rfl := si hm0
      exact kk _ e3
/-! _law_agrees -/
def m_law_agrees_1 (v_law_s : Int) (v_law_table_here : O_Table) (v_law_rows_here : (List (List Int))) (s : Unit) (d : Int) : Option (Ctl Unit Bool) :=
  ((m_Table_goes v_law_table_here v_law_s d).bind fun r115 => (m_law_is_whole r115).bind fun r118 => if (!r118) = true then some (true) else (m_Table_goes v_law_table_here v_law_s d).bind fun r126 => (atI v_law_rows_here v_law_s).bind fun x129 => (atI x129 d).bind fun x132 => some ((!decide (r126 = x132)))).bind fun x107 => if x107 = true then some (.rt (false)) else some (.nx ())
def m_law_agrees_2 (v_law_lights : (List (Tup Int))) (v_law_table_here : O_Table) (v_law_keys : (List Str)) (v_law_rows_here : (List (List Int))) (s : Unit) (d : Int) : Option (Ctl Unit Bool) :=
  ((m_Table_lights v_law_table_here d).bind fun r84 => if (!true) = true then some (true) else (m_Table_lights v_law_table_here d).bind fun r94 => (atI v_law_lights d).bind fun x99 => (eqD r94 x99).bind fun x102 => some ((!x102))).bind fun x76 => if x76 = true then some (.rt (false)) else (shlO (1 : Int) ((v_law_keys).length : Int)).bind fun x105 => (rng1 x105).bind fun x106 => (forO (m_law_agrees_1 d v_law_table_here v_law_rows_here) () x106).bind fun x138 => x138.go (fun r => some (.rt r)) (fun s191 => some (.nx ()))
def m_law_agrees_3 (v_law_s : Int) (v_law_table_here : O_Table) (v_law_rows_here : (List (List Int))) (s : Unit) (d : Int) : Option (Ctl Unit Bool) :=
  ((m_Table_goes v_law_table_here v_law_s d).bind fun r251 => (m_law_is_whole r251).bind fun r254 => if (!r254) = true then some (true) else (m_Table_goes v_law_table_here v_law_s d).bind fun r262 => (atI v_law_rows_here v_law_s).bind fun x265 => (atI x265 d).bind fun x268 => some ((!decide (r262 = x268)))).bind fun x243 => if x243 = true then some (.rt (false)) else some (.nx ())
def m_law_agrees (x_law_table_here : O_Table) (x_law_told : (H5 (List Str) (List Str) (List Str) (List (List Int)) (List (Tup Int)))) : Option Bool :=
  ((m_Table_key_words x_law_table_here).bind fun r19 => (eqD r19 x_law_told.a).bind fun x25 => if (!x25) = true then some (true) else (m_Table_states x_law_table_here).bind fun r31 => (eqD r31 x_law_told.b).bind fun x37 => if (!x37) = true then some (true) else (m_Table_lamps x_law_table_here).bind fun r43 => (eqD r43 x_law_told.c).bind fun x49 => some ((!x49))).bind fun x11 => if x11 = true then some (false) else ((m_Table_letters x_law_table_here).bind fun r59 => (m_law_is_whole r59).bind fun r62 => if (!r62) = true then some (true) else (m_Table_letters x_law_table_here).bind fun r70 => (shlO (1 : Int) ((x_law_told.a).length : Int)).bind fun x73 => some ((!decide (r70 = x73)))).bind fun x51 => if x51 = true then some (false) else (rng1 ((x_law_told.b).length : Int)).bind fun x75 => (forO (m_law_agrees_2 x_law_told.e x_law_table_here x_law_told.a x_law_told.d) () x75).bind fun x193 => x193.go (fun r => some r) (fun s334 => some (true))
def sp_law_agrees (K : PySem.W.Frag) : Sp := fun vs H Q _ => ∃ (A : Av) (v_law_table_here : V) (x_law_table_here : O_Table) (v_law_told : V) (x_law_told : (H5 (List Str) (List Str) (List Str) (List (List Int)) (List (Tup Int)))) (r : Bool), vs = [v_law_table_here, v_law_told] ∧ Dm A H ∧ Rp.rp K A H v_law_table_here x_law_table_here ∧ Rp.rp K A H v_law_told x_law_told ∧ m_law_agrees x_law_table_here x_law_told = some r ∧ (∀ H', Ex H H' → Q (V.bl r) H')
abbrev N_law_agrees : List Str := ["_law_table_here", "_law_told", "_law_keys", "_law_states", "_law_lamps", "_law_rows_here", "_law_lights", "_law_s", "_law_x"]
theorem sc_law_agrees : FnScope N_law_agrees ["_law_table_here", "_law_told"] (defScope s_law_agrees) := ⟨rfl, rfl, rfl, by decide +kernel, rfl, by decide +kernel, by decide +kernel⟩
theorem ok_law_agrees (T : Tx K mg a) : FnOk P w K mg base CX0 2 a.f_law_agrees a.d_law_agrees ["_law_table_here", "_law_told"] (sp_law_agrees K) := by
  have G_Table_goes := ok_Table_goes (P := P) (w := w) (base := base) T
  have G_Table_key_words := ok_Table_key_words (P := P) (w := w) (base := base) T
  have G_Table_lamps := ok_Table_lamps (P := P) (w := w) (base := base) T
  have G_Table_letters := ok_Table_letters (P := P) (w := w) (base := base) T
  have G_Table_lights := ok_Table_lights (P := P) (w := w) (base := base) T
  have G_Table_states := ok_Table_states (P := P) (w := w) (base := base) T
  have G_law_is_whole := ok_law_is_whole (P := P) (w := w) (base := base) T
  refine T.F_law_agrees.ok sc_law_agrees (fun vs H Q E h => ?_) (fun cdv A' outer s H0 vs Q E hr h => ?_)
  · obtain ⟨_, _, _, _, _, _, rfl, _⟩ := h
    rfl
  · obtain ⟨A, v_law_table_here, x_law_table_here, v_law_told, x_law_told, r, rfl, dm, w_law_table_here, w_law_told, hm0, kk⟩ := h
    refine ⟨_, (lSeq (pss_cons (lAsg (ps_asg (qv (pv 1)) (lUnlG (K := K) (pg_unl (n := 5) rfl (lGCons (pgs_cons (lName (pg_name (i := 2) sc_law_agrees.nd rfl (Or.inl rfl))) (lGCons (pgs_cons (lName (pg_name (i := 3) sc_law_agrees.nd rfl (Or.inl rfl))) (lGCons (pgs_cons (lName (pg_name (i := 4) sc_law_agrees.nd rfl (Or.inl rfl))) (lGCons (pgs_cons (lName (pg_name (i := 5) sc_law_agrees.nd rfl (Or.inl rfl))) (lGCons (pgs_cons (lName (pg_name (i := 6) sc_law_agrees.nd rfl (Or.inl rfl))) (lGNil pgs_nil))))))))))))))) (lSeq (pss_cons (lIf (ps_if (pt_cut (PW.pt (lOr (pw_or (lOpT (pt_cmpR (kop_neD (K := K) rfl hr.units) (lMeth0 (pe_meth0 (qv (pv 0)) T.cl_Table T.mt_Table_key_words G_Table_key_words (hr.mono (by decide)) T.b_Table_key_words .nil pass0)) (qv (pv 2)) (nomark _))) (lOr (pw_or (lOpT (pt_cmpR (kop_neD (K := K) rfl hr.units) (lMeth0 (pe_meth0 (qv (pv 0)) T.cl_Table T.mt_Table_states G_Table_states (hr.mono (by decide)) T.b_Table_states .nil pass0)) (qv (pv 3)) (nomark _))) (pw_or1 (lOpT (pt_cmpR (kop_neD (K := K) rfl hr.units) (lMeth0 (pe_meth0 (qv (pv 0)) T.cl_Table T.mt_Table_lamps G_Table_lamps (hr.mono (by decide)) T.b_Table_lamps .nil pass0)) (qv (pv 4)) (nomark _)))))))))) (pss_one (lRet (ps_ret qe_bl))) (lNext pss_nil))) (lSeq (pss_cons (lIf (ps_if (pt_cut (PW.pt (lOr (pw_or (lNot (pt_not (lVal (pt_val (lCall (pe_call G_law_is_whole (hr.mono (by decide)) rfl T.g_law_is_whole T.F_law_is_whole.kp T.b_law_is_whole .nil pass0 (lCons (pa_cons (lMeth0 (pe_meth0 (qv (pv 0)) T.cl_Table T.mt_Table_letters G_Table_letters (hr.mono (by decide)) T.b_Table_letters .nil pass0)) (lNil pa_nil))))))))) (pw_or1 (lCmpT (pt_cmp (pc_neI (lMeth0 (pe_meth0 (qv (pv 0)) T.cl_Table T.mt_Table_letters G_Table_letters (hr.mono (by decide)) T.b_Table_letters .nil pass0)) (lOp (pe_op op_shl qe_int (lCB (pe_callB (kq_len (K := K) rfl) (by rfl) T.z_len (by decide +kernel) (lCons (pa_cons (qv (pv 2)) (lNil pa_nil))))))))))))))) (pss_one (lRet (ps_ret qe_bl))) (lNext pss_nil))) (lSeq (pss_cons (qs_for PassesOwn.never rfl (lIRng1 (pi_range1 rfl T.z_range (lCons (pa_cons (lCB (pe_callB (kq_len (K := K) rfl) (by rfl) T.z_len (by decide +kernel) (lCons (pa_cons (qv (pv 3)) (lNil pa_nil))))) (lNil pa_nil))))) (lName (pg_name (i := 7) sc_law_agrees.nd rfl (Or.inl rfl))) (lSeq (pss_cons (lIf (ps_if (pt_cut (PW.pt (lOr (pw_or (lNot (pt_not (lVal (pt_val (lCB (pe_callB (kcall_isi (K := K) rfl) (by rfl) T.z_isinstance (by decide +kernel) (lCons (pa_cons (lMeth (pe_meth (qv (pv 0)) T.cl_Table T.mt_Table_lights G_Table_lights (hr.mono (by decide)) T.b_Table_lights .nil pass0 (lCons (pa_cons (qv (pv 7)) (lNil pa_nil))))) (lCons (pa_cons (qe_ty (T := "tuple") rfl T.z_tuple (by decide +kernel)) (lNil pa_nil))))))))))) (pw_or1 (lOpT (pt_cmpR (kop_neD (K := K) rfl hr.units) (lMeth (pe_meth (qv (pv 0)) T.cl_Table T.mt_Table_lights G_Table_lights (hr.mono (by decide)) T.b_Table_lights .nil pass0 (lCons (pa_cons (qv (pv 7)) (lNil pa_nil))))) (lOp (pe_ix (kix_list (K := K) rfl) (qv (pv 6)) (qv (pv 7)) (fun _ _ => rfl))) (nomark _)))))))) (pss_one (lRet (ps_ret qe_bl))) (lNext pss_nil))) (pss_one (qs_for PassesOwn.never rfl (lIRng1 (pi_range1 rfl T.z_range (lCons (pa_cons (lOp (pe_op op_shl qe_int (lCB (pe_callB (kq_len (K := K) rfl) (by rfl) T.z_len (by decide +kernel) (lCons (pa_cons (qv (pv 2)) (lNil pa_nil))))))) (lNil pa_nil))))) (lName (pg_name (i := 8) sc_law_agrees.nd rfl (Or.inl rfl))) (pss_one (lIf (ps_if (pt_cut (PW.pt (lOr (pw_or (lNot (pt_not (lVal (pt_val (lCall (pe_call G_law_is_whole (hr.mono (by decide)) rfl T.g_law_is_whole T.F_law_is_whole.kp T.b_law_is_whole .nil pass0 (lCons (pa_cons (lMeth (pe_meth (qv (pv 0)) T.cl_Table T.mt_Table_goes G_Table_goes (hr.mono (by decide)) T.b_Table_goes .nil pass0 (lCons (pa_cons (qv (pv 7)) (lCons (pa_cons (qv (pv 8)) (lNil pa_nil))))))) (lNil pa_nil))))))))) (pw_or1 (lCmpT (pt_cmp (pc_neI (lMeth (pe_meth (qv (pv 0)) T.cl_Table T.mt_Table_goes G_Table_goes (hr.mono (by decide)) T.b_Table_goes .nil pass0 (lCons (pa_cons (qv (pv 7)) (lCons (pa_cons (qv (pv 8)) (lNil pa_nil))))))) (lOp (pe_ix (kix_list (K := K) rfl) (lOp (pe_ix (kix_list (K := K) rfl) (qv (pv 5)) (qv (pv 7)) (fun _ _ => rfl))) (qv (pv 8)) (fun _ _ => rfl))))))))))) (pss_one (lRet (ps_ret qe_bl))) (lNext pss_nil))))))))) (pss_one (lRet (ps_ret qe_bl))))))))))), ?_⟩
    unfold m_law_agrees at hm0
    refine ⟨_, rfl, ?_⟩
    refine g_unH5 w_law_told (fun u1 q6 u2 q7 u3 q8 u4 q9 u5 q10 => ?_)
    obtain ⟨x11, h_x11, hm0⟩ := ob hm0
    refine ⟨_, _, rfl, _, _, rfl, _, _, rfl, _, _, rfl, _, _, rfl, rfl, ?_⟩
    refine ⟨fun b H' => b = x11 ∧ Ex H0 H', ?_, ?_⟩
    · refine ⟨_, rfl, ?_⟩
      obtain ⟨a15, dx16, fs17, h18⟩ := obj_Table_key_words T w_law_table_here
      refine ⟨a15, dx16, fs17, h18.1, h18.2.1, h18.2.2, ?_⟩
      obtain ⟨r19, h_r19, h_x11⟩ := ob h_x11
      refine ⟨A, v_law_table_here, x_law_table_here, r19, rfl, dm, w_law_table_here, h_r19, fun p22 Hq20 hp23 k21 n24 => ?_⟩
      obtain ⟨x25, h_x25, h_x11⟩ := ob h_x11
      obtain ⟨c_x25, rfl⟩ := eqD_of h_x25
      refine ⟨_, rfl, ?_⟩
      refine g_neD (x := r19) (y := x_law_told.a) ((n24 (dom H0) Dm.dom).rp (Dm.dom.not hp23)) (Rp.le k21.le q6) c_x25 (by decide) ?_
      refine ⟨_, rfl, ?_⟩
      refine ite2 (fun c26 => ?_) (fun c26 => ?_)
      · replace h_x11 := ifT c26 h_x11
        obtain rfl := si h_x11
        exact ⟨rfl, k21⟩
      · replace h_x11 := ifF c26 h_x11
        refine ⟨_, rfl, ?_⟩
        obtain ⟨a27, dx28, fs29, h30⟩ := obj_Table_states T (Rp.le k21.le w_law_table_here)
        refine ⟨a27, dx28, fs29, h30.1, h30.2.1, h30.2.2, ?_⟩
        obtain ⟨r31, h_r31, h_x11⟩ := ob h_x11
        refine ⟨A, v_law_table_here, x_law_table_here, r31, rfl, (dm.ex k21), (Rp.le k21.le w_law_table_here), h_r31, fun p34 Hq32 hp35 k33 n36 => ?_⟩
        obtain ⟨x37, h_x37, h_x11⟩ := ob h_x11
        obtain ⟨c_x37, rfl⟩ := eqD_of h_x37
        refine ⟨_, rfl, ?_⟩
        refine g_neD (x := r31) (y := x_law_told.b) ((n36 (dom H0) (Dm.dom.ex k21)).rp ((Dm.dom.ex k21).not hp35)) (Rp.le (k21.le.trans k33.le) q7) c_x37 (by decide) ?_
        refine ⟨_, rfl, ?_⟩
        refine ite2 (fun c38 => ?_) (fun c38 => ?_)
        · replace h_x11 := ifT c38 h_x11
          obtain rfl := si h_x11
          exact ⟨rfl, (k21.trans k33)⟩
        · replace h_x11 := ifF c38 h_x11
          refine ⟨_, rfl, ?_⟩
          obtain ⟨a39, dx40, fs41, h42⟩ := obj_Table_lamps T (Rp.le (k21.le.trans k33.le) w_law_table_here)
          refine ⟨a39, dx40, fs41, h42.1, h42.2.1, h42.2.2, ?_⟩
          obtain ⟨r43, h_r43, h_x11⟩ := ob h_x11
          refine ⟨A, v_law_table_here, x_law_table_here, r43, rfl, ((dm.ex k21).ex k33), (Rp.le (k21.le.trans k33.le) w_law_table_here), h_r43, fun p46 Hq44 hp47 k45 n48 => ?_⟩
          obtain ⟨x49, h_x49, h_x11⟩ := ob h_x11
          obtain ⟨c_x49, rfl⟩ := eqD_of h_x49
          refine ⟨_, rfl, ?_⟩
          refine g_neD (x := r43) (y := x_law_told.c) ((n48 (dom H0) ((Dm.dom.ex k21).ex k33)).rp (((Dm.dom.ex k21).ex k33).not hp47)) (Rp.le ((k21.le.trans k33.le).trans k45.le) q8) c_x49 (by decide) ?_
          refine ⟨_, rfl, ?_⟩
          obtain rfl := si h_x11
          exact ⟨rfl, ((k21.trans k33).trans k45)⟩
    · rintro _ Hq12 ⟨rfl, e13⟩
      refine ite2 (fun c50 => ?_) (fun c50 => ?_)
      · replace hm0 := ifT c50 hm0
        obtain rfl := si hm0
        exact kk _ e13
      · replace hm0 := ifF c50 hm0
        obtain ⟨x51, h_x51, hm0⟩ := ob hm0
        refine ⟨fun b H' => b = x51 ∧ Ex Hq12 H', ?_, ?_⟩
        · refine ⟨_, rfl, ?_⟩
          obtain ⟨a55, dx56, fs57, h58⟩ := obj_Table_letters T (Rp.le e13.le w_law_table_here)
          refine ⟨a55, dx56, fs57, h58.1, h58.2.1, h58.2.2, ?_⟩
          obtain ⟨r59, h_r59, h_x51⟩ := ob h_x51
          refine ⟨A, v_law_table_here, x_law_table_here, r59, rfl, (dm.ex e13), (Rp.le e13.le w_law_table_here), h_r59, fun Hq60 k61 => ?_⟩
          obtain ⟨r62, h_r62, h_x51⟩ := ob h_x51
          refine ⟨(dom H0), r59, r62, rfl, ((Dm.dom.ex e13).ex k61), h_r62, fun Hq63 k64 => ?_⟩
          refine ⟨_, rfl, ?_⟩
          refine ite2 (fun c65 => ?_) (fun c65 => ?_)
          · replace h_x51 := ifT c65 h_x51
            obtain rfl := si h_x51
            exact ⟨rfl, (k61.trans k64)⟩
          · replace h_x51 := ifF c65 h_x51
            refine ⟨_, rfl, ?_⟩
            obtain ⟨a66, dx67, fs68, h69⟩ := obj_Table_letters T (Rp.le ((e13.le.trans k61.le).trans k64.le) w_law_table_here)
            refine ⟨a66, dx67, fs68, h69.1, h69.2.1, h69.2.2, ?_⟩
            obtain ⟨r70, h_r70, h_x51⟩ := ob h_x51
            refine ⟨A, v_law_table_here, x_law_table_here, r70, rfl, (((dm.ex e13).ex k61).ex k64), (Rp.le ((e13.le.trans k61.le).trans k64.le) w_law_table_here), h_r70, fun Hq71 k72 => ?_⟩
            refine ⟨_, rfl, ?_⟩
            refine g_len (rp_lst' (Rp.le (((e13.le.trans k61.le).trans k64.le).trans k72.le) q6)) ?_
            obtain ⟨x73, h_x73, h_x51⟩ := ob h_x51
            obtain ⟨c_x73, rfl⟩ := shlO_of h_x73
            refine ⟨_, _, rfl, rfl, c_x73, _, _, rfl, rfl, _, rfl, ?_⟩
            obtain rfl := si h_x51
            exact ⟨rfl, ((k61.trans k64).trans k72)⟩
        · rintro _ Hq52 ⟨rfl, e53⟩
          refine ite2 (fun c74 => ?_) (fun c74 => ?_)
          · replace hm0 := ifT c74 hm0
            obtain rfl := si hm0
            exact kk _ (e13.trans e53)
          · replace hm0 := ifF c74 hm0
            refine ⟨_, rfl, ?_⟩
            refine g_len (rp_lst' (Rp.le (e13.le.trans e53.le) q7)) ?_
            obtain ⟨x75, h_x75, hm0⟩ := ob hm0
            obtain ⟨c_x75, rfl⟩ := rng1_of h_x75
            obtain ⟨x193, h_x193, hm0⟩ := ob hm0
            refine ⟨_, rfl, (rng_b c_x75.1).1, (rng_b c_x75.1).2, ?_⟩
            refine for_c (K := K) (A := (dom H0)) (TW.range 0 (((x_law_told.b).length : Int)).toNat) (m_law_agrees_2 x_law_told.e x_law_table_here x_law_told.a x_law_told.d) () x193 h_x193 (fun (s' : Unit) σ' H' => ∃ t_law_s : Option V, ∃ t_law_x : Option V, σ' = [some v_law_table_here, some v_law_told, some u1, some u2, some u3, some u4, some u5, t_law_s, t_law_x] ∧ Ex Hq52 H') ?_ (fun _ _ _ ⟨_, _, _, k⟩ => ⟨_, Ex.le k⟩) ?_ ?_
            · exact ⟨_, _, rfl, Ex.refl _⟩
            · rintro σ329 Hq330 s334 q335 ⟨t332, t333, rfl, k331⟩
              rw [q335] at hm0
              obtain rfl := si hm0
              exact kk _ ((e13.trans e53).trans k331)
            · rintro s195 d196 c207 v197 σ198 Hq199 Hq200 ⟨t204, t205, rfl, k203⟩ hf206 e201 q202 hr210 hb211
              have q209 := q202 _ k203.le
              obtain rfl := q209
              unfold m_law_agrees_2 at hf206
              obtain ⟨x212, h_x212, hf206⟩ := ob hf206
              refine ⟨fun b H' => b = x212 ∧ Ex Hq200 H', ?_, ?_⟩
              · refine ⟨_, rfl, ?_⟩
                obtain ⟨a216, dx217, fs218, h219⟩ := obj_Table_lights T (Rp.le (((e13.le.trans e53.le).trans k203.le).trans e201.le) w_law_table_here)
                refine ⟨a216, dx217, fs218, h219.1, h219.2.1, h219.2.2, ?_⟩
                obtain ⟨r220, h_r220, h_x212⟩ := ob h_x212
                refine ⟨_, rfl, A, v_law_table_here, x_law_table_here, d196, r220, rfl, ((((dm.ex e13).ex e53).ex k203).ex e201), (Rp.le (((e13.le.trans e53.le).trans k203.le).trans e201.le) w_law_table_here), h_r220, fun u223 Hq221 k222 q224 => ?_⟩
                refine g_isi (b := true) (Im.any (B := (dom H0)) q224) (by decide +kernel) ?_
                refine ⟨_, rfl, ?_⟩
                refine ite2 (fun c225 => ?_) (fun c225 => ?_)
                · replace h_x212 := ifT c225 h_x212
                  obtain rfl := si h_x212
                  exact ⟨rfl, k222⟩
                · replace h_x212 := ifF c225 h_x212
                  refine ⟨_, rfl, ?_⟩
                  obtain ⟨a226, dx227, fs228, h229⟩ := obj_Table_lights T (Rp.le ((((e13.le.trans e53.le).trans k203.le).trans e201.le).trans k222.le) w_law_table_here)
                  refine ⟨a226, dx227, fs228, h229.1, h229.2.1, h229.2.2, ?_⟩
                  obtain ⟨r230, h_r230, h_x212⟩ := ob h_x212
                  refine ⟨_, rfl, A, v_law_table_here, x_law_table_here, d196, r230, rfl, (((((dm.ex e13).ex e53).ex k203).ex e201).ex k222), (Rp.le ((((e13.le.trans e53.le).trans k203.le).trans e201.le).trans k222.le) w_law_table_here), h_r230, fun u233 Hq231 k232 q234 => ?_⟩
                  obtain ⟨x235, h_x235, h_x212⟩ := ob h_x212
                  refine ⟨_, rfl, _, rfl, ?_⟩
                  refine g_ix (rp_lst' (Rp.le (((((e13.le.trans e53.le).trans k203.le).trans e201.le).trans k222.le).trans k232.le) q10)) h_x235 (fun u236 q237 => ?_)
                  obtain ⟨x238, h_x238, h_x212⟩ := ob h_x212
                  obtain ⟨c_x238, rfl⟩ := eqD_of h_x238
                  refine g_neD (x := r230) (y := x235) (Im.any (B := (dom H0)) q234) (Im.any (B := (dom H0)) q237) c_x238 (by decide) ?_
                  refine ⟨_, rfl, ?_⟩
                  obtain rfl := si h_x212
                  exact ⟨rfl, (k222.trans k232)⟩
              · rintro _ Hq213 ⟨rfl, e214⟩
                refine ite2 (fun c239 => ?_) (fun c239 => ?_)
                · replace hf206 := ifT c239 hf206
                  have q240 := hr210 _ (si hf206).symm
                  rw [q240] at hm0
                  obtain rfl := si hm0
                  exact kk _ ((((e13.trans e53).trans k203).trans e201).trans e214)
                · replace hf206 := ifF c239 hf206
                  refine ⟨_, rfl, ?_⟩
                  refine g_len (rp_lst' (Rp.le ((((e13.le.trans e53.le).trans k203.le).trans e201.le).trans e214.le) q6)) ?_
                  obtain ⟨x241, h_x241, hf206⟩ := ob hf206
                  obtain ⟨c_x241, rfl⟩ := shlO_of h_x241
                  obtain ⟨x242, h_x242, hf206⟩ := ob hf206
                  obtain ⟨c_x242, rfl⟩ := rng1_of h_x242
                  obtain ⟨x274, h_x274, hf206⟩ := ob hf206
                  refine ⟨_, _, rfl, rfl, c_x241, _, rfl, (rng_b c_x242.1).1, (rng_b c_x242.1).2, ?_⟩
                  refine for_c (K := K) (A := (dom H0)) (TW.range 0 (((1 : Int) * 2 ^ (((x_law_told.a).length : Int)).toNat)).toNat) (m_law_agrees_3 d196 x_law_table_here x_law_told.d) () x274 h_x274 (fun (s' : Unit) σ' H' => ∃ t_law_x : Option V, σ' = [some v_law_table_here, some v_law_told, some u1, some u2, some u3, some u4, some u5, some (V.int d196), t_law_x] ∧ Ex Hq213 H') ?_ (fun _ _ _ ⟨_, _, k⟩ => ⟨_, Ex.le k⟩) ?_ ?_
                  · exact ⟨_, rfl, Ex.refl _⟩
                  · rintro σ323 Hq324 s327 q328 ⟨t326, rfl, k325⟩
                    rw [q328] at hf206
                    exact ⟨_, (si hf206).symm, ⟨_, _, rfl, (((k203.trans e201).trans e214).trans k325)⟩⟩
                  · rintro s276 d277 c287 v278 σ279 Hq280 Hq281 ⟨t285, rfl, k284⟩ hf286 e282 q283 hr290 hb291
                    have q289 := q283 _ k284.le
                    obtain rfl := q289
                    unfold m_law_agrees_3 at hf286
                    obtain ⟨x292, h_x292, hf286⟩ := ob hf286
                    refine ⟨fun b H' => b = x292 ∧ Ex Hq281 H', ?_, ?_⟩
                    · refine ⟨_, rfl, ?_⟩
                      obtain ⟨a296, dx297, fs298, h299⟩ := obj_Table_goes T (Rp.le ((((((e13.le.trans e53.le).trans k203.le).trans e201.le).trans e214.le).trans k284.le).trans e282.le) w_law_table_here)
                      refine ⟨a296, dx297, fs298, h299.1, h299.2.1, h299.2.2, ?_⟩
                      obtain ⟨r300, h_r300, h_x292⟩ := ob h_x292
                      refine ⟨_, rfl, _, rfl, A, v_law_table_here, x_law_table_here, d196, d277, r300, rfl, (((((((dm.ex e13).ex e53).ex k203).ex e201).ex e214).ex k284).ex e282), (Rp.le ((((((e13.le.trans e53.le).trans k203.le).trans e201.le).trans e214.le).trans k284.le).trans e282.le) w_law_table_here), h_r300, fun Hq301 k302 => ?_⟩
                      obtain ⟨r303, h_r303, h_x292⟩ := ob h_x292
                      refine ⟨(dom H0), r300, r303, rfl, ((((((((Dm.dom.ex e13).ex e53).ex k203).ex e201).ex e214).ex k284).ex e282).ex k302), h_r303, fun Hq304 k305 => ?_⟩
                      refine ⟨_, rfl, ?_⟩
                      refine ite2 (fun c306 => ?_) (fun c306 => ?_)
                      · replace h_x292 := ifT c306 h_x292
                        obtain rfl := si h_x292
                        exact ⟨rfl, (k302.trans k305)⟩
                      · replace h_x292 := ifF c306 h_x292
                        refine ⟨_, rfl, ?_⟩
                        obtain ⟨a307, dx308, fs309, h310⟩ := obj_Table_goes T (Rp.le ((((((((e13.le.trans e53.le).trans k203.le).trans e201.le).trans e214.le).trans k284.le).trans e282.le).trans k302.le).trans k305.le) w_law_table_here)
                        refine ⟨a307, dx308, fs309, h310.1, h310.2.1, h310.2.2, ?_⟩
                        obtain ⟨r311, h_r311, h_x292⟩ := ob h_x292
                        refine ⟨_, rfl, _, rfl, A, v_law_table_here, x_law_table_here, d196, d277, r311, rfl, (((((((((dm.ex e13).ex e53).ex k203).ex e201).ex e214).ex k284).ex e282).ex k302).ex k305), (Rp.le ((((((((e13.le.trans e53.le).trans k203.le).trans e201.le).trans e214.le).trans k284.le).trans e282.le).trans k302.le).trans k305.le) w_law_table_here), h_r311, fun Hq312 k313 => ?_⟩
                        obtain ⟨x314, h_x314, h_x292⟩ := ob h_x292
                        refine ⟨_, rfl, _, rfl, ?_⟩
                        refine g_ix (rp_lst' (Rp.le (((((((((e13.le.trans e53.le).trans k203.le).trans e201.le).trans e214.le).trans k284.le).trans e282.le).trans k302.le).trans k305.le).trans k313.le) q9)) h_x314 (fun u315 q316 => ?_)
                        obtain ⟨x317, h_x317, h_x292⟩ := ob h_x292
                        refine ⟨_, rfl, ?_⟩
                        refine g_ix (rp_lst' q316) h_x317 (fun u318 q319 => ?_)
                        obtain rfl := q319
                        refine ⟨_, _, rfl, rfl, _, rfl, ?_⟩
                        obtain rfl := si h_x292
                        exact ⟨rfl, ((k302.trans k305).trans k313)⟩
                    · rintro _ Hq293 ⟨rfl, e294⟩
                      refine ite2 (fun c320 => ?_) (fun c320 => ?_)
                      · replace hf286 := ifT c320 hf286
                        have q322 := hr290 _ (si hf286).symm
                        rw [q322] at hf206
                        have q321 := hr210 _ (si hf206).symm
                        rw [q321] at hm0
                        obtain rfl := si hm0
                        exact kk _ (((((((e13.trans e53).trans k203).trans e201).trans e214).trans k284).trans e282).trans e294)
                      · replace hf286 := ifF c320 hf286
                        exact ⟨_, (si hf286).symm, ⟨_, rfl, ((k284.trans e282).trans e294)⟩⟩
/-! _law_copy -/
def m_law_copy_1 (d : (List Int)) : Option ((List Int)) :=
  some d
def m_law_copy (x_law_told : (H5 (List Str) (List Str) (List Str) (List (List Int)) (List (Tup Int)))) : Option (H5 (List Str) (List Str) (List Str) (List (List Int)) (List (Tup Int))) :=
  (mapO (m_law_copy_1) x_law_told.d).bind fun x32 => some ((⟨x_law_told.a, x_law_told.b, x_law_told.c, x32, x_law_told.e⟩ : (H5 (List Str) (List Str) (List Str) (List (List Int)) (List (Tup Int)))))
def sp_law_copy (K : PySem.W.Frag) : Sp := fun vs H Q _ => ∃ (A : Av) (v_law_told : V) (x_law_told : (H5 (List Str) (List Str) (List Str) (List (List Int)) (List (Tup Int)))) (r : (H5 (List Str) (List Str) (List Str) (List (List Int)) (List (Tup Int)))), vs = [v_law_told] ∧ Dm A H ∧ Rp.rp K A H v_law_told x_law_told ∧ m_law_copy x_law_told = some r ∧ (∀ p H', Ex H H' → NwT K H H' (V.ref p) r → Q (V.ref p) H')
abbrev N_law_copy : List Str := ["_law_told", "_law_row"]
theorem sc_law_copy : FnScope N_law_copy ["_law_told"] (defScope s_law_copy) := ⟨rfl, rfl, rfl, by decide +kernel, rfl, by decide +kernel, by decide +kernel⟩
theorem ok_law_copy (T : Tx K mg a) : FnOk P w K mg base CX0 1 a.f_law_copy a.d_law_copy ["_law_told"] (sp_law_copy K) := by
  refine T.F_law_copy.ok sc_law_copy (fun vs H Q E h => ?_) (fun cdv A' outer s H0 vs Q E hr h => ?_)
  · obtain ⟨_, _, _, _, rfl, _⟩ := h
    rfl
  · obtain ⟨A, v_law_told, x_law_told, r, rfl, dm, w_law_told, hm0, kk⟩ := h
    refine ⟨_, (pss_one (lRet (ps_ret (qe_lst (lCons (pa_cons (lCB (pe_callTy (kq_list (K := K) rfl) (by rfl) T.z_list (by decide +kernel) (lCons (pa_cons (lOp (pe_ix (kix_list (K := K) rfl) (qv (pv 0)) qe_int (fun _ _ => rfl))) (lNil pa_nil))))) (lCons (pa_cons (lCB (pe_callTy (kq_list (K := K) rfl) (by rfl) T.z_list (by decide +kernel) (lCons (pa_cons (lOp (pe_ix (kix_list (K := K) rfl) (qv (pv 0)) qe_int (fun _ _ => rfl))) (lNil pa_nil))))) (lCons (pa_cons (lCB (pe_callTy (kq_list (K := K) rfl) (by rfl) T.z_list (by decide +kernel) (lCons (pa_cons (lOp (pe_ix (kix_list (K := K) rfl) (qv (pv 0)) qe_int (fun _ _ => rfl))) (lNil pa_nil))))) (lCons (pa_cons (qe_lc (own := [("_law_row", 1)]) (g := fun v σ H Q => Q (σ.set 1 (some v)) H) (tt := tYes) rfl sc_law_copy.nd (lIList (K := K) (pi_list (lOp (pe_ix (kix_list (K := K) rfl) (qv (pv 0)) qe_int (fun _ _ => rfl))))) (blkOk_by (N := N_law_copy) (sc := (defScope s_law_copy)) (by decide +kernel)) (fun _ _ _ _ _ => (lName (pg_name (i := 1) sc_law_copy.nd rfl (Or.inl rfl)))) (fun _ _ _ _ _ => pts_nil) (fun _ _ _ _ _ => (lCB (pe_callTy (kq_list (K := K) rfl) (by rfl) T.z_list (by decide +kernel) (lCons (pa_cons (qv (pv 1)) (lNil pa_nil))))))) (lCons (pa_cons (lCB (pe_callTy (kq_list (K := K) rfl) (by rfl) T.z_list (by decide +kernel) (lCons (pa_cons (lOp (pe_ix (kix_list (K := K) rfl) (qv (pv 0)) qe_int (fun _ _ => rfl))) (lNil pa_nil))))) (lNil pa_nil))))))))))))))), ?_⟩
    unfold m_law_copy at hm0
    refine ⟨_, rfl, ?_⟩
    refine g_H5_a w_law_told (fun u1 q2 => ?_)
    refine g_list (L := (dom H0)) (Lst.any (rp_lst' q2)) (fun p3 Hq4 hp5 ex6 n7 => ?_)
    refine ⟨_, rfl, ?_⟩
    refine g_H5_b (Rp.le ex6.le w_law_told) (fun u8 q9 => ?_)
    refine g_list (L := (dom H0)) (Lst.any (rp_lst' q9)) (fun p10 Hq11 hp12 ex13 n14 => ?_)
    refine ⟨_, rfl, ?_⟩
    refine g_H5_c (Rp.le (ex6.le.trans ex13.le) w_law_told) (fun u15 q16 => ?_)
    refine g_list (L := (dom H0)) (Lst.any (rp_lst' q16)) (fun p17 Hq18 hp19 ex20 n21 => ?_)
    refine ⟨_, rfl, ?_⟩
    refine g_H5_d (Rp.le ((ex6.le.trans ex13.le).trans ex20.le) w_law_told) (fun u22 q23 => ?_)
    obtain ⟨a24, xs25, h26⟩ := rp_walk q23
    obtain ⟨x32, h_x32, hm0⟩ := ob hm0
    refine ⟨a24, h26.1, ⟨_, h26.2.1.sq⟩, ?_⟩
    refine lc_t (K := K) (B := A) (TW.list h26.2.1 h26.2.2.1) (m_law_copy_1) x32 h_x32 h26.2.2.2 ?_ ?_
    · intro D33 hD34 d35 y36 v37 Hq38 hy42 k43 hDn46 q44 M40 hM41
      unfold m_law_copy_1 at hy42
      refine ⟨rfl, ?_⟩
      refine ⟨_, rfl, ?_⟩
      refine g_list (L := (ins D33 (dom H0))) (Lst.any (rp_lst' q44)) (fun p48 Hq49 hp50 ex51 n52 => ?_)
      obtain rfl := si hy42
      exact hM41 _ _ ex51 (New.nwt n52 hp50)
    · rintro D53 Hq54 hD55 e56 n57
      refine ⟨_, rfl, ?_⟩
      refine g_H5_e (Rp.le (((ex6.le.trans ex13.le).trans ex20.le).trans e56.le) w_law_told) (fun u58 q59 => ?_)
      refine g_list (L := (dom H0)) (Lst.any (rp_lst' q59)) (fun p60 Hq61 hp62 ex63 n64 => ?_)
      refine g_mkH5T (x := (⟨x_law_told.a, x_law_told.b, x_law_told.c, x32, x_law_told.e⟩ : (H5 (List Str) (List Str) (List Str) (List (List Int)) (List (Tup Int))))) (New.nwt n7 hp5) (Ex.refl _) (New.nwt n14 hp12) (Ex.refl _) (New.nwt n21 hp19) (Ex.refl _) n57 (Ex.refl _) (New.nwt n64 hp62) ex6 ex13 ex20 e56 ex63 (fun p65 Hq66 ex67 q68 => ?_)
      obtain rfl := si hm0
      exact kk _ _ (((((ex6.trans ex13).trans ex20).trans e56).trans ex63).trans ex67) q68
/-! pressed_by -/
def m_pressed_by_1 (v_x : Int) (d : Int) : Option (Int) :=
  (shrO v_x d).bind fun x2 => some (Builtin.bitAnd x2 (1 : Int))
def m_pressed_by (x_many : Int) (x_x : Int) : Option (Tup Int) :=
  (rng1 x_many).bind fun x1 => (mapO (m_pressed_by_1 x_x) x1).bind fun x3 => some ((⟨x3⟩ : (Tup Int)))
def sp_pressed_by (K : PySem.W.Frag) : Sp := fun vs H Q _ => ∃ (A : Av) (x_many : Int) (x_x : Int) (r : (Tup Int)), vs = [(V.int x_many), (V.int x_x)] ∧ Dm A H ∧ m_pressed_by x_many x_x = some r ∧ (∀ v H', Ex H H' → Rp.rp K A H' v r → Q v H')
abbrev N_pressed_by : List Str := ["many", "x", "k"]
theorem sc_pressed_by : FnScope N_pressed_by ["many", "x"] (defScope s_pressed_by) := ⟨rfl, rfl, rfl, by decide +kernel, rfl, by decide +kernel, by decide +kernel⟩
theorem ok_pressed_by (T : Tx K mg a) : FnOk P w K mg base CX0 1 a.f_pressed_by a.d_pressed_by ["many", "x"] (sp_pressed_by K) := by
  refine T.F_pressed_by.ok sc_pressed_by (fun vs H Q E h => ?_) (fun cdv A' outer s H0 vs Q E hr h => ?_)
  · obtain ⟨_, _, _, _, rfl, _⟩ := h
    rfl
  · obtain ⟨A, x_many, x_x, r, rfl, dm, hm0, kk⟩ := h
    refine ⟨_, (pss_one (lRet (ps_ret (lCB (pe_callTy (kq_tuple (K := K) rfl) (by rfl) T.z_tuple (by decide +kernel) (lCons (pa_cons (qe_lc (own := [("k", 2)]) (g := fun v σ H Q => Q (σ.set 2 (some v)) H) (tt := tYes) rfl sc_pressed_by.nd (lIRng1 (pi_range1 rfl T.z_range (lCons (pa_cons (qv (pv 0)) (lNil pa_nil))))) (blkOk_by (N := N_pressed_by) (sc := (defScope s_pressed_by)) (by decide +kernel)) (fun _ _ _ _ _ => (lName (pg_name (i := 2) sc_pressed_by.nd rfl (Or.inl rfl)))) (fun _ _ _ _ _ => pts_nil) (fun _ _ _ _ _ => (lOp (pe_op op_and (lOp (pe_op op_shr (qv (pv 1)) (qv (pv 2)))) qe_int)))) (lNil pa_nil)))))))), ?_⟩
    unfold m_pressed_by at hm0
    obtain ⟨x1, h_x1, hm0⟩ := ob hm0
    obtain ⟨c_x1, rfl⟩ := rng1_of h_x1
    obtain ⟨x3, h_x3, hm0⟩ := ob hm0
    refine ⟨_, rfl, _, rfl, (rng_b c_x1.1).1, (rng_b c_x1.1).2, ?_⟩
    refine lc_m (K := K) (A := (dom H0)) (B := (dom H0)) (TW.range 0 (x_many).toNat) (m_pressed_by_1 x_x) x3 h_x3 c_x1.2 ?_ ?_
    · intro D4 hD5 d6 y7 v8 Hq9 hy13 k14 hDn17 q15 M11 hM12
      obtain rfl := q15
      unfold m_pressed_by_1 at hy13
      refine ⟨rfl, ?_⟩
      obtain ⟨x19, h_x19, hy13⟩ := ob hy13
      obtain ⟨c_x19, rfl⟩ := shrO_of h_x19
      refine ⟨_, rfl, _, rfl, _, _, rfl, rfl, c_x19, _, _, rfl, rfl, ?_⟩
      obtain rfl := si hy13
      exact hM12 _ _ (Ex.refl _) rfl
    · rintro D20 Hq21 hD22 e23 n24
      refine g_tuple (L := (dom H0)) (Lst.any (rp_lst' (n24.rp (Dm.dom.not hD22)))) (fun u25 Hq26 ex27 q28 => ?_)
      obtain rfl := si hm0
      exact kk _ _ (e23.trans ex27) (Rp.le (Le.drop dm) q28)
/-! _law_letters_right -/
def m_law_letters_right_1 (v_law_x : Int) (d : Int) : Option (Int) :=
  (shlO (1 : Int) d).bind fun x13 => (divO v_law_x x13).bind fun x14 => some (x14 % (2 : Int))
def m_law_letters_right_2 (d : Int) : Option (Bool) :=
  (m_law_is_whole d).bind fun r47 => some r47
def m_law_letters_right_3 (v_law_many : Int) (s : Unit) (d : Int) : Option (Ctl Unit Bool) :=
  (m_pressed_by v_law_many d).bind fun r3 => ((rng1 v_law_many).bind fun x12 => (mapO (m_law_letters_right_1 d) x12).bind fun x15 => (eqD r3 (⟨x15⟩ : (Tup Int))).bind fun x42 => if (!x42) = true then some (true) else (mapO (m_law_letters_right_2) r3.l).bind fun x50 => some ((!((x50).all id)))).bind fun x8 => if x8 = true then some (.rt (false)) else some (.nx ())
def m_law_letters_right_4 (v_law_x : Int) (d : Int) : Option (Int) :=
  (shlO (1 : Int) d).bind fun x105 => (divO v_law_x x105).bind fun x106 => some (x106 % (2 : Int))
def m_law_letters_right_5 (d : Int) : Option (Bool) :=
  (m_law_is_whole d).bind fun r139 => some r139
def m_law_letters_right (x_law_many : Int) : Option Bool :=
  (shlO (1 : Int) x_law_many).bind fun x1 => (rng1 x1).bind fun x2 => (forO (m_law_letters_right_3 x_law_many) () x2).bind fun x76 => x76.go (fun r => some r) (fun s173 => some (true))
def sp_law_letters_right (K : PySem.W.Frag) : Sp := fun vs H Q _ => ∃ (A : Av) (x_law_many : Int) (r : Bool), vs = [(V.int x_law_many)] ∧ Dm A H ∧ m_law_letters_right x_law_many = some r ∧ (∀ H', Ex H H' → Q (V.bl r) H')
abbrev N_law_letters_right : List Str := ["_law_many", "_law_x", "_law_told", "_law_k", "_law_one"]
theorem sc_law_letters_right : FnScope N_law_letters_right ["_law_many"] (defScope s_law_letters_right) := ⟨rfl, rfl, rfl, by decide +kernel, rfl, by decide +kernel, by decide +kernel⟩
theorem ok_law_letters_right (T : Tx K mg a) : FnOk P w K mg base CX0 2 a.f_law_letters_right a.d_law_letters_right ["_law_many"] (sp_law_letters_right K) := by
  have G_law_is_whole := ok_law_is_whole (P := P) (w := w) (base := base) T
  have G_pressed_by := ok_pressed_by (P := P) (w := w) (base := base) T
  refine T.F_law_letters_right.ok sc_law_letters_right (fun vs H Q E h => ?_) (fun cdv A' outer s H0 vs Q E hr h => ?_)
  · obtain ⟨_, _, _, rfl, _⟩ := h
    rfl
  · obtain ⟨A, x_law_many, r, rfl, dm, hm0, kk⟩ := h
    refine ⟨_, (lSeq (pss_cons (qs_for PassesOwn.never rfl (lIRng1 (pi_range1 rfl T.z_range (lCons (pa_cons (lOp (pe_op op_shl qe_int (qv (pv 0)))) (lNil pa_nil))))) (lName (pg_name (i := 1) sc_law_letters_right.nd rfl (Or.inr rfl))) (lSeq (pss_cons (lSet (ps_set (i := 2) sc_law_letters_right.nd rfl (Or.inl rfl) (lCall (pe_call G_pressed_by (hr.mono (by decide)) rfl T.g_pressed_by T.F_pressed_by.kp T.b_pressed_by .nil pass0 (lCons (pa_cons (qv (pv 0)) (lCons (pa_cons (qv (pv 1)) (lNil pa_nil))))))))) (pss_one (lIf (ps_if (pt_cut (PW.pt (lOr (pw_or (lOpT (pt_cmpR (kop_neD (K := K) rfl hr.units) (qv (pv 2)) (lCB (pe_callTy (kq_tuple (K := K) rfl) (by rfl) T.z_tuple (by decide +kernel) (lCons (pa_cons (qe_lc (own := [("_law_k", 3)]) (g := fun v σ H Q => Q (σ.set 3 (some v)) H) (tt := tYes) rfl sc_law_letters_right.nd (lIRng1 (pi_range1 rfl T.z_range (lCons (pa_cons (qv (pv 0)) (lNil pa_nil))))) (blkOk_by (N := N_law_letters_right) (sc := (defScope s_law_letters_right)) (by decide +kernel)) (fun _ _ _ _ _ => (lName (pg_name (i := 3) sc_law_letters_right.nd rfl (Or.inl rfl)))) (fun _ _ _ _ _ => pts_nil) (fun _ _ _ _ _ => (lOp (pe_op op_mod (lOp (pe_op op_fdiv (qv (pv 1)) (lOp (pe_op op_shl qe_int (qv (pv 3)))))) qe_int)))) (lNil pa_nil))))) (nomark _))) (pw_or1 (lNot (pt_not (lVal (pt_val (lCB (pe_callB (kcr_all (K := K) rfl rfl) (by rfl) T.z_all (by decide +kernel) (lCons (pa_cons (qe_lc (own := [("_law_one", 4)]) (g := fun v σ H Q => Q (σ.set 4 (some v)) H) (tt := tYes) rfl sc_law_letters_right.nd (lITup (K := K) (pi_tup (qv (pv 2)))) (blkOk_by (N := N_law_letters_right) (sc := (defScope s_law_letters_right)) (by decide +kernel)) (fun _ _ _ _ _ => (lName (pg_name (i := 4) sc_law_letters_right.nd rfl (Or.inl rfl)))) (fun _ _ _ _ _ => pts_nil) (fun _ _ _ _ _ => (lCall (pe_call G_law_is_whole (hr.mono (by decide)) rfl T.g_law_is_whole T.F_law_is_whole.kp T.b_law_is_whole .nil pass0 (lCons (pa_cons (qv (pv 4)) (lNil pa_nil))))))) (lNil pa_nil)))))))))))))) (pss_one (lRet (ps_ret qe_bl))) (lNext pss_nil))))))) (pss_one (lRet (ps_ret qe_bl))))), ?_⟩
    unfold m_law_letters_right at hm0
    obtain ⟨x1, h_x1, hm0⟩ := ob hm0
    obtain ⟨c_x1, rfl⟩ := shlO_of h_x1
    obtain ⟨x2, h_x2, hm0⟩ := ob hm0
    obtain ⟨c_x2, rfl⟩ := rng1_of h_x2
    obtain ⟨x76, h_x76, hm0⟩ := ob hm0
    refine ⟨_, rfl, _, _, rfl, rfl, c_x1, _, rfl, (rng_b c_x2.1).1, (rng_b c_x2.1).2, ?_⟩
    refine for_c (K := K) (A := (dom H0)) (TW.range 0 (((1 : Int) * 2 ^ (x_law_many).toNat)).toNat) (m_law_letters_right_3 x_law_many) () x76 h_x76 (fun (s' : Unit) σ' H' => ∃ t_law_x : Option V, ∃ t_law_told : Option V, σ' = [some (V.int x_law_many), t_law_x, t_law_told, none, none] ∧ Ex H0 H') ?_ (fun _ _ _ ⟨_, _, _, k⟩ => ⟨_, Ex.le k⟩) ?_ ?_
    · exact ⟨_, _, rfl, Ex.refl _⟩
    · rintro σ168 Hq169 s173 q174 ⟨t171, t172, rfl, k170⟩
      rw [q174] at hm0
      obtain rfl := si hm0
      exact kk _ k170
    · rintro s78 d79 c90 v80 σ81 Hq82 Hq83 ⟨t87, t88, rfl, k86⟩ hf89 e84 q85 hr93 hb94
      have q92 := q85 _ k86.le
      obtain rfl := q92
      unfold m_law_letters_right_3 at hf89
      obtain ⟨r95, h_r95, hf89⟩ := ob hf89
      refine ⟨_, rfl, _, rfl, (dom H0), x_law_many, d79, r95, rfl, ((Dm.dom.ex k86).ex e84), h_r95, fun u98 Hq96 k97 q99 => ?_⟩
      obtain ⟨x100, h_x100, hf89⟩ := ob hf89
      refine ⟨fun b H' => b = x100 ∧ Ex Hq96 H', ?_, ?_⟩
      · obtain ⟨x104, h_x104, h_x100⟩ := ob h_x100
        obtain ⟨c_x104, rfl⟩ := rng1_of h_x104
        obtain ⟨x107, h_x107, h_x100⟩ := ob h_x100
        refine ⟨_, rfl, _, rfl, _, rfl, (rng_b c_x104.1).1, (rng_b c_x104.1).2, ?_⟩
        refine lc_m (K := K) (A := (dom H0)) (B := (dom H0)) (TW.range 0 (x_law_many).toNat) (m_law_letters_right_4 d79) x107 h_x107 c_x104.2 ?_ ?_
        · intro D108 hD109 d110 y111 v112 Hq113 hy117 k118 hDn121 q119 M115 hM116
          obtain rfl := q119
          unfold m_law_letters_right_4 at hy117
          refine ⟨rfl, ?_⟩
          obtain ⟨x123, h_x123, hy117⟩ := ob hy117
          obtain ⟨c_x123, rfl⟩ := shlO_of h_x123
          obtain ⟨x124, h_x124, hy117⟩ := ob hy117
          obtain ⟨c_x124, rfl⟩ := divO_of h_x124
          refine ⟨_, rfl, _, rfl, _, _, rfl, rfl, c_x123, _, _, rfl, rfl, c_x124, _, _, rfl, rfl, (show (0 : Int) < (2 : Int) from by decide), ?_⟩
          obtain rfl := si hy117
          exact hM116 _ _ (Ex.refl _) rfl
        · rintro D125 Hq126 hD127 e128 n129
          refine g_tuple (L := (dom H0)) (Lst.any (rp_lst' (n129.rp ((((Dm.dom.ex k86).ex e84).ex k97).not hD127)))) (fun u130 Hq131 ex132 q133 => ?_)
          obtain ⟨x134, h_x134, h_x100⟩ := ob h_x100
          obtain ⟨c_x134, rfl⟩ := eqD_of h_x134
          refine g_neD (x := r95) (y := (⟨x107⟩ : (Tup Int))) (Rp.le (e128.le.trans ex132.le) q99) q133 c_x134 (by decide) ?_
          refine ⟨_, rfl, ?_⟩
          refine ite2 (fun c135 => ?_) (fun c135 => ?_)
          · replace h_x100 := ifT c135 h_x100
            obtain rfl := si h_x100
            exact ⟨rfl, (e128.trans ex132)⟩
          · replace h_x100 := ifF c135 h_x100
            obtain ⟨a136, xs137, h138⟩ := rp_walkV (Rp.le (e128.le.trans ex132.le) q99)
            obtain ⟨x142, h_x142, h_x100⟩ := ob h_x100
            refine ⟨_, rfl, a136, h138.1, ⟨_, h138.2.1⟩, ?_⟩
            refine lc_m (K := K) (A := (dom H0)) (B := (dom H0)) (TW.tup h138.2.1 h138.2.2.1) (m_law_letters_right_5) x142 h_x142 h138.2.2.2 ?_ ?_
            · intro D143 hD144 d145 y146 v147 Hq148 hy152 k153 hDn156 q154 M150 hM151
              obtain rfl := q154
              unfold m_law_letters_right_5 at hy152
              refine ⟨rfl, ?_⟩
              obtain ⟨r158, h_r158, hy152⟩ := ob hy152
              refine ⟨_, rfl, (ins D143 (dom H0)), d145, r158, rfl, (((((((Dm.dom.ex k86).ex e84).ex k97).ex e128).ex ex132).ex k153).ins hDn156), h_r158, fun Hq159 k160 => ?_⟩
              obtain rfl := si hy152
              exact hM151 _ _ k160 rfl
            · rintro D161 Hq162 hD163 e164 n165
              refine g_all (rp_lst' (n165.rp ((((((Dm.dom.ex k86).ex e84).ex k97).ex e128).ex ex132).not hD163))) ?_
              refine ⟨_, rfl, ?_⟩
              obtain rfl := si h_x100
              exact ⟨rfl, ((e128.trans ex132).trans e164)⟩
      · rintro _ Hq101 ⟨rfl, e102⟩
        refine ite2 (fun c166 => ?_) (fun c166 => ?_)
        · replace hf89 := ifT c166 hf89
          have q167 := hr93 _ (si hf89).symm
          rw [q167] at hm0
          obtain rfl := si hm0
          exact kk _ (((k86.trans e84).trans k97).trans e102)
        · replace hf89 := ifF c166 hf89
          exact ⟨_, (si hf89).symm, ⟨_, _, rfl, (((k86.trans e84).trans k97).trans e102)⟩⟩
/-! _law_pot -/
def m_law_pot (x_law_script : Script) (x_law_k : Int) : Option (H2 Int Int) :=
  (if decide (x_law_k < ((x_law_script).l.length : Int)) = true then (atI x_law_script.l x_law_k).bind fun x6 => some (x6) else some ((0 : Int))).bind fun x1 => some ((⟨(if ((if x1 < 0 then -x1 else x1) - ((10 : Int) ^ ((18 : Int)).toNat)) > (0 : Int) then ((if x1 < 0 then -x1 else x1) - ((10 : Int) ^ ((18 : Int)).toNat)) else (0 : Int)), ((((if x1 < 0 then -x1 else x1) % (2147483587 : Int)) + ((31 : Int) * x_law_k)) + (5 : Int))⟩ : (H2 Int Int)))
def sp_law_pot (K : PySem.W.Frag) : Sp := fun vs H Q _ => ∃ (A : Av) (v_law_script : V) (x_law_script : Script) (x_law_k : Int) (r : (H2 Int Int)), vs = [v_law_script, (V.int x_law_k)] ∧ Dm A H ∧ Rp.rp K A H v_law_script x_law_script ∧ m_law_pot x_law_script x_law_k = some r ∧ (∀ p H', Ex H H' → NwT K H H' (V.ref p) r → Q (V.ref p) H')
abbrev N_law_pot : List Str := ["_law_script", "_law_k", "_law_cell"]
theorem sc_law_pot : FnScope N_law_pot ["_law_script", "_law_k"] (defScope s_law_pot) := ⟨rfl, rfl, rfl, by decide +kernel, rfl, by decide +kernel, by decide +kernel⟩
theorem ok_law_pot (T : Tx K mg a) : FnOk P w K mg base CX0 1 a.f_law_pot a.d_law_pot ["_law_script", "_law_k"] (sp_law_pot K) := by
  refine T.F_law_pot.ok sc_law_pot (fun vs H Q E h => ?_) (fun cdv A' outer s H0 vs Q E hr h => ?_)
  · obtain ⟨_, _, _, _, _, rfl, _⟩ := h
    rfl
  · obtain ⟨A, v_law_script, x_law_script, x_law_k, r, rfl, dm, w_law_script, hm0, kk⟩ := h
    refine ⟨_, (lSeq (pss_cons (lSet (ps_set (i := 2) sc_law_pot.nd rfl (Or.inl rfl) (pe_cut (lIfE (pe_ifExp (lOpT (pt_cmpR op_lt (qv (pv 1)) (lCB (pe_callB (kq_len (K := K) rfl) (by rfl) T.z_len (by decide +kernel) (lCons (pa_cons (qv (pv 0)) (lNil pa_nil))))) (nomark _))) (lOp (pe_ix (kix_list (K := K) rfl) (qv (pv 0)) (qv (pv 1)) (fun _ _ => rfl))) qe_int))))) (pss_one (lRet (ps_ret (qe_lst (lCons (pa_cons (lCB (pe_callB (call_max2 rfl) (by rfl) T.z_max (by decide +kernel) (lCons (pa_cons qe_int (lCons (pa_cons (lOp (pe_op op_sub (lCB (pe_callB call_abs (by rfl) T.z_abs (by decide +kernel) (lCons (pa_cons (qv (pv 2)) (lNil pa_nil))))) (lOp (pe_op op_pow qe_int qe_int)))) (lNil pa_nil))))))) (lCons (pa_cons (lOp (pe_op op_add (lOp (pe_op op_add (lOp (pe_op op_mod (lCB (pe_callB call_abs (by rfl) T.z_abs (by decide +kernel) (lCons (pa_cons (qv (pv 2)) (lNil pa_nil))))) qe_int)) (lOp (pe_op op_mul qe_int (qv (pv 1)))))) qe_int)) (lNil pa_nil))))))))))), ?_⟩
    unfold m_law_pot at hm0
    obtain ⟨x1, h_x1, hm0⟩ := ob hm0
    refine ⟨fun v H' => v = (V.int x1) ∧ Ex H0 H', ?_, ?_⟩
    · refine ⟨_, rfl, _, rfl, ?_⟩
      refine g_lens (Im.any (B := (dom H0)) w_law_script) ?_
      refine ⟨_, _, rfl, rfl, _, rfl, ?_⟩
      refine ite2 (fun c5 => ?_) (fun c5 => ?_)
      · replace h_x1 := ifT c5 h_x1
        obtain ⟨x6, h_x6, h_x1⟩ := ob h_x1
        refine ⟨_, rfl, _, rfl, ?_⟩
        refine g_ixs (Im.any (B := (dom H0)) w_law_script) h_x6 (fun u7 q8 => ?_)
        obtain rfl := q8
        obtain rfl := si h_x1
        exact ⟨rfl, (Ex.refl _)⟩
      · replace h_x1 := ifF c5 h_x1
        obtain rfl := si h_x1
        exact ⟨rfl, (Ex.refl _)⟩
    · rintro _ Hq2 ⟨rfl, e3⟩
      refine ⟨_, rfl, _, rfl, _, _, rfl, rfl, ⟨by decide, by decide, by decide⟩, _, _, rfl, rfl, _, _, rfl, _, rfl, _, rfl, _, _, rfl, rfl, (show (0 : Int) < (2147483587 : Int) from by decide), _, rfl, _, _, rfl, rfl, (.inl ⟨by decide, by decide⟩), _, _, rfl, rfl, _, _, rfl, rfl, ?_⟩
      refine g_mkH2T (x := (⟨(if ((if x1 < 0 then -x1 else x1) - ((10 : Int) ^ ((18 : Int)).toNat)) > (0 : Int) then ((if x1 < 0 then -x1 else x1) - ((10 : Int) ^ ((18 : Int)).toNat)) else (0 : Int)), ((((if x1 < 0 then -x1 else x1) % (2147483587 : Int)) + ((31 : Int) * x_law_k)) + (5 : Int))⟩ : (H2 Int Int))) (show Rp.rp K (dom H0) Hq2 (V.int (if ((if x1 < 0 then -x1 else x1) - ((10 : Int) ^ ((18 : Int)).toNat)) > (0 : Int) then ((if x1 < 0 then -x1 else x1) - ((10 : Int) ^ ((18 : Int)).toNat)) else (0 : Int))) (if ((if x1 < 0 then -x1 else x1) - ((10 : Int) ^ ((18 : Int)).toNat)) > (0 : Int) then ((if x1 < 0 then -x1 else x1) - ((10 : Int) ^ ((18 : Int)).toNat)) else (0 : Int)) from rfl) (show Rp.rp K (dom H0) Hq2 (V.int ((((if x1 < 0 then -x1 else x1) % (2147483587 : Int)) + ((31 : Int) * x_law_k)) + (5 : Int))) ((((if x1 < 0 then -x1 else x1) % (2147483587 : Int)) + ((31 : Int) * x_law_k)) + (5 : Int)) from rfl) (fun p9 Hq10 ex11 q12 => ?_)
      obtain rfl := si hm0
      exact kk _ _ (e3.trans ex11) (NwT.back q12 (fun a z => (e3.dom z)))
/-! _law_spoil, by hand: what it was handed is let go, so only what stands is told -/
abbrev Told := H5 (List Str) (List Str) (List Str) (List (List Int)) (List (Tup Int))
def m_law_spoil (x : Told) : Option Unit := some ()
def sp_law_spoil (K : PySem.W.Frag) : Sp := fun vs H Q _ => ∃ (A R : Av) (p : Addr) (x : Told) (r : Unit), vs = [V.ref p] ∧ Dm A H ∧ OwT K A R H p x ∧ m_law_spoil x = some r ∧ (∀ H', Kp R H H' → Q V.non H')
theorem fa_lists {K : PySem.W.Frag} {H : Hp} {vs : List V} {xs : List (List Int)} {F : Rg} (h : Fa (Tr.tr K H) vs xs F) : ∀ v ∈ vs, ∃ r ys, v = .ref r ∧ r ∈ F ∧ H r = some (.lst ys) ∧ ys.length ≤ big := by
  induction h with
  | nil => exact fun _ z => by cases z
  | cons p _ _ ih =>
    intro v hv
    rcases List.mem_cons.mp hv with hv | hv
    · obtain ⟨l, a, ys, G, e, h2, h3, _, h5⟩ := p
      exact ⟨a, ys, hv.trans e, List.mem_append.mpr (.inl (h3 ▸ List.mem_cons_self ..)), h2, h5.length ▸ l⟩
    · obtain ⟨r, ys, e, m, h2, l⟩ := ih v hv
      exact ⟨r, ys, e, List.mem_append.mpr (.inr m), h2, l⟩
/-- a list stands at b, of some length at most n -/
def isL (n : Nat) (H : Hp) (b : Addr) : Prop := ∃ ys, H b = some (.lst ys) ∧ ys.length ≤ n
theorem isL.put {n m : Nat} {H : Hp} {b c : Addr} {ys : List V} (h : isL n H b) (hy : ys.length ≤ m) (nm : n ≤ m) : isL m (upd H c (.lst ys)) b := by
  by_cases q : b = c
  · subst q
    exact ⟨ys, upd_same, hy⟩
  · obtain ⟨zs, e, l⟩ := h
    exact ⟨zs, by rw [upd_ne q]; exact e, Nat.le_trans l nm⟩
theorem isL.ty {K : PySem.W.Frag} {n : Nat} {H : Hp} {b : Addr} (h : isL n H b) : tyV K "list" (.ref b) H := by
  obtain ⟨ys, e, _⟩ := h
  exact .inl ⟨rfl, ys, SqL.of e⟩
abbrev N_law_spoil : List Str := ["_law_handed", "_law_row", "_law_some"]
theorem sc_law_spoil : FnScope N_law_spoil ["_law_handed"] (defScope s_law_spoil) := ⟨rfl, rfl, rfl, by decide +kernel, rfl, by decide +kernel, by decide +kernel⟩
/-- a for over a list of refs that stands at l: each is worked on, none of the work touches l -/
theorem for_refs {K : PySem.W.Frag} {g : TG} {tb : TS} {D : Ends} {σ : L2.St} {H : Hp} {l : Addr} {xs : List V} (I : Nat → L2.St → Hp → Prop) (h0 : I 0 σ H) (hI : ∀ i σ H, I i σ H → H l = some (.lst xs))
    (hs : ∀ i v σ H, i < xs.length → xs[i]? = some v → I i σ H → g v σ H fun σ2 H2 => tb { D with nx := I (i + 1), ct := I (i + 1), bk := D.nx } σ2 H2) (hd : ∀ σ H, I xs.length σ H → D.nx σ H) : ForQ g tb D σ (Itl K l) H := by
  refine ⟨fun i m σ H => m = xs.length - i ∧ i ≤ xs.length ∧ I i σ H, ⟨xs.length, by simp, Nat.zero_le _, h0⟩, ?_⟩
  rintro i m σ H ⟨rfl, hi, hi2⟩
  have sq : SqL K H l xs := SqL.of (hI i σ H hi2)
  by_cases hlt : i < xs.length
  · refine .inr ⟨⟨xs, xs[i], sq, List.getElem?_eq_getElem hlt⟩, I (i + 1), fun σ' H' q => ⟨xs.length - (i + 1), by omega, rfl, hlt, q⟩, fun v H' y => ?_⟩
    obtain ⟨rfl, y⟩ := y
    exact hs i v σ _ hlt (y xs sq) hi2
  · have ei : i = xs.length := by omega
    subst ei
    exact .inl ⟨⟨xs, sq, Nat.le_refl _⟩, hd σ H hi2⟩
theorem ok_law_spoil (T : Tx K mg a) : FnOk P w K mg base CX0 1 a.f_law_spoil a.d_law_spoil ["_law_handed"] (sp_law_spoil K) := by
  refine T.F_law_spoil.ok sc_law_spoil (fun vs H Q E h => ?_) (fun cdv A' outer s H0 vs Q E hr h => ?_)
  · obtain ⟨_, _, _, _, _, rfl, _⟩ := h
    rfl
  · obtain ⟨A, R, p, x, r, rfl, dm, o, _, kk⟩ := h
    refine ⟨_, (lSeq (pss_cons (qs_for PassesOwn.never rfl (lIList (K := K) (pi_list (lOp (pe_ix (kix_list (K := K) rfl) (qv (pv 0)) qe_int (fun _ _ => rfl))))) (lName (pg_name (i := 1) sc_law_spoil.nd rfl (Or.inl rfl))) (lSeq (pss_cons (lDrop (ps_expr (lBM0 (K := K) (pe_bm0 PySem.F.plainAttrs_list PySem.F.slot_list_reverse PySem.F.type_list_reverse mt_reverse (qv (pv 1)))))) (pss_one (lDrop (ps_expr (lBM (K := K) (pe_bm PySem.F.plainAttrs_list PySem.F.slot_list_append PySem.F.type_list_append mt_append (qv (pv 1)) (lCons (pa_cons qe_int (lNil pa_nil))))))))))) (lSeq (pss_cons (qs_for PassesOwn.never rfl (lIList (K := K) (pi_list (qv (pv 0)))) (lName (pg_name (i := 2) sc_law_spoil.nd rfl (Or.inl rfl))) (pss_one (lDrop (ps_expr (lBM0 (K := K) (pe_bm0 PySem.F.plainAttrs_list PySem.F.slot_list_reverse PySem.F.type_list_reverse mt_reverse (qv (pv 2)))))))) (pss_one (qs_for PassesOwn.never rfl (lIList (K := K) (pi_list (lSl (pe_slice (ksl_list (K := K) rfl) (qv (pv 0)) (lNoPart po_none) (lPart (po_some qe_int)))))) (lName (pg_name (i := 2) sc_law_spoil.nd rfl (Or.inl rfl))) (pss_one (lDrop (ps_expr (lBM0 (K := K) (pe_bm0 PySem.F.plainAttrs_list PySem.F.slot_list_clear PySem.F.type_list_clear mt_clear (qv (pv 2))))))))))))), ?_⟩
    obtain ⟨F, fr, p', v1, v2, v3, v4, v5, F1, F2, F3, F4, F5, ep, hp, rfl, ⟨q0, q1, q2, q3, q4⟩, t1, t2, t3, t4, t5⟩ := o.at_
    cases ep
    obtain ⟨l1, a1, x1, G1, rfl, h1, rfl, n1, f1⟩ := t1
    obtain ⟨l2, a2, x2, G2, rfl, h2, rfl, n2, f2⟩ := t2
    obtain ⟨l3, a3, x3, G3, rfl, h3, rfl, n3, f3⟩ := t3
    obtain ⟨l4, a4, x4, G4, rfl, h4, rfl, n4, f4⟩ := t4
    obtain ⟨l5, a5, x5, G5, rfl, h5, rfl, n5, f5⟩ := t5
    have rp : R p := fr p (List.mem_cons_self ..)
    have r1 : R a1 := fr a1 (by simp)
    have r2 : R a2 := fr a2 (by simp)
    have r3 : R a3 := fr a3 (by simp)
    have r4 : R a4 := fr a4 (by simp)
    have r5 : R a5 := fr a5 (by simp)
    have np : ∀ r ∈ G4, r ≠ p ∧ r ≠ a4 ∧ R r := fun r hr => ⟨fun z => q0 (by rw [← z]; simp [hr]), fun z => n4 (z ▸ hr), fr r (by simp [hr])⟩
    have pa : p ≠ a1 ∧ p ≠ a2 ∧ p ≠ a3 ∧ p ≠ a4 ∧ p ≠ a5 := ⟨fun z => q0 (by rw [z]; simp), fun z => q0 (by rw [z]; simp), fun z => q0 (by rw [z]; simp), fun z => q0 (by rw [z]; simp), fun z => q0 (by rw [z]; simp)⟩
    have fl := fa_lists f4
    have lx : x4.length ≤ big := f4.length ▸ l4
    have wr : ∀ {H : Hp} {b : Addr} {n : Nat} {ys : List V}, R b → isL n H b → Kp R H (upd H b (.lst ys)) := fun {H b n ys} rb ⟨zs, e, _⟩ => (Kp.write e fun z => z).mono fun c z => z ▸ rb
    -- for row in handed[3]
    refine ⟨_, rfl, p, _, 3, V.ref a4, rfl, rfl, SqL.of hp, rfl, a4, rfl, ⟨_, SqL.of h4⟩, ?_⟩
    refine for_refs (xs := x4) (fun i σ H => ∃ t, σ = [some (V.ref p), t, none] ∧ Kp R H0 H ∧ H p = some (.lst [V.ref a1, V.ref a2, V.ref a3, V.ref a4, V.ref a5]) ∧ H a4 = some (.lst x4) ∧ (∀ b, b = a1 ∨ b = a2 ∨ b = a3 ∨ b = a5 → isL (big + i) H b) ∧ ∀ v ∈ x4, ∃ r, v = .ref r ∧ r ∈ G4 ∧ isL (big + i) H r)
      ⟨_, rfl, Kp.refl _, hp, h4, fun b hb => ?_, fun v hv => ?_⟩ (fun i σ H ⟨_, _, _, _, h, _⟩ => h) (fun i v σ H hi hv ⟨t, es, k, ip, i4, ia, ir⟩ => ?_) (fun σ H ⟨t, es, k, ip, i4, ia, ir⟩ => ?_)
    · rcases hb with rfl | rfl | rfl | rfl
      · exact ⟨x1, h1, f1.length ▸ l1⟩
      · exact ⟨x2, h2, f2.length ▸ l2⟩
      · exact ⟨x3, h3, f3.length ▸ l3⟩
      · exact ⟨x5, h5, f5.length ▸ l5⟩
    · obtain ⟨r, ys, e, m, e2, l⟩ := fl v hv
      exact ⟨r, e, m, ys, e2, l⟩
    · subst es
      obtain ⟨r, rfl, m, ys, e, l⟩ := ir v (List.mem_of_getElem? hv)
      obtain ⟨nrp, nra, rr⟩ := np r m
      have e1 : (upd H r (.lst ys.reverse)) r = some (.lst ys.reverse) := upd_same
      refine ⟨_, rfl, isL.ty ⟨ys, e, l⟩, r, ys, rfl, rfl, e, ?_⟩
      refine ⟨_, rfl, isL.ty (n := big + i) ⟨ys.reverse, e1, by rw [List.length_reverse]; exact l⟩, r, ys.reverse, _, rfl, rfl, e1, ?_, ?_⟩
      · rw [List.length_reverse]
        have : i < big + 1 := by omega
        exact Nat.lt_of_le_of_lt l (Nat.lt_of_lt_of_le (Nat.add_lt_add_left this big) (by show 1000000 + (1000000 + 1) ≤ sizeLine; decide))
      · have l2 : (ys.reverse ++ [V.int 0]).length ≤ big + (i + 1) := by
          rw [List.length_append, List.length_reverse, List.length_singleton]
          omega
        refine ⟨_, rfl, (k.same (wr rr ⟨ys, e, l⟩)).same (wr (n := big + i) rr ⟨_, e1, by rw [List.length_reverse]; exact l⟩), ?_, ?_, fun b hb => ?_, fun v hv => ?_⟩
        · rw [upd_ne nrp.symm, upd_ne nrp.symm]
          exact ip
        · rw [upd_ne nra.symm, upd_ne nra.symm]
          exact i4
        · exact ((ia b hb).put (m := big + i) (by rw [List.length_reverse]; exact l) (Nat.le_refl _)).put l2 (by omega)
        · obtain ⟨r', e', m', i'⟩ := ir v hv
          exact ⟨r', e', m', (i'.put (m := big + i) (by rw [List.length_reverse]; exact l) (Nat.le_refl _)).put l2 (by omega)⟩
    -- for some in handed
    · subst es
      refine ⟨_, rfl, p, rfl, ⟨_, SqL.of ip⟩, ?_⟩
      have all0 : ∀ b, b = a1 ∨ b = a2 ∨ b = a3 ∨ b = a4 ∨ b = a5 → isL (big + x4.length) H b := fun b hb => by
        rcases hb with hb | hb | hb | hb | hb
        · exact ia b (.inl hb)
        · exact ia b (.inr (.inl hb))
        · exact ia b (.inr (.inr (.inl hb)))
        · exact hb ▸ ⟨x4, i4, by omega⟩
        · exact ia b (.inr (.inr (.inr hb)))
      refine for_refs (xs := [V.ref a1, V.ref a2, V.ref a3, V.ref a4, V.ref a5]) (fun _ σ H => ∃ t u, σ = [some (V.ref p), t, u] ∧ Kp R H0 H ∧ H p = some (.lst [V.ref a1, V.ref a2, V.ref a3, V.ref a4, V.ref a5]) ∧ ∀ b, b = a1 ∨ b = a2 ∨ b = a3 ∨ b = a4 ∨ b = a5 → isL (big + x4.length) H b)
        ⟨_, _, rfl, k, ip, all0⟩ (fun i σ H ⟨_, _, _, _, h, _⟩ => h) (fun i v σ H hi hv ⟨t, u, es, k, ip, ia⟩ => ?_) (fun σ H ⟨t, u, es, k, ip, ia⟩ => ?_)
      · subst es
        have hm : ∃ b, v = .ref b ∧ (b = a1 ∨ b = a2 ∨ b = a3 ∨ b = a4 ∨ b = a5) := by
          have := List.mem_of_getElem? hv
          simp only [List.mem_cons, List.not_mem_nil, or_false] at this
          rcases this with rfl | rfl | rfl | rfl | rfl
          · exact ⟨a1, rfl, .inl rfl⟩
          · exact ⟨a2, rfl, .inr (.inl rfl)⟩
          · exact ⟨a3, rfl, .inr (.inr (.inl rfl))⟩
          · exact ⟨a4, rfl, .inr (.inr (.inr (.inl rfl)))⟩
          · exact ⟨a5, rfl, .inr (.inr (.inr (.inr rfl)))⟩
        obtain ⟨b, rfl, hb⟩ := hm
        have rb : R b := by rcases hb with rfl | rfl | rfl | rfl | rfl <;> assumption
        have nb : p ≠ b := by
          rcases hb with rfl | rfl | rfl | rfl | rfl
          · exact pa.1
          · exact pa.2.1
          · exact pa.2.2.1
          · exact pa.2.2.2.1
          · exact pa.2.2.2.2
        obtain ⟨ys, e, l⟩ := id (ia b hb)
        refine ⟨_, rfl, (ia b hb).ty, b, ys, rfl, rfl, e, _, _, rfl, k.same (wr rb (ia b hb)), by rw [upd_ne nb]; exact ip, fun c hc => (ia c hc).put (by rw [List.length_reverse]; exact l) (Nat.le_refl _)⟩
      -- for some in handed[:2]
      · subst es
        refine ⟨_, rfl, _, rfl, p, _, rfl, SqL.of ip, fun q hq => ?_⟩
        have kq : Kp R H (upd H q (.lst (cutV [V.ref a1, V.ref a2, V.ref a3, V.ref a4, V.ref a5] none (some 2)))) := (Ex.new hq).kp
        have nq : ∀ {b : Addr} {n : Nat}, isL n H b → b ≠ q := fun {b n} ⟨ys, e, _⟩ z => by
          rw [z, hq] at e
          cases e
        refine ⟨q, rfl, ⟨_, SqL.of upd_same⟩, ?_⟩
        refine for_refs (xs := [V.ref a1, V.ref a2]) (fun _ σ H => ∃ t u, σ = [some (V.ref p), t, u] ∧ Kp R H0 H ∧ H q = some (.lst [V.ref a1, V.ref a2]) ∧ ∀ b, b = a1 ∨ b = a2 → b ≠ q ∧ isL (big + x4.length) H b)
          ⟨_, _, rfl, k.same kq, upd_same, fun b hb => ?_⟩ (fun i σ H ⟨_, _, _, _, h, _⟩ => h) (fun i v σ H hi hv ⟨t, u, es, k, ip, ia⟩ => ?_) (fun σ H ⟨t, u, es, k, ip, ia⟩ => ?_)
        · have ib := ia b (hb.imp id fun z => .inl z)
          obtain ⟨ys, e, l⟩ := id ib
          exact ⟨nq ib, ys, by rw [upd_ne (nq ib)]; exact e, l⟩
        · subst es
          have hm : ∃ b, v = .ref b ∧ (b = a1 ∨ b = a2) := by
            have := List.mem_of_getElem? hv
            simp only [List.mem_cons, List.not_mem_nil, or_false] at this
            rcases this with rfl | rfl
            · exact ⟨a1, rfl, .inl rfl⟩
            · exact ⟨a2, rfl, .inr rfl⟩
          obtain ⟨b, rfl, hb⟩ := hm
          have rb : R b := by rcases hb with rfl | rfl <;> assumption
          obtain ⟨nb, ib⟩ := ia b hb
          obtain ⟨ys, e, l⟩ := id ib
          exact ⟨_, rfl, ib.ty, b, ys, rfl, rfl, e, _, _, rfl, k.same (wr rb ib), by rw [upd_ne nb.symm]; exact ip, fun c hc => ⟨(ia c hc).1, (ia c hc).2.put (Nat.zero_le _) (Nat.le_refl _)⟩⟩
        · exact kk _ k

/-! _law_draw -/
def m_law_draw (x_law_pot_here : (H2 Int Int)) (x_law_many : Int) : Option (Int × (H2 Int Int)) :=
  if decide (x_law_pot_here.a > (0 : Int)) = true then (divO x_law_pot_here.a x_law_many).bind fun x6 => some ((⟨x_law_pot_here.a / x_law_many, x_law_pot_here.a % x_law_many⟩ : T2 Int Int).b, ({ x_law_pot_here with a := (⟨x_law_pot_here.a / x_law_many, x_law_pot_here.a % x_law_many⟩ : T2 Int Int).a } : (H2 Int Int))) else (mulO ({ x_law_pot_here with b := (((x_law_pot_here.b * (48271 : Int)) + (3571 : Int)) % (2147483647 : Int)) } : (H2 Int Int)).b ({ x_law_pot_here with b := (((x_law_pot_here.b * (48271 : Int)) + (3571 : Int)) % (2147483647 : Int)) } : (H2 Int Int)).b).bind fun x27 => (modO ((x27 % (2147483629 : Int)) / (13 : Int)) x_law_many).bind fun x28 => some (x28, ({ x_law_pot_here with b := (((x_law_pot_here.b * (48271 : Int)) + (3571 : Int)) % (2147483647 : Int)) } : (H2 Int Int)))
def sp_law_draw (K : PySem.W.Frag) : Sp := fun vs H Q _ => ∃ (A : Av) (p_law_pot_here : Addr) (x_law_pot_here : (H2 Int Int)) (x_law_many : Int) (r : (Int × (H2 Int Int))), vs = [V.ref p_law_pot_here, (V.int x_law_many)] ∧ Dm A H ∧ Own K A H p_law_pot_here x_law_pot_here ∧ m_law_draw x_law_pot_here x_law_many = some r ∧ (∀ H', Kp (c1 p_law_pot_here) H H' → Own K A H' p_law_pot_here r.2 → Q (V.int r.1) H')
abbrev N_law_draw : List Str := ["_law_pot_here", "_law_many", "_law_digit"]
theorem sc_law_draw : FnScope N_law_draw ["_law_pot_here", "_law_many"] (defScope s_law_draw) := ⟨rfl, rfl, rfl, by decide +kernel, rfl, by decide +kernel, by decide +kernel⟩
theorem ok_law_draw (T : Tx K mg a) : FnOk P w K mg base CX0 1 a.f_law_draw a.d_law_draw ["_law_pot_here", "_law_many"] (sp_law_draw K) := by
  refine T.F_law_draw.ok sc_law_draw (fun vs H Q E h => ?_) (fun cdv A' outer s H0 vs Q E hr h => ?_)
  · obtain ⟨_, _, _, _, _, rfl, _⟩ := h
    rfl
  · obtain ⟨A, p_law_pot_here, x_law_pot_here, x_law_many, r, rfl, dm, o_law_pot_here, hm0, kk⟩ := h
    refine ⟨_, (lSeq (pss_cons (lIf (ps_if (lOpT (pt_cmpR op_gt (lOp (pe_ix (kix_list (K := K) rfl) (qv (pv 0)) qe_int (fun _ _ => rfl))) qe_int (nomark _))) (lSeq (pss_cons (lAsg (ps_asg (lCB (pe_callB q_divmod (by rfl) T.z_divmod (by decide +kernel) (lCons (pa_cons (lOp (pe_ix (kix_list (K := K) rfl) (qv (pv 0)) qe_int (fun _ _ => rfl))) (lCons (pa_cons (qv (pv 1)) (lNil pa_nil))))))) (lTupG (K := K) (pg_tup (n := 2) rfl (lGCons (pgs_cons (lSubG (pg_sub (qv (pv 0)) qe_int set_list)) (lGCons (pgs_cons (lName (pg_name (i := 2) sc_law_draw.nd rfl (Or.inl rfl))) (lGNil pgs_nil))))))))) (pss_one (lRet (ps_ret (qv (pv 2))))))) (lNext pss_nil))) (lSeq (pss_cons (lAsg (ps_asg (lOp (pe_op op_mod (lOp (pe_op op_add (lOp (pe_op op_mul (lOp (pe_ix (kix_list (K := K) rfl) (qv (pv 0)) qe_int (fun _ _ => rfl))) qe_int)) qe_int)) qe_int)) (lSubG (pg_sub (qv (pv 0)) qe_int set_list)))) (pss_one (lRet (ps_ret (lOp (pe_op op_mod (lOp (pe_op op_fdiv (lOp (pe_op op_mod (lOp (pe_op op_mul (lOp (pe_ix (kix_list (K := K) rfl) (qv (pv 0)) qe_int (fun _ _ => rfl))) (lOp (pe_ix (kix_list (K := K) rfl) (qv (pv 0)) qe_int (fun _ _ => rfl))))) qe_int)) qe_int)) (qv (pv 1))))))))))), ?_⟩
    unfold m_law_draw at hm0
    refine ⟨_, rfl, ?_⟩
    refine g_O2_a o_law_pot_here (fun u1 q2 => ?_)
    obtain rfl := q2
    refine ⟨_, _, rfl, rfl, _, rfl, ?_⟩
    refine ite2 (fun c3 => ?_) (fun c3 => ?_)
    · replace hm0 := ifT c3 hm0
      refine ⟨_, rfl, ?_⟩
      refine g_O2_a o_law_pot_here (fun u4 q5 => ?_)
      obtain rfl := q5
      refine ⟨_, rfl, ?_⟩
      obtain ⟨x6, h_x6, hm0⟩ := ob hm0
      obtain ⟨c_x6, _⟩ := divO_of h_x6
      refine g_divmod (K := K) (L := (dom H0)) c_x6 (fun u7 Hq8 ex9 q10 => ?_)
      refine g_unT2 q10 (fun u11 q13 u12 q14 => ?_)
      obtain rfl := q13
      obtain rfl := q14
      refine ⟨_, _, rfl, _, rfl, ?_⟩
      refine g_set2_a (d := (⟨x_law_pot_here.a / x_law_many, x_law_pot_here.a % x_law_many⟩ : T2 Int Int).a) (o_law_pot_here.ex ex9) rfl (fun Hq15 k16 o17 => ?_)
      refine ⟨_, _, rfl, rfl, _, rfl, ?_⟩
      obtain rfl := si hm0
      exact kk _ (((Kp.refl _).then ex9).trans k16 (fun x z => .inl z)) o17
    · replace hm0 := ifF c3 hm0
      refine ⟨_, rfl, ?_⟩
      refine g_O2_b o_law_pot_here (fun u18 q19 => ?_)
      obtain rfl := q19
      refine ⟨_, _, rfl, rfl, (.inr ⟨by decide, by decide⟩), _, _, rfl, rfl, _, _, rfl, rfl, (show (0 : Int) < (2147483647 : Int) from by decide), _, rfl, ?_⟩
      refine g_set2_b (d := (((x_law_pot_here.b * (48271 : Int)) + (3571 : Int)) % (2147483647 : Int))) o_law_pot_here rfl (fun Hq20 k21 o22 => ?_)
      refine ⟨_, rfl, ?_⟩
      refine g_O2_b o22 (fun u23 q24 => ?_)
      obtain rfl := q24
      refine ⟨_, rfl, ?_⟩
      refine g_O2_b o22 (fun u25 q26 => ?_)
      obtain rfl := q26
      obtain ⟨x27, h_x27, hm0⟩ := ob hm0
      obtain ⟨c_x27, rfl⟩ := mulO_of h_x27
      obtain ⟨x28, h_x28, hm0⟩ := ob hm0
      obtain ⟨c_x28, rfl⟩ := modO_of h_x28
      refine ⟨_, _, rfl, rfl, c_x27, _, _, rfl, rfl, (show (0 : Int) < (2147483629 : Int) from by decide), _, _, rfl, rfl, (show (0 : Int) < (13 : Int) ∧ (13 : Int) < 1073741824 from ⟨by decide, by decide⟩), _, rfl, _, _, rfl, rfl, c_x28, ?_⟩
      obtain rfl := si hm0
      exact kk _ ((Kp.refl _).trans k21 (fun x z => .inl z)) o22
/-! _law_rows -/
def m_law_rows_1 (d : Int) : Option ((List Int)) :=
  some ([] : (List Int))
def m_law_rows_2 (s : (H2 Int Int)) (d : Int) : Option (Int × (H2 Int Int)) :=
  some (d, s)
def m_law_rows_3 (s : (H2 Int Int)) (d : Int) : Option (Bool × (H2 Int Int)) :=
  (m_law_draw s (2 : Int)).bind fun r39 => some ((decide (r39.1 = (1 : Int))), r39.2)
def m_law_rows_4 (v_law_stay : (List Int)) (s : ((H2 Int Int) × (List (List Int)))) (d : Int) : Option ((H2 Int Int) × (List (List Int))) :=
  (atI s.2 d).bind fun x101 => (if (decide (d ∈ v_law_stay)) = true then some (d, s.1) else (m_law_draw s.1 ((v_law_stay).length : Int)).bind fun r107 => (atI v_law_stay r107.1).bind fun x111 => some (x111, r107.2)).bind fun x102 => (appO x101 x102.1).bind fun x118 => some (x102.2, (setI s.2 d x118))
def m_law_rows_5 (v_law_many : Int) (s : ((H2 Int Int) × (List (List Int)))) (d : Int) : Option ((H2 Int Int) × (List (List Int))) :=
  (rng1 v_law_many).bind fun x38 => (filtS (m_law_rows_3) (m_law_rows_2) (s.1) x38).bind fun x43 => ((eqD x43.1 ([] : (List Int))).bind fun x82 => if (x82) = true then (m_law_draw x43.2 v_law_many).bind fun r84 => some ([r84.1], r84.2) else some (x43.1, x43.2)).bind fun x76 => (rng1 v_law_many).bind fun x98 => (foldO (m_law_rows_4 x76.1) (x76.2, s.2) x98).bind fun x119 => some (x119.1, x119.2)
def m_law_rows_6 (s : (H2 Int Int)) (d : Int) : Option (Int × (H2 Int Int)) :=
  some (d, s)
def m_law_rows_7 (s : (H2 Int Int)) (d : Int) : Option (Bool × (H2 Int Int)) :=
  (m_law_draw s (2 : Int)).bind fun r188 => some ((decide (r188.1 = (1 : Int))), r188.2)
def m_law_rows_8 (v_law_stay : (List Int)) (s : ((H2 Int Int) × (List (List Int)))) (d : Int) : Option ((H2 Int Int) × (List (List Int))) :=
  (atI s.2 d).bind fun x250 => (if (decide (d ∈ v_law_stay)) = true then some (d, s.1) else (m_law_draw s.1 ((v_law_stay).length : Int)).bind fun r256 => (atI v_law_stay r256.1).bind fun x260 => some (x260, r256.2)).bind fun x251 => (appO x250 x251.1).bind fun x267 => some (x251.2, (setI s.2 d x267))
def m_law_rows (x_law_pot_here : (H2 Int Int)) (x_law_many : Int) (x_law_letters : Int) : Option ((List (List Int)) × (H2 Int Int)) :=
  (rng1 x_law_many).bind fun x1 => (mapO (m_law_rows_1) x1).bind fun x7 => (rng1 x_law_letters).bind fun x37 => (foldO (m_law_rows_5 x_law_many) (x_law_pot_here, x7) x37).bind fun x165 => some (x165.2, x165.1)
def sp_law_rows (K : PySem.W.Frag) : Sp := fun vs H Q _ => ∃ (A : Av) (p_law_pot_here : Addr) (x_law_pot_here : (H2 Int Int)) (x_law_many : Int) (x_law_letters : Int) (r : ((List (List Int)) × (H2 Int Int))), vs = [V.ref p_law_pot_here, (V.int x_law_many), (V.int x_law_letters)] ∧ Dm A H ∧ Own K A H p_law_pot_here x_law_pot_here ∧ m_law_rows x_law_pot_here x_law_many x_law_letters = some r ∧ (∀ v H', Kp (c1 p_law_pot_here) H H' → Own K A H' p_law_pot_here r.2 → (∀ B, Dm B H → Rp.rp K B H' v r.1) → Q v H')
abbrev N_law_rows : List Str := ["_law_pot_here", "_law_many", "_law_letters", "_law_rows_here", "_law_x", "_law_stay", "_law_s"]
theorem sc_law_rows : FnScope N_law_rows ["_law_pot_here", "_law_many", "_law_letters"] (defScope s_law_rows) := ⟨rfl, rfl, rfl, by decide +kernel, rfl, by decide +kernel, by decide +kernel⟩
theorem ok_law_rows (T : Tx K mg a) : FnOk P w K mg base CX0 2 a.f_law_rows a.d_law_rows ["_law_pot_here", "_law_many", "_law_letters"] (sp_law_rows K) := by
  have G_law_draw := ok_law_draw (P := P) (w := w) (base := base) T
  refine T.F_law_rows.ok sc_law_rows (fun vs H Q E h => ?_) (fun cdv A' outer s H0 vs Q E hr h => ?_)
  · obtain ⟨_, _, _, _, _, _, rfl, _⟩ := h
    rfl
  · obtain ⟨A, p_law_pot_here, x_law_pot_here, x_law_many, x_law_letters, r, rfl, dm, o_law_pot_here, hm0, kk⟩ := h
    refine ⟨_, (lSeq (pss_cons (qs_setLc (i := 3) (own := [("_law_s", 6)]) (g := fun v σ H Q => Q (σ.set 6 (some v)) H) (tt := tYes) rfl sc_law_rows.nd rfl rfl (sw_true rfl rfl rfl (by decide +kernel)) (lIRng1 (pi_range1 rfl T.z_range (lCons (pa_cons (qv (pv 1)) (lNil pa_nil))))) (blkOk_by (N := N_law_rows) (sc := (defScope s_law_rows)) (by decide +kernel)) (fun _ _ _ _ _ => (lName (pg_name (i := 6) sc_law_rows.nd rfl (Or.inl rfl)))) (fun _ _ _ _ _ => pts_nil) (fun _ _ _ _ _ => (qe_lst (lNil pa_nil)))) (lSeq (pss_cons (qs_for PassesOwn.never rfl (lIRng1 (pi_range1 rfl T.z_range (lCons (pa_cons (qv (pv 2)) (lNil pa_nil))))) (lName (pg_name (i := 4) sc_law_rows.nd rfl (Or.inl rfl))) (lSeq (pss_cons (qs_setLc (i := 5) (own := [("_law_s", 6)]) (g := fun v σ H Q => Q (σ.set 6 (some v)) H) (tt := _) rfl sc_law_rows.nd rfl rfl (sw_true rfl rfl rfl (by decide +kernel)) (lIRng1 (pi_range1 rfl T.z_range (lCons (pa_cons (qv (pv 1)) (lNil pa_nil))))) (blkOk_by (N := N_law_rows) (sc := (defScope s_law_rows)) (by decide +kernel)) (fun _ _ _ _ _ => (lName (pg_name (i := 6) sc_law_rows.nd rfl (Or.inl rfl)))) (fun _ _ _ _ _ => (pts_one (lCmpT (pt_cmp (pc_eqI (lCall (pe_call G_law_draw (hr.mono (by decide)) rfl T.g_law_draw T.F_law_draw.kp T.b_law_draw .nil pass0 (lCons (pa_cons (qv (pv 0)) (lCons (pa_cons qe_int (lNil pa_nil))))))) qe_int))))) (fun _ _ _ _ _ => (qv (pv 6)))) (pss_cut (lIf (ps_if (lOpT (pt_cmpR (kop_eqD (K := K) rfl hr.units) (qv (pv 5)) (qe_lst (lNil pa_nil)) (nomark _))) (pss_one (lSet (ps_set (i := 5) sc_law_rows.nd rfl (Or.inl rfl) (qe_lst (lCons (pa_cons (lCall (pe_call G_law_draw (hr.mono (by decide)) rfl T.g_law_draw T.F_law_draw.kp T.b_law_draw .nil pass0 (lCons (pa_cons (qv (pv 0)) (lCons (pa_cons (qv (pv 1)) (lNil pa_nil))))))) (lNil pa_nil))))))) (lNext pss_nil))) (pss_one (qs_for PassesOwn.never rfl (lIRng1 (pi_range1 rfl T.z_range (lCons (pa_cons (qv (pv 1)) (lNil pa_nil))))) (lName (pg_name (i := 6) sc_law_rows.nd rfl (Or.inl rfl))) (pss_one (lDrop (ps_expr (lBM (K := K) (pe_bm PySem.F.plainAttrs_list PySem.F.slot_list_append PySem.F.type_list_append mt_append (lOp (pe_ix (kix_list (K := K) rfl) (qv (pv 3)) (qv (pv 6)) (fun _ _ => rfl))) (lCons (pa_cons (pe_cut (lIfE (pe_ifExp (lOpT (pt_cmpR (kop_in_seq (K := K) rfl) (qv (pv 6)) (qv (pv 5)) (by rfl))) (qv (pv 6)) (lOp (pe_ix (kix_list (K := K) rfl) (qv (pv 5)) (lCall (pe_call G_law_draw (hr.mono (by decide)) rfl T.g_law_draw T.F_law_draw.kp T.b_law_draw .nil pass0 (lCons (pa_cons (qv (pv 0)) (lCons (pa_cons (lCB (pe_callB (kq_len (K := K) rfl) (by rfl) T.z_len (by decide +kernel) (lCons (pa_cons (qv (pv 5)) (lNil pa_nil))))) (lNil pa_nil))))))) (fun _ _ => rfl)))))) (lNil pa_nil)))))))))))))) (pss_one (lRet (ps_ret (qv (pv 3))))))))), ?_⟩
    unfold m_law_rows at hm0
    obtain ⟨x1, h_x1, hm0⟩ := ob hm0
    obtain ⟨c_x1, rfl⟩ := rng1_of h_x1
    obtain ⟨x7, h_x7, hm0⟩ := ob hm0
    refine ⟨_, rfl, _, rfl, (rng_b c_x1.1).1, (rng_b c_x1.1).2, ?_⟩
    refine lc_t (K := K) (B := (dom H0)) (TW.range 0 (x_law_many).toNat) (m_law_rows_1) x7 h_x7 c_x1.2 ?_ ?_
    · intro D8 hD9 d10 y11 v12 Hq13 hy17 k18 hDn21 q19 M15 hM16
      obtain rfl := q19
      unfold m_law_rows_1 at hy17
      refine ⟨rfl, ?_⟩
      refine g_mkL (K := K) (L := (ins D8 (dom H0))) (ds := ([] : (List Int))) (show 0 ≤ big by decide) Paired.nil (fun p23 Hq24 hp25 ex26 n27 => ?_)
      obtain rfl := si hy17
      exact hM16 _ _ ex26 (nwt_nil n27 hp25)
    · rintro D28 Hq29 hD30 e31 n32
      have e36 := e31
      obtain ⟨R33, f34, o35⟩ := NwT.take (A := (dom H0)) n32
      obtain ⟨x37, h_x37, hm0⟩ := ob hm0
      obtain ⟨c_x37, rfl⟩ := rng1_of h_x37
      obtain ⟨x165, h_x165, hm0⟩ := ob hm0
      refine ⟨_, rfl, _, rfl, (rng_b c_x37.1).1, (rng_b c_x37.1).2, ?_⟩
      refine for_f (K := K) (A := (un R33 (dom H0))) (TW.range 0 (x_law_letters).toNat) (m_law_rows_5 x_law_many) (x_law_pot_here, x7) x165 h_x165 (fun (s' : ((H2 Int Int) × (List (List Int)))) σ' H' => ∃ t_law_x : Option V, ∃ t_law_stay : Option V, ∃ t_law_s : Option V, σ' = [some (V.ref p_law_pot_here), some (V.int x_law_many), some (V.int x_law_letters), some (V.ref D28), t_law_x, t_law_stay, t_law_s] ∧ Kp (un (c1 p_law_pot_here) R33) Hq29 H' ∧ Own K (un R33 A) H' p_law_pot_here s'.1 ∧ OwT K (un R33 (dom H0)) R33 H' D28 s'.2) ?_ (fun _ _ _ ⟨_, _, _, _, k, _, _⟩ => ⟨_, Kp.le k (un_sub (avi o_law_pot_here.lv) av0)⟩) ?_ ?_
      · exact ⟨_, _, _, rfl, Kp.refl _, (((o_law_pot_here.un f34).ex e36)), (o35)⟩
      · rintro s167 d168 s183 v169 σ170 Hq171 Hq172 ⟨t176, t177, t178, rfl, k175, o179, o180⟩ hf181 e173 q174
        have q184 := q174 _ (k175.le (un_sub (avi o_law_pot_here.lv) av0))
        obtain rfl := q184
        unfold m_law_rows_5 at hf181
        obtain ⟨x187, h_x187, hf181⟩ := ob hf181
        obtain ⟨c_x187, rfl⟩ := rng1_of h_x187
        obtain ⟨x192, h_x192, hf181⟩ := ob hf181
        refine ⟨_, rfl, _, rfl, (rng_b c_x187.1).1, (rng_b c_x187.1).2, ?_⟩
        refine lc_g (K := K) (A := (un R33 (dom H0))) (B := (un R33 (dom H0))) (TW.range 0 (x_law_many).toNat) (m_law_rows_7) (m_law_rows_6) (s167.1) x192 h_x192 c_x187.2 (c1 p_law_pot_here) (fun a z => ⟨(avi o_law_pot_here.lv) _ z, (avi o_law_pot_here.lv) _ z, ((o179.ex e173)).lv _ z⟩) (fun B' s' H' => Own K B' H' p_law_pot_here s') (fun _ _ s' H' H'' i e l b => i.le l (fun a z => e a z) (fun a z => b a z)) ((o179.ex e173).any (avi o_law_pot_here.lv)) ?_ ?_
        · intro D193 hD194 s207 d195 b208 v197 Hq198 hb209 i_i205 k203 hDn206 q204 N199 M200 hN210 hM201 hE211
          have i_i205_0 := i_i205
          obtain rfl := q204
          unfold m_law_rows_7 at hb209
          refine ⟨rfl, ?_⟩
          obtain ⟨r212, h_r212, hb209⟩ := ob hb209
          refine ⟨_, rfl, (ins D193 (un R33 (dom H0))), p_law_pot_here, s207, (2 : Int), r212, rfl, ((((((Dm.dom.ex e36).un o35.lv).kp k175).ex e173).kp k203).ins hDn206), i_i205_0, h_r212, fun Hq213 k214 o215 => ?_⟩
          refine ⟨_, _, rfl, rfl, _, rfl, ?_⟩
          obtain rfl := si hb209
          refine ite2 (fun c216 => ?_) (fun c216 => ?_)
          · obtain ⟨y217, h218⟩ := hE211 c216
            have h218' := h218
            unfold m_law_rows_6 at h218
            refine ⟨_, rfl, ?_⟩
            obtain rfl := si h218
            exact hM201 _ c216 h218' _ _ ((Kp.refl _).trans k214 (fun x z => .inl z)) (o215) rfl
          · exact hN210 (Bool.eq_false_iff.mpr c216) _ ((Kp.refl _).trans k214 (fun x z => .inl z)) (o215)
        · rintro D219 Hq220 hD221 e222 o224 n223
          obtain ⟨x225, h_x225, hf181⟩ := ob hf181
          refine ⟨fun σ' H' => ∃ w_law_stay : V, σ' = [some (V.ref p_law_pot_here), some (V.int x_law_many), some (V.int x_law_letters), some (V.ref D28), some (V.int d168), some w_law_stay, t178] ∧ Kp (c1 p_law_pot_here) Hq220 H' ∧ Rp.rp K (un R33 (dom H0)) H' w_law_stay x225.1 ∧ Own K (un R33 (dom H0)) H' p_law_pot_here x225.2, ?_, ?_⟩
          · refine ⟨_, rfl, ?_⟩
            refine g_mkL (K := K) (L := (un R33 (dom H0))) (ds := ([] : (List Int))) (show 0 ≤ big by decide) Paired.nil (fun p226 Hq227 hp228 ex229 n230 => ?_)
            obtain ⟨x231, h_x231, h_x225⟩ := ob h_x225
            obtain ⟨c_x231, rfl⟩ := eqD_of h_x231
            refine g_eqD (x := x192.1) (y := ([] : (List Int))) (Rp.le ex229.le (n223.rp (((((Dm.dom.ex e36).un o35.lv).kp k175).ex e173).not hD221))) (n230.rp ((((((Dm.dom.ex e36).un o35.lv).kp k175).ex e173).kp e222).not hp228)) c_x231 (by decide) ?_
            refine ⟨_, rfl, ?_⟩
            refine ite2 (fun c232 => ?_) (fun c232 => ?_)
            · replace h_x225 := ifT c232 h_x225
              obtain ⟨r233, h_r233, h_x225⟩ := ob h_x225
              refine ⟨_, rfl, _, rfl, (un R33 (dom H0)), p_law_pot_here, x192.2, x_law_many, r233, rfl, ((((((Dm.dom.ex e36).un o35.lv).kp k175).ex e173).kp e222).ex ex229), (o224.ex ex229), h_r233, fun Hq234 k235 o236 => ?_⟩
              refine g_mkL (K := K) (L := (un R33 (dom H0))) (ds := [r233.1]) (show 1 ≤ big by decide) (Paired.cons rfl Paired.nil) (fun p237 Hq238 hp239 ex240 n241 => ?_)
              obtain rfl := si h_x225
              exact ⟨_, rfl, ((((Kp.refl _).then ex229).trans k235 (fun x z => .inl z)).then ex240), (n241.rp ((((((((Dm.dom.ex e36).un o35.lv).kp k175).ex e173).kp e222).ex ex229).kp k235).not hp239)), ((o236.ex ex240))⟩
            · replace h_x225 := ifF c232 h_x225
              obtain rfl := si h_x225
              exact ⟨_, rfl, ex229.kp, (Rp.le ex229.le (n223.rp (((((Dm.dom.ex e36).un o35.lv).kp k175).ex e173).not hD221))), ((o224.ex ex229))⟩
          · rintro _ Hq242 ⟨u245, rfl, e243, q246, o244⟩
            obtain ⟨x247, h_x247, hf181⟩ := ob hf181
            obtain ⟨c_x247, rfl⟩ := rng1_of h_x247
            obtain ⟨x268, h_x268, hf181⟩ := ob hf181
            refine ⟨_, rfl, _, rfl, (rng_b c_x247.1).1, (rng_b c_x247.1).2, ?_⟩
            refine for_f (K := K) (A := (un R33 (dom H0))) (TW.range 0 (x_law_many).toNat) (m_law_rows_8 x225.1) (x225.2, s167.2) x268 h_x268 (fun (s' : ((H2 Int Int) × (List (List Int)))) σ' H' => ∃ t_law_s : Option V, σ' = [some (V.ref p_law_pot_here), some (V.int x_law_many), some (V.int x_law_letters), some (V.ref D28), some (V.int d168), some u245, t_law_s] ∧ Kp (un (c1 p_law_pot_here) R33) Hq242 H' ∧ Own K (un R33 (dom H0)) H' p_law_pot_here s'.1 ∧ OwT K (un R33 (dom H0)) R33 H' D28 s'.2) ?_ (fun _ _ _ ⟨_, _, k, _, _⟩ => ⟨_, Kp.le k (un_sub (avi o_law_pot_here.lv) av0)⟩) ?_ ?_
            · exact ⟨_, rfl, Kp.refl _, (o244), ((((o180.ex e173).kp e222 (avi o_law_pot_here.lv) (Dj.symm (Dj.fresh o_law_pot_here.lv f34))).kp e243 (avi o_law_pot_here.lv) (Dj.symm (Dj.fresh o_law_pot_here.lv f34))))⟩
            · rintro s270 d271 s284 v272 σ273 Hq274 Hq275 ⟨t279, rfl, k278, o280, o281⟩ hf282 e276 q277
              have q285 := q277 _ (k278.le (un_sub (avi o_law_pot_here.lv) av0))
              obtain rfl := q285
              unfold m_law_rows_8 at hf282
              obtain ⟨x290, h_x290, hf282⟩ := ob hf282
              refine ⟨_, rfl, _, rfl, ?_⟩
              refine z_ix (o281.ex e276).zm h_x290 (fun w288 z289 => ?_)
              obtain ⟨x291, h_x291, hf282⟩ := ob hf282
              refine ⟨(z289).ty, ?_⟩
              refine ⟨fun v H' => v = (V.int x291.1) ∧ Kp (c1 p_law_pot_here) Hq275 H' ∧ Own K (un R33 (dom H0)) H' p_law_pot_here x291.2, ?_, ?_⟩
              · refine ⟨_, rfl, _, rfl, ?_⟩
                refine g_in_int (rp_lst' (Rp.le ((k278.le (un_sub (avi o_law_pot_here.lv) av0)).trans e276.le) q246)).sq ?_
                refine ⟨_, rfl, ?_⟩
                refine ite2 (fun c295 => ?_) (fun c295 => ?_)
                · replace h_x291 := ifT c295 h_x291
                  refine ⟨_, rfl, ?_⟩
                  obtain rfl := si h_x291
                  exact ⟨rfl, (Ex.refl _).kp, ((o280.ex e276))⟩
                · replace h_x291 := ifF c295 h_x291
                  refine ⟨_, rfl, _, rfl, _, rfl, ?_⟩
                  refine g_len (rp_lst' (Rp.le ((k278.le (un_sub (avi o_law_pot_here.lv) av0)).trans e276.le) q246)) ?_
                  obtain ⟨r296, h_r296, h_x291⟩ := ob h_x291
                  refine ⟨(un R33 (dom H0)), p_law_pot_here, s270.1, ((x225.1).length : Int), r296, rfl, ((((((((Dm.dom.ex e36).un o35.lv).kp k175).ex e173).kp e222).kp e243).kp k278).ex e276), (o280.ex e276), h_r296, fun Hq297 k298 o299 => ?_⟩
                  obtain ⟨x300, h_x300, h_x291⟩ := ob h_x291
                  refine g_ix (rp_lst' (Rp.le (((k278.le (un_sub (avi o_law_pot_here.lv) av0)).trans e276.le).trans (k298.le (avi o_law_pot_here.lv))) q246)) h_x300 (fun u301 q302 => ?_)
                  obtain rfl := q302
                  obtain rfl := si h_x291
                  exact ⟨rfl, ((Kp.refl _).trans k298 (fun x z => .inl z)), (o299)⟩
              · rintro _ Hq292 ⟨rfl, e293, o303⟩
                obtain ⟨x307, h_x307, hf282⟩ := ob hf282
                obtain ⟨c_x307, rfl⟩ := appO_of h_x307
                refine z_app (B := (un R33 (dom H0))) (z289.kp e293 (avi o_law_pot_here.lv) (Dj.symm (Dj.fresh o_law_pot_here.lv f34))) rfl c_x307 (fun Hq304 k305 z306 => ?_)
                obtain rfl := si hf282
                exact ⟨_, rfl, (((((Kp.refl _).trans k278 (fun x z => z.elim (fun z => .inl (.inl z)) (fun z => .inl (.inr z)))).then e276).trans e293 (fun x z => .inl (.inl z))).trans k305 (fun x z => .inl (.inr z))), ((o303.kp k305 av0 (Dj.fresh o_law_pot_here.lv f34))), (z306.own)⟩
            · rintro σ308 Hq309 ⟨t311, rfl, k310, o312, o313⟩
              obtain rfl := si hf181
              exact ⟨_, _, _, rfl, ((((((Kp.refl _).trans k175 (fun x z => z.elim (fun z => .inl (.inl z)) (fun z => .inl (.inr z)))).then e173).trans e222 (fun x z => .inl (.inl z))).trans e243 (fun x z => .inl (.inl z))).trans k310 (fun x z => z.elim (fun z => .inl (.inl z)) (fun z => .inl (.inr z)))), ((o312.sub (ins_sub dm) (avi o_law_pot_here.avr))), (o313)⟩
      · rintro σ314 Hq315 ⟨t317, t318, t319, rfl, k316, o320, o321⟩
        refine ⟨_, rfl, ?_⟩
        obtain rfl := si hm0
        exact kk _ _ (((Kp.refl _).then e36).trans k316 (fun x z => z.elim (fun z => .inl z) (fun z => .inr (f34 _ z)))) (o320.sub (fun a z => (.inr z)) o_law_pot_here.avr) (fun B dB => (o321.rp (fun a m z => dB _ z (f34 a m))))
/-! _law_word -/
def m_law_word_1 (v_law_letters : Str) (s : (H2 Int Int)) (d : Int) : Option (Str × (H2 Int Int)) :=
  (m_law_draw s (26 : Int)).bind fun r6 => (ixS v_law_letters r6.1).bind fun x10 => some (x10, r6.2)
def m_law_word_2 (v_law_taken : (List Str)) (v_law_letters : Str) (s : Str) (d : Int) : Option Str :=
  if (decide (s ∈ v_law_taken)) = true then (ixS s (0 : Int)).bind fun x43 => (idxS v_law_letters x43).bind fun x45 => (ixS v_law_letters ((x45 + (1 : Int)) % (26 : Int))).bind fun x48 => (slS s (some (1 : Int)) none).bind fun x50 => (addS x48 x50).bind fun x51 => some (x51) else some (s)
def m_law_word (x_law_pot_here : (H2 Int Int)) (x_law_taken : (List Str)) : Option (Str × (H2 Int Int) × (List Str)) :=
  (m_law_draw x_law_pot_here (8 : Int)).bind fun r1 => (rng1 ((1 : Int) + r1.1)).bind fun x5 => (mapS (m_law_word_1 ("abcdefghijklmnopqrstuvwxyz" : Str)) (r1.2) x5).bind fun x12 => (joinO ("" : Str) x12.1).bind fun x40 => (rng1 (26 : Int)).bind fun x41 => (foldO (m_law_word_2 x_law_taken ("abcdefghijklmnopqrstuvwxyz" : Str)) (x40) x41).bind fun x52 => (appO x_law_taken x52).bind fun x84 => some (x52, x12.2, x84)
def sp_law_word (K : PySem.W.Frag) : Sp := fun vs H Q _ => ∃ (A : Av) (p_law_pot_here : Addr) (x_law_pot_here : (H2 Int Int)) (p_law_taken : Addr) (x_law_taken : (List Str)) (r : (Str × (H2 Int Int) × (List Str))), vs = [V.ref p_law_pot_here, V.ref p_law_taken] ∧ Dm A H ∧ Dj (c1 p_law_pot_here) (c1 p_law_taken) ∧ Own K A H p_law_pot_here x_law_pot_here ∧ Own K A H p_law_taken x_law_taken ∧ m_law_word x_law_pot_here x_law_taken = some r ∧ (∀ H', Kp (un (c1 p_law_pot_here) (c1 p_law_taken)) H H' → Own K A H' p_law_pot_here r.2.1 → Own K A H' p_law_taken r.2.2 → Q (V.str r.1) H')
abbrev N_law_word : List Str := ["_law_pot_here", "_law_taken", "_law_letters", "_law_word_here", "_law_turn", "_law_k"]
theorem sc_law_word : FnScope N_law_word ["_law_pot_here", "_law_taken"] (defScope s_law_word) := ⟨rfl, rfl, rfl, by decide +kernel, rfl, by decide +kernel, by decide +kernel⟩
theorem ok_law_word (T : Tx K mg a) : FnOk P w K mg base CX0 2 a.f_law_word a.d_law_word ["_law_pot_here", "_law_taken"] (sp_law_word K) := by
  have G_law_draw := ok_law_draw (P := P) (w := w) (base := base) T
  refine T.F_law_word.ok sc_law_word (fun vs H Q E h => ?_) (fun cdv A' outer s H0 vs Q E hr h => ?_)
  · obtain ⟨_, _, _, _, _, _, rfl, _⟩ := h
    rfl
  · obtain ⟨A, p_law_pot_here, x_law_pot_here, p_law_taken, x_law_taken, r, rfl, dm, ne0, o_law_pot_here, o_law_taken, hm0, kk⟩ := h
    refine ⟨_, (lSeq (pss_cons (lSet (ps_set (i := 2) sc_law_word.nd rfl (Or.inr rfl) qe_str)) (lSeq (pss_cons (lSet (ps_set (i := 3) sc_law_word.nd rfl (Or.inl rfl) (lJoin (K := K) (qe_join qe_str (qe_lc (own := [("_law_k", 5)]) (g := fun v σ H Q => Q (σ.set 5 (some v)) H) (tt := tYes) rfl sc_law_word.nd (lIRng1 (pi_range1 rfl T.z_range (lCons (pa_cons (lOp (pe_op op_add qe_int (lCall (pe_call G_law_draw (hr.mono (by decide)) rfl T.g_law_draw T.F_law_draw.kp T.b_law_draw .nil pass0 (lCons (pa_cons (qv (pv 0)) (lCons (pa_cons qe_int (lNil pa_nil))))))))) (lNil pa_nil))))) (blkOk_by (N := N_law_word) (sc := (defScope s_law_word)) (by decide +kernel)) (fun _ _ _ _ _ => (lName (pg_name (i := 5) sc_law_word.nd rfl (Or.inl rfl)))) (fun _ _ _ _ _ => pts_nil) (fun _ _ _ _ _ => (lOp (pe_ix ix_str (qv (pv 2)) (lCall (pe_call G_law_draw (hr.mono (by decide)) rfl T.g_law_draw T.F_law_draw.kp T.b_law_draw .nil pass0 (lCons (pa_cons (qv (pv 0)) (lCons (pa_cons qe_int (lNil pa_nil))))))) (fun _ _ => rfl))))))))) (lSeq (pss_cons (qs_for PassesOwn.never rfl (lIRng1 (pi_range1 rfl T.z_range (lCons (pa_cons qe_int (lNil pa_nil))))) (lName (pg_name (i := 4) sc_law_word.nd rfl (Or.inl rfl))) (pss_one (lIf (ps_if (lOpT (pt_cmpR (kop_in_seq (K := K) rfl) (qv (pv 3)) (qv (pv 1)) (by rfl))) (pss_one (lSet (ps_set (i := 3) sc_law_word.nd rfl (Or.inl rfl) (lOp (pe_op op_add_str (lOp (pe_ix ix_str (qv (pv 2)) (lOp (pe_op op_mod (lOp (pe_op op_add (lBM (K := K) (pe_bm PySem.F.plainAttrs_str PySem.F.slot_str_index PySem.F.type_str_index mt_sindex (qv (pv 2)) (lCons (pa_cons (lOp (pe_ix ix_str (qv (pv 3)) qe_int (fun _ _ => rfl))) (lNil pa_nil))))) qe_int)) qe_int)) (fun _ _ => rfl))) (lSl (pe_slice sl_str (qv (pv 3)) (lPart (po_some qe_int)) (lNoPart po_none)))))))) (lNext pss_nil))))) (lSeq (pss_cons (lDrop (ps_expr (lBM (K := K) (pe_bm PySem.F.plainAttrs_list PySem.F.slot_list_append PySem.F.type_list_append mt_append (qv (pv 1)) (lCons (pa_cons (qv (pv 3)) (lNil pa_nil))))))) (pss_one (lRet (ps_ret (qv (pv 3))))))))))))), ?_⟩
    unfold m_law_word at hm0
    obtain ⟨r1, h_r1, hm0⟩ := ob hm0
    refine ⟨⟨_, rfl⟩, _, rfl, (dom H0), p_law_pot_here, x_law_pot_here, (8 : Int), r1, rfl, Dm.dom, (o_law_pot_here.any o_law_pot_here.lv), h_r1, fun Hq2 k3 o4 => ?_⟩
    obtain ⟨x5, h_x5, hm0⟩ := ob hm0
    obtain ⟨c_x5, rfl⟩ := rng1_of h_x5
    obtain ⟨x12, h_x12, hm0⟩ := ob hm0
    refine ⟨_, _, rfl, rfl, _, rfl, (rng_b c_x5.1).1, (rng_b c_x5.1).2, ?_⟩
    refine lc_s (K := K) (A := (dom H0)) (B := (dom H0)) (TW.range 0 (((1 : Int) + r1.1)).toNat) (m_law_word_1 ("abcdefghijklmnopqrstuvwxyz" : Str)) (r1.2) x12 h_x12 c_x5.2 (c1 p_law_pot_here) (fun a z => ⟨o_law_pot_here.lv _ z, o_law_pot_here.lv _ z, ((o4.sub dm o_law_pot_here.avr)).lv _ z⟩) (fun B' s' H' => Own K B' H' p_law_pot_here s') (fun _ _ s' H' H'' i e l b => i.le l (fun a z => e a z) (fun a z => b a z)) ((o4.sub dm o_law_pot_here.avr).any o_law_pot_here.lv) ?_ ?_
    · intro D13 hD14 s27 d15 y16 v17 Hq18 hy22 i_i25 k23 hDn26 q24 M20 hM21
      have i_i25_0 := i_i25
      obtain rfl := q24
      unfold m_law_word_1 at hy22
      refine ⟨rfl, ?_⟩
      obtain ⟨r28, h_r28, hy22⟩ := ob hy22
      refine ⟨_, rfl, _, rfl, (ins D13 (dom H0)), p_law_pot_here, s27, (26 : Int), r28, rfl, (((Dm.dom.kp k3).kp k23).ins hDn26), i_i25_0, h_r28, fun Hq29 k30 o31 => ?_⟩
      obtain ⟨x32, h_x32, hy22⟩ := ob hy22
      obtain ⟨z33, c_x32, rfl⟩ := ixS_of h_x32
      refine ⟨_, _, _, rfl, rfl, c_x32.1, c_x32.2, ?_⟩
      obtain rfl := si hy22
      exact hM21 _ _ ((Kp.refl _).trans k30 (fun x z => .inl z)) (o31) rfl
    · rintro D34 Hq35 hD36 e37 o39 n38
      obtain ⟨x40, h_x40, hm0⟩ := ob hm0
      obtain ⟨c_x40, rfl⟩ := joinO_of h_x40
      refine g_join (rp_lst' (n38.rp ((Dm.dom.kp k3).not hD36))) c_x40 ?_
      obtain ⟨x41, h_x41, hm0⟩ := ob hm0
      obtain ⟨c_x41, rfl⟩ := rng1_of h_x41
      obtain ⟨x52, h_x52, hm0⟩ := ob hm0
      refine ⟨_, rfl, (rng_b c_x41.1).1, (rng_b c_x41.1).2, ?_⟩
      refine for_f (K := K) (A := (dom H0)) (TW.range 0 ((26 : Int)).toNat) (m_law_word_2 x_law_taken ("abcdefghijklmnopqrstuvwxyz" : Str)) ((Txt.join ("" : Str) x12.1)) x52 h_x52 (fun (s' : Str) σ' H' => ∃ t_law_turn : Option V, σ' = [some (V.ref p_law_pot_here), some (V.ref p_law_taken), some (V.str ("abcdefghijklmnopqrstuvwxyz" : Str)), some (V.str s'), t_law_turn, none] ∧ Ex Hq35 H') ?_ (fun _ _ _ ⟨_, _, k⟩ => ⟨_, Ex.le k⟩) ?_ ?_
      · exact ⟨_, rfl, Ex.refl _⟩
      · rintro s54 d55 s66 v56 σ57 Hq58 Hq59 ⟨t63, rfl, k62⟩ hf64 e60 q61
        have q67 := q61 _ k62.le
        obtain rfl := q67
        unfold m_law_word_2 at hf64
        refine ⟨_, rfl, _, rfl, ?_⟩
        refine g_in_str ((((o_law_taken.kp k3 o_law_pot_here.avr (Dj.symm ne0)).kp e37 o_law_pot_here.avr (Dj.symm ne0)).ex k62).ex e60).lst'.sq ?_
        refine ⟨_, rfl, ?_⟩
        refine ite2 (fun c70 => ?_) (fun c70 => ?_)
        · replace hf64 := ifT c70 hf64
          obtain ⟨x71, h_x71, hf64⟩ := ob hf64
          obtain ⟨z72, c_x71, rfl⟩ := ixS_of h_x71
          obtain ⟨x73, h_x73, hf64⟩ := ob hf64
          obtain ⟨i74, r75, c_x73, rfl⟩ := idxS_of h_x73
          obtain ⟨x76, h_x76, hf64⟩ := ob hf64
          obtain ⟨z77, c_x76, rfl⟩ := ixS_of h_x76
          obtain ⟨x78, h_x78, hf64⟩ := ob hf64
          obtain ⟨c_x78, rfl⟩ := slS_of h_x78
          obtain ⟨x79, h_x79, hf64⟩ := ob hf64
          obtain ⟨c_x79, rfl⟩ := addS_of h_x79
          refine ⟨_, rfl, _, rfl, rfl, _, rfl, _, _, _, rfl, rfl, c_x71.1, c_x71.2, _, _, _, _, rfl, rfl, c_x73, _, _, rfl, rfl, _, _, rfl, rfl, (show (0 : Int) < (26 : Int) from by decide), _, _, _, rfl, rfl, c_x76.1, c_x76.2, _, rfl, _, rfl, _, rfl, c_x78, _, _, rfl, rfl, c_x79, ?_⟩
          obtain rfl := si hf64
          exact ⟨_, rfl, (k62.trans e60)⟩
        · replace hf64 := ifF c70 hf64
          obtain rfl := si hf64
          exact ⟨_, rfl, (k62.trans e60)⟩
      · rintro σ80 Hq81 ⟨t83, rfl, k82⟩
        obtain ⟨x84, h_x84, hm0⟩ := ob hm0
        obtain ⟨c_x84, rfl⟩ := appO_of h_x84
        refine ⟨_, rfl, ((((o_law_taken.kp k3 o_law_pot_here.avr (Dj.symm ne0)).kp e37 o_law_pot_here.avr (Dj.symm ne0)).ex k82)).ty, _, rfl, ?_⟩
        refine g_app (((o_law_taken.kp k3 o_law_pot_here.avr (Dj.symm ne0)).kp e37 o_law_pot_here.avr (Dj.symm ne0)).ex k82) rfl c_x84 (fun Hq85 k86 o87 => ?_)
        refine ⟨_, rfl, ?_⟩
        obtain rfl := si hm0
        exact kk _ (((((Kp.refl _).trans k3 (fun x z => .inl (.inl z))).trans e37 (fun x z => .inl (.inl z))).then k82).trans k86 (fun x z => .inl (.inr z))) (((o39.ex k82).kp k86 o_law_taken.lv ne0).sub (fun a z => (dm _ z)) o_law_pot_here.avr) o87
/-! _law_words -/
def m_law_words_1 (s : ((H2 Int Int) × (List Str))) (d : Int) : Option (Str × ((H2 Int Int) × (List Str))) :=
  (m_law_word s.1 s.2).bind fun r2 => some (r2.1, r2.2.1, r2.2.2)
def m_law_words (x_law_pot_here : (H2 Int Int)) (x_law_many : Int) (x_law_taken : (List Str)) : Option ((List Str) × (H2 Int Int) × (List Str)) :=
  (rng1 x_law_many).bind fun x1 => (mapS (m_law_words_1) (x_law_pot_here, x_law_taken) x1).bind fun x7 => some (x7.1, x7.2.1, x7.2.2)
def sp_law_words (K : PySem.W.Frag) : Sp := fun vs H Q _ => ∃ (A : Av) (p_law_pot_here : Addr) (x_law_pot_here : (H2 Int Int)) (x_law_many : Int) (p_law_taken : Addr) (x_law_taken : (List Str)) (r : ((List Str) × (H2 Int Int) × (List Str))), vs = [V.ref p_law_pot_here, (V.int x_law_many), V.ref p_law_taken] ∧ Dm A H ∧ Dj (c1 p_law_pot_here) (c1 p_law_taken) ∧ Own K A H p_law_pot_here x_law_pot_here ∧ Own K A H p_law_taken x_law_taken ∧ m_law_words x_law_pot_here x_law_many x_law_taken = some r ∧ (∀ p H', H p = none → Kp (un (c1 p_law_pot_here) (c1 p_law_taken)) H H' → Own K A H' p_law_pot_here r.2.1 → Own K A H' p_law_taken r.2.2 → (∀ B, Dm B H → New K B H' p r.1) → Q (V.ref p) H')
abbrev N_law_words : List Str := ["_law_pot_here", "_law_many", "_law_taken", "_law_k"]
theorem sc_law_words : FnScope N_law_words ["_law_pot_here", "_law_many", "_law_taken"] (defScope s_law_words) := ⟨rfl, rfl, rfl, by decide +kernel, rfl, by decide +kernel, by decide +kernel⟩
theorem ok_law_words (T : Tx K mg a) : FnOk P w K mg base CX0 3 a.f_law_words a.d_law_words ["_law_pot_here", "_law_many", "_law_taken"] (sp_law_words K) := by
  have G_law_word := ok_law_word (P := P) (w := w) (base := base) T
  refine T.F_law_words.ok sc_law_words (fun vs H Q E h => ?_) (fun cdv A' outer s H0 vs Q E hr h => ?_)
  · obtain ⟨_, _, _, _, _, _, _, rfl, _⟩ := h
    rfl
  · obtain ⟨A, p_law_pot_here, x_law_pot_here, x_law_many, p_law_taken, x_law_taken, r, rfl, dm, ne0, o_law_pot_here, o_law_taken, hm0, kk⟩ := h
    refine ⟨_, (pss_one (lRet (ps_ret (qe_lc (own := [("_law_k", 3)]) (g := fun v σ H Q => Q (σ.set 3 (some v)) H) (tt := tYes) rfl sc_law_words.nd (lIRng1 (pi_range1 rfl T.z_range (lCons (pa_cons (qv (pv 1)) (lNil pa_nil))))) (blkOk_by (N := N_law_words) (sc := (defScope s_law_words)) (by decide +kernel)) (fun _ _ _ _ _ => (lName (pg_name (i := 3) sc_law_words.nd rfl (Or.inl rfl)))) (fun _ _ _ _ _ => pts_nil) (fun _ _ _ _ _ => (lCall (pe_call G_law_word (hr.mono (by decide)) rfl T.g_law_word T.F_law_word.kp T.b_law_word .nil pass0 (lCons (pa_cons (qv (pv 0)) (lCons (pa_cons (qv (pv 2)) (lNil pa_nil)))))))))))), ?_⟩
    unfold m_law_words at hm0
    obtain ⟨x1, h_x1, hm0⟩ := ob hm0
    obtain ⟨c_x1, rfl⟩ := rng1_of h_x1
    obtain ⟨x7, h_x7, hm0⟩ := ob hm0
    refine ⟨_, rfl, _, rfl, (rng_b c_x1.1).1, (rng_b c_x1.1).2, ?_⟩
    refine lc_s (K := K) (A := (dom H0)) (B := (dom H0)) (TW.range 0 (x_law_many).toNat) (m_law_words_1) (x_law_pot_here, x_law_taken) x7 h_x7 c_x1.2 (un (c1 p_law_pot_here) (c1 p_law_taken)) (fun a z => z.elim (fun z => ⟨o_law_pot_here.lv _ z, o_law_pot_here.lv _ z, (o_law_pot_here).lv _ z⟩) (fun z => ⟨o_law_taken.lv _ z, o_law_taken.lv _ z, (o_law_taken).lv _ z⟩)) (fun B' s' H' => Own K B' H' p_law_pot_here s'.1 ∧ Own K B' H' p_law_taken s'.2) (fun _ _ s' H' H'' i e l b => ⟨i.1.le l (fun a z => e a (.inl z)) (fun a z => b a (.inl z)), i.2.le l (fun a z => e a (.inr z)) (fun a z => b a (.inr z))⟩) ⟨(o_law_pot_here.any o_law_pot_here.lv), (o_law_taken.any o_law_taken.lv)⟩ ?_ ?_
    · intro D8 hD9 s22 d10 y11 v12 Hq13 hy17 i_i20 k18 hDn21 q19 M15 hM16
      obtain ⟨i_i20_0, i_i20_1⟩ := i_i20
      obtain rfl := q19
      unfold m_law_words_1 at hy17
      refine ⟨rfl, ?_⟩
      obtain ⟨r23, h_r23, hy17⟩ := ob hy17
      refine ⟨_, rfl, _, rfl, (ins D8 (dom H0)), p_law_pot_here, s22.1, p_law_taken, s22.2, r23, rfl, ((Dm.dom.kp k18).ins hDn21), ne0, i_i20_0, i_i20_1, h_r23, fun Hq24 k25 o26 o27 => ?_⟩
      obtain rfl := si hy17
      exact hM16 _ _ ((Kp.refl _).trans k25 (fun x z => z.elim (fun z => .inl (.inl z)) (fun z => .inl (.inr z)))) ⟨(o26), (o27)⟩ rfl
    · rintro D28 Hq29 hD30 e31 ⟨o33, o34⟩ n32
      obtain rfl := si hm0
      exact kk _ _ hD30 ((Kp.refl _).trans e31 (fun x z => z.elim (fun z => .inl (.inl z)) (fun z => .inl (.inr z)))) (o33.sub (fun a z => (dm _ z)) o_law_pot_here.avr) (o34.sub (fun a z => (dm _ z)) o_law_taken.avr) (fun B dB => New.sub n32 (fun a z => (dB _ z)))
/-! _law_table -/
def m_law_table_1 (s : (H2 Int Int)) (d : Str) : Option (Int × (H2 Int Int)) :=
  (m_law_draw s (2 : Int)).bind fun r55 => some (r55.1, r55.2)
def m_law_table_2 (v_law_lamps : (List Str)) (s : (H2 Int Int)) (d : Str) : Option ((Tup Int) × (H2 Int Int)) :=
  (mapS (m_law_table_1) (s) v_law_lamps).bind fun x59 => some ((⟨x59.1⟩ : (Tup Int)), x59.2)
def m_law_table_3 (s : (H2 Int Int)) (d : Str) : Option (Int × (H2 Int Int)) :=
  (m_law_draw s (2 : Int)).bind fun r108 => some (r108.1, r108.2)
def m_law_table (x_law_pot_here : (H2 Int Int)) : Option ((H5 (List Str) (List Str) (List Str) (List (List Int)) (List (Tup Int))) × (H2 Int Int)) :=
  (m_law_draw x_law_pot_here (3 : Int)).bind fun r6 => (m_law_words r6.2 r6.1 ([] : (List Str))).bind fun r10 => (m_law_draw r10.2.1 (3 : Int)).bind fun r18 => (m_law_words r18.2 ((2 : Int) + r18.1) r10.2.2).bind fun r22 => (m_law_draw r22.2.1 (3 : Int)).bind fun r30 => (m_law_words r30.2 r30.1 r22.2.2).bind fun r34 => (shlO (1 : Int) ((r10.1).length : Int)).bind fun x42 => (m_law_rows r34.2.1 ((r22.1).length : Int) x42).bind fun r43 => (mapS (m_law_table_2 r34.1) (r43.2) r22.1).bind fun x89 => some ((⟨r10.1, r22.1, r34.1, r43.1, x89.1⟩ : (H5 (List Str) (List Str) (List Str) (List (List Int)) (List (Tup Int)))), x89.2)
def sp_law_table (K : PySem.W.Frag) : Sp := fun vs H Q _ => ∃ (A : Av) (p_law_pot_here : Addr) (x_law_pot_here : (H2 Int Int)) (r : ((H5 (List Str) (List Str) (List Str) (List (List Int)) (List (Tup Int))) × (H2 Int Int))), vs = [V.ref p_law_pot_here] ∧ Dm A H ∧ Own K A H p_law_pot_here x_law_pot_here ∧ m_law_table x_law_pot_here = some r ∧ (∀ v H', Kp (c1 p_law_pot_here) H H' → Own K A H' p_law_pot_here r.2 → (∀ B, Dm B H → Rp.rp K B H' v r.1) → Q v H')
abbrev N_law_table : List Str := ["_law_pot_here", "_law_taken", "_law_keys", "_law_states", "_law_lamps", "_law_rows_here", "_law_s", "_law_lamp"]
theorem sc_law_table : FnScope N_law_table ["_law_pot_here"] (defScope s_law_table) := ⟨rfl, rfl, rfl, by decide +kernel, rfl, by decide +kernel, by decide +kernel⟩
theorem ok_law_table (T : Tx K mg a) : FnOk P w K mg base CX0 4 a.f_law_table a.d_law_table ["_law_pot_here"] (sp_law_table K) := by
  have G_law_draw := ok_law_draw (P := P) (w := w) (base := base) T
  have G_law_rows := ok_law_rows (P := P) (w := w) (base := base) T
  have G_law_words := ok_law_words (P := P) (w := w) (base := base) T
  refine T.F_law_table.ok sc_law_table (fun vs H Q E h => ?_) (fun cdv A' outer s H0 vs Q E hr h => ?_)
  · obtain ⟨_, _, _, _, rfl, _⟩ := h
    rfl
  · obtain ⟨A, p_law_pot_here, x_law_pot_here, r, rfl, dm, o_law_pot_here, hm0, kk⟩ := h
    refine ⟨_, (lSeq (pss_cons (lSet (ps_set (i := 1) sc_law_table.nd rfl (Or.inl rfl) (qe_lst (lNil pa_nil)))) (lSeq (pss_cons (lSet (ps_set (i := 2) sc_law_table.nd rfl (Or.inl rfl) (lCall (pe_call G_law_words (hr.mono (by decide)) rfl T.g_law_words T.F_law_words.kp T.b_law_words .nil pass0 (lCons (pa_cons (qv (pv 0)) (lCons (pa_cons (lCall (pe_call G_law_draw (hr.mono (by decide)) rfl T.g_law_draw T.F_law_draw.kp T.b_law_draw .nil pass0 (lCons (pa_cons (qv (pv 0)) (lCons (pa_cons qe_int (lNil pa_nil))))))) (lCons (pa_cons (qv (pv 1)) (lNil pa_nil))))))))))) (lSeq (pss_cons (lSet (ps_set (i := 3) sc_law_table.nd rfl (Or.inl rfl) (lCall (pe_call G_law_words (hr.mono (by decide)) rfl T.g_law_words T.F_law_words.kp T.b_law_words .nil pass0 (lCons (pa_cons (qv (pv 0)) (lCons (pa_cons (lOp (pe_op op_add qe_int (lCall (pe_call G_law_draw (hr.mono (by decide)) rfl T.g_law_draw T.F_law_draw.kp T.b_law_draw .nil pass0 (lCons (pa_cons (qv (pv 0)) (lCons (pa_cons qe_int (lNil pa_nil))))))))) (lCons (pa_cons (qv (pv 1)) (lNil pa_nil))))))))))) (lSeq (pss_cons (lSet (ps_set (i := 4) sc_law_table.nd rfl (Or.inr rfl) (lCall (pe_call G_law_words (hr.mono (by decide)) rfl T.g_law_words T.F_law_words.kp T.b_law_words .nil pass0 (lCons (pa_cons (qv (pv 0)) (lCons (pa_cons (lCall (pe_call G_law_draw (hr.mono (by decide)) rfl T.g_law_draw T.F_law_draw.kp T.b_law_draw .nil pass0 (lCons (pa_cons (qv (pv 0)) (lCons (pa_cons qe_int (lNil pa_nil))))))) (lCons (pa_cons (qv (pv 1)) (lNil pa_nil))))))))))) (lSeq (pss_cons (lSet (ps_set (i := 5) sc_law_table.nd rfl (Or.inl rfl) (lCall (pe_call G_law_rows (hr.mono (by decide)) rfl T.g_law_rows T.F_law_rows.kp T.b_law_rows .nil pass0 (lCons (pa_cons (qv (pv 0)) (lCons (pa_cons (lCB (pe_callB (kq_len (K := K) rfl) (by rfl) T.z_len (by decide +kernel) (lCons (pa_cons (qv (pv 3)) (lNil pa_nil))))) (lCons (pa_cons (lOp (pe_op op_shl qe_int (lCB (pe_callB (kq_len (K := K) rfl) (by rfl) T.z_len (by decide +kernel) (lCons (pa_cons (qv (pv 2)) (lNil pa_nil))))))) (lNil pa_nil))))))))))) (pss_one (lRet (ps_ret (qe_lst (lCons (pa_cons (qv (pv 2)) (lCons (pa_cons (qv (pv 3)) (lCons (pa_cons (qv (pv 4)) (lCons (pa_cons (qv (pv 5)) (lCons (pa_cons (qe_lc (own := [("_law_s", 6)]) (g := fun v σ H Q => Q (σ.set 6 (some v)) H) (tt := tYes) rfl sc_law_table.nd (lIList (K := K) (pi_list (qv (pv 3)))) (blkOk_by (N := N_law_table) (sc := (defScope s_law_table)) (by decide +kernel)) (fun _ _ _ _ _ => (lName (pg_name (i := 6) sc_law_table.nd rfl (Or.inl rfl)))) (fun _ _ _ _ _ => pts_nil) (fun _ _ _ _ _ => (lCB (pe_callTy (kq_tuple (K := K) rfl) (by rfl) T.z_tuple (by decide +kernel) (lCons (pa_cons (qe_lc (own := [("_law_lamp", 7)]) (g := fun v σ H Q => Q (σ.set 7 (some v)) H) (tt := tYes) rfl sc_law_table.nd (lIList (K := K) (pi_list (qv (pv 4)))) (blkOk_by (N := N_law_table) (sc := (relS (scAt s_law_table [5] [4]) (defScope s_law_table))) (by decide +kernel)) (fun _ _ _ _ _ => (lName (pg_name (i := 7) sc_law_table.nd rfl (Or.inl rfl)))) (fun _ _ _ _ _ => pts_nil) (fun _ _ _ _ _ => (lCall (pe_call G_law_draw (hr.mono (by decide)) rfl T.g_law_draw T.F_law_draw.kp T.b_law_draw .nil pass0 (lCons (pa_cons (qv (pv 0)) (lCons (pa_cons qe_int (lNil pa_nil))))))))) (lNil pa_nil))))))) (lNil pa_nil))))))))))))))))))))))))), ?_⟩
    unfold m_law_table at hm0
    refine g_mkL (K := K) (L := (dom H0)) (ds := ([] : (List Str))) (show 0 ≤ big by decide) Paired.nil (fun p1 Hq2 hp3 ex4 n5 => ?_)
    obtain ⟨r6, h_r6, hm0⟩ := ob hm0
    refine ⟨_, rfl, _, rfl, (un (c1 p1) (dom H0)), p_law_pot_here, x_law_pot_here, (3 : Int), r6, rfl, ((Dm.dom.ex ex4).un n5.own.lv), (((o_law_pot_here.un (c1_fr hp3)).ex ex4).any (avi o_law_pot_here.lv)), h_r6, fun Hq7 k8 o9 => ?_⟩
    obtain ⟨r10, h_r10, hm0⟩ := ob hm0
    refine ⟨_, rfl, (un (c1 p1) (dom H0)), p_law_pot_here, r6.2, r6.1, p1, ([] : (List Str)), r10, rfl, (((Dm.dom.ex ex4).un n5.own.lv).kp k8), (Dj.fresh o_law_pot_here.lv (c1_fr hp3)), ((o9.sub (ins_sub dm) (avi o_law_pot_here.avr)).any (avi o_law_pot_here.lv)), (n5.own.kp k8 (avi o_law_pot_here.lv) (Dj.symm (Dj.fresh o_law_pot_here.lv (c1_fr hp3)))), h_r10, fun p15 Hq11 hp16 k12 o13 o14 n17 => ?_⟩
    obtain ⟨r18, h_r18, hm0⟩ := ob hm0
    refine ⟨_, rfl, _, rfl, (un (c1 p1) (dom H0)), p_law_pot_here, r10.2.1, (3 : Int), r18, rfl, ((((Dm.dom.ex ex4).un n5.own.lv).kp k8).kp k12), ((o13.sub (ins_sub dm) (avi o_law_pot_here.avr)).any (avi o_law_pot_here.lv)), h_r18, fun Hq19 k20 o21 => ?_⟩
    obtain ⟨r22, h_r22, hm0⟩ := ob hm0
    refine ⟨_, _, rfl, rfl, _, rfl, (un (c1 p1) (dom H0)), p_law_pot_here, r18.2, ((2 : Int) + r18.1), p1, r10.2.2, r22, rfl, (((((Dm.dom.ex ex4).un n5.own.lv).kp k8).kp k12).kp k20), (Dj.fresh o_law_pot_here.lv (c1_fr hp3)), ((o21.sub (ins_sub dm) (avi o_law_pot_here.avr)).any (avi o_law_pot_here.lv)), (o14.kp k20 (avi o_law_pot_here.lv) (Dj.symm (Dj.fresh o_law_pot_here.lv (c1_fr hp3)))), h_r22, fun p27 Hq23 hp28 k24 o25 o26 n29 => ?_⟩
    obtain ⟨r30, h_r30, hm0⟩ := ob hm0
    refine ⟨_, rfl, _, rfl, (un (c1 p1) (dom H0)), p_law_pot_here, r22.2.1, (3 : Int), r30, rfl, ((((((Dm.dom.ex ex4).un n5.own.lv).kp k8).kp k12).kp k20).kp k24), ((o25.sub (ins_sub dm) (avi o_law_pot_here.avr)).any (avi o_law_pot_here.lv)), h_r30, fun Hq31 k32 o33 => ?_⟩
    obtain ⟨r34, h_r34, hm0⟩ := ob hm0
    refine ⟨_, rfl, (un (c1 p1) (dom H0)), p_law_pot_here, r30.2, r30.1, p1, r22.2.2, r34, rfl, (((((((Dm.dom.ex ex4).un n5.own.lv).kp k8).kp k12).kp k20).kp k24).kp k32), (Dj.fresh o_law_pot_here.lv (c1_fr hp3)), ((o33.sub (ins_sub dm) (avi o_law_pot_here.avr)).any (avi o_law_pot_here.lv)), (o26.kp k32 (avi o_law_pot_here.lv) (Dj.symm (Dj.fresh o_law_pot_here.lv (c1_fr hp3)))), h_r34, fun p39 Hq35 hp40 k36 o37 o38 n41 => ?_⟩
    refine ⟨_, rfl, _, rfl, ?_⟩
    refine g_len (rp_lst' (Rp.le ((k32.le (avi o_law_pot_here.lv)).trans (k36.le (un_sub (avi o_law_pot_here.lv) av0))) ((n29 (un (c1 p1) (dom H0)) (((((Dm.dom.ex ex4).un n5.own.lv).kp k8).kp k12).kp k20)).rp ((((((Dm.dom.ex ex4).un n5.own.lv).kp k8).kp k12).kp k20).not hp28)))) ?_
    refine ⟨_, rfl, ?_⟩
    refine g_len (rp_lst' (Rp.le ((((k20.le (avi o_law_pot_here.lv)).trans (k24.le (un_sub (avi o_law_pot_here.lv) av0))).trans (k32.le (avi o_law_pot_here.lv))).trans (k36.le (un_sub (avi o_law_pot_here.lv) av0))) ((n17 (un (c1 p1) (dom H0)) (((Dm.dom.ex ex4).un n5.own.lv).kp k8)).rp ((((Dm.dom.ex ex4).un n5.own.lv).kp k8).not hp16)))) ?_
    obtain ⟨x42, h_x42, hm0⟩ := ob hm0
    obtain ⟨c_x42, rfl⟩ := shlO_of h_x42
    obtain ⟨r43, h_r43, hm0⟩ := ob hm0
    refine ⟨_, _, rfl, rfl, c_x42, (un (c1 p1) (dom H0)), p_law_pot_here, r34.2.1, ((r22.1).length : Int), ((1 : Int) * 2 ^ (((r10.1).length : Int)).toNat), r43, rfl, ((((((((Dm.dom.ex ex4).un n5.own.lv).kp k8).kp k12).kp k20).kp k24).kp k32).kp k36), ((o37.sub (ins_sub dm) (avi o_law_pot_here.avr)).any (avi o_law_pot_here.lv)), h_r43, fun u47 Hq44 k45 o46 q48 => ?_⟩
    obtain ⟨a49, xs50, h51⟩ := rp_walk (Rp.le (((k32.le (avi o_law_pot_here.lv)).trans (k36.le (un_sub (avi o_law_pot_here.lv) av0))).trans (k45.le (avi o_law_pot_here.lv))) ((n29 (un (c1 p1) (dom H0)) (((((Dm.dom.ex ex4).un n5.own.lv).kp k8).kp k12).kp k20)).rp ((((((Dm.dom.ex ex4).un n5.own.lv).kp k8).kp k12).kp k20).not hp28)))
    obtain ⟨x89, h_x89, hm0⟩ := ob hm0
    refine ⟨_, rfl, _, rfl, _, rfl, _, rfl, _, rfl, a49, h51.1, ⟨_, h51.2.1.sq⟩, ?_⟩
    refine lc_s (K := K) (A := (un (c1 p1) (dom H0))) (B := (un (c1 p1) (dom H0))) (TW.list h51.2.1 h51.2.2.1) (m_law_table_2 r34.1) (r43.2) x89 h_x89 h51.2.2.2 (c1 p_law_pot_here) (fun a z => ⟨(avi o_law_pot_here.lv) _ z, (avi o_law_pot_here.lv) _ z, ((o46.sub (ins_sub dm) (avi o_law_pot_here.avr))).lv _ z⟩) (fun B' s' H' => Own K B' H' p_law_pot_here s') (fun _ _ s' H' H'' i e l b => i.le l (fun a z => e a z) (fun a z => b a z)) ((o46.sub (ins_sub dm) (avi o_law_pot_here.avr)).any (avi o_law_pot_here.lv)) ?_ ?_
    · intro D90 hD91 s104 d92 y93 v94 Hq95 hy99 i_i102 k100 hDn103 q101 M97 hM98
      have i_i102_0 := i_i102
      obtain rfl := q101
      unfold m_law_table_2 at hy99
      refine ⟨rfl, ?_⟩
      obtain ⟨a105, xs106, h107⟩ := rp_walk (Rp.le ((k45.le (avi o_law_pot_here.lv)).trans ((Le.grow hD91).trans (k100.le (avi (avi o_law_pot_here.lv))))) ((n41 (un (c1 p1) (dom H0)) (((((((Dm.dom.ex ex4).un n5.own.lv).kp k8).kp k12).kp k20).kp k24).kp k32)).rp ((((((((Dm.dom.ex ex4).un n5.own.lv).kp k8).kp k12).kp k20).kp k24).kp k32).not hp40)))
      obtain ⟨x112, h_x112, hy99⟩ := ob hy99
      refine ⟨_, rfl, a105, h107.1, ⟨_, h107.2.1.sq⟩, ?_⟩
      refine lc_s (K := K) (A := (ins D90 (un (c1 p1) (dom H0)))) (B := (ins D90 (un (c1 p1) (dom H0)))) (TW.list h107.2.1 h107.2.2.1) (m_law_table_3) (s104) x112 h_x112 h107.2.2.2 (c1 p_law_pot_here) (fun a z => ⟨(avi (avi o_law_pot_here.lv)) _ z, (avi (avi o_law_pot_here.lv)) _ z, (i_i102_0).lv _ z⟩) (fun B' s' H' => Own K B' H' p_law_pot_here s') (fun _ _ s' H' H'' i e l b => i.le l (fun a z => e a z) (fun a z => b a z)) i_i102_0 ?_ ?_
      · intro D113 hD114 s127 d115 y116 v117 Hq118 hy122 i_i125 k123 hDn126 q124 M120 hM121
        have i_i125_0 := i_i125
        obtain rfl := q124
        unfold m_law_table_3 at hy122
        refine ⟨rfl, ?_⟩
        obtain ⟨r128, h_r128, hy122⟩ := ob hy122
        refine ⟨_, rfl, (ins D113 (ins D90 (un (c1 p1) (dom H0)))), p_law_pot_here, s127, (2 : Int), r128, rfl, (((((((((((((Dm.dom.ex ex4).un n5.own.lv).kp k8).kp k12).kp k20).kp k24).kp k32).kp k36).kp k45).kp k100).ins hDn103).kp k123).ins hDn126), i_i125_0, h_r128, fun Hq129 k130 o131 => ?_⟩
        obtain rfl := si hy122
        exact hM121 _ _ ((Kp.refl _).trans k130 (fun x z => .inl z)) (o131) rfl
      · rintro D132 Hq133 hD134 e135 o137 n136
        refine g_tuple (L := (ins D90 (un (c1 p1) (dom H0)))) (Lst.any (rp_lst' (n136.rp ((((((((((((Dm.dom.ex ex4).un n5.own.lv).kp k8).kp k12).kp k20).kp k24).kp k32).kp k36).kp k45).kp k100).ins hDn103).not hD134)))) (fun u138 Hq139 ex140 q141 => ?_)
        obtain rfl := si hy99
        exact hM98 _ _ (((Kp.refl _).trans e135 (fun x z => .inl z)).then ex140) ((o137.ex ex140)) q141
    · rintro D142 Hq143 hD144 e145 o147 n146
      refine g_mkH5 (K := K) (L := (un (c1 p1) (dom H0))) (x := (⟨r10.1, r22.1, r34.1, r43.1, x89.1⟩ : (H5 (List Str) (List Str) (List Str) (List (List Int)) (List (Tup Int))))) ((((((((((Dm.dom.ex ex4).un n5.own.lv).kp k8).kp k12).kp k20).kp k24).kp k32).kp k36).kp k45).kp e145) (Rp.le ((((((k20.le (avi o_law_pot_here.lv)).trans (k24.le (un_sub (avi o_law_pot_here.lv) av0))).trans (k32.le (avi o_law_pot_here.lv))).trans (k36.le (un_sub (avi o_law_pot_here.lv) av0))).trans (k45.le (avi o_law_pot_here.lv))).trans (e145.le (avi o_law_pot_here.lv))) ((n17 (un (c1 p1) (dom H0)) (((Dm.dom.ex ex4).un n5.own.lv).kp k8)).rp ((((Dm.dom.ex ex4).un n5.own.lv).kp k8).not hp16))) (Rp.le ((((k32.le (avi o_law_pot_here.lv)).trans (k36.le (un_sub (avi o_law_pot_here.lv) av0))).trans (k45.le (avi o_law_pot_here.lv))).trans (e145.le (avi o_law_pot_here.lv))) ((n29 (un (c1 p1) (dom H0)) (((((Dm.dom.ex ex4).un n5.own.lv).kp k8).kp k12).kp k20)).rp ((((((Dm.dom.ex ex4).un n5.own.lv).kp k8).kp k12).kp k20).not hp28))) (Rp.le ((k45.le (avi o_law_pot_here.lv)).trans (e145.le (avi o_law_pot_here.lv))) ((n41 (un (c1 p1) (dom H0)) (((((((Dm.dom.ex ex4).un n5.own.lv).kp k8).kp k12).kp k20).kp k24).kp k32)).rp ((((((((Dm.dom.ex ex4).un n5.own.lv).kp k8).kp k12).kp k20).kp k24).kp k32).not hp40))) (Rp.le (e145.le (avi o_law_pot_here.lv)) (q48 (un (c1 p1) (dom H0)) ((((((((Dm.dom.ex ex4).un n5.own.lv).kp k8).kp k12).kp k20).kp k24).kp k32).kp k36))) (n146.rp ((((((((((Dm.dom.ex ex4).un n5.own.lv).kp k8).kp k12).kp k20).kp k24).kp k32).kp k36).kp k45).not hD144)) (fun u148 Hq149 ex150 q151 => ?_)
      obtain rfl := si hm0
      exact kk _ _ (((((((((((Kp.refl _).then ex4).trans k8 (fun x z => .inl z)).trans k12 (fun x z => z.elim (fun z => .inl z) (fun z => .inr ((c1_fr hp3) _ z)))).trans k20 (fun x z => .inl z)).trans k24 (fun x z => z.elim (fun z => .inl z) (fun z => .inr ((c1_fr hp3) _ z)))).trans k32 (fun x z => .inl z)).trans k36 (fun x z => z.elim (fun z => .inl z) (fun z => .inr ((c1_fr hp3) _ z)))).trans k45 (fun x z => .inl z)).trans e145 (fun x z => .inl z)).then ex150) ((o147.ex ex150).sub (fun a z => (.inr (dm _ z))) o_law_pot_here.avr) (fun B dB => Rp.le (Le.drop (fun a z => (.inr (dB _ z)))) q151)
/-! law -/
def m_law_1 (v_law_script : Script) (s : (List (T2 O_Table (H5 (List Str) (List Str) (List Str) (List (List Int)) (List (Tup Int)))))) (d : Int) : Option (Ctl (List (T2 O_Table (H5 (List Str) (List Str) (List Str) (List (List Int)) (List (Tup Int))))) Bool) :=
  (m_law_pot v_law_script d).bind fun r7 => (m_law_table r7).bind fun r16 => (m_law_copy r16.1).bind fun r22 => (m_Table_init r22.a r22.b r22.c r22.d r22.e).bind fun r49 => ((eqD r22 r16.1).bind fun x57 => if (!x57) = true then some (true) else (m_law_agrees r49 r16.1).bind fun r59 => if (!r59) = true then some (true) else (m_law_letters_right ((r16.1.a).length : Int)).bind fun r65 => some ((!r65))).bind fun x53 => if x53 = true then some (.rt (false)) else (m_law_spoil r22).bind fun r70 => (m_Table_key_words r49).bind fun r77 => (appO r77 ("more" : Str)).bind fun x83 => (m_Table_states r49).bind fun r91 => (m_Table_lamps r49).bind fun r104 => (appO r104 ("more" : Str)).bind fun x110 => (appO s (⟨r49, r16.1⟩ : (T2 O_Table (H5 (List Str) (List Str) (List Str) (List (List Int)) (List (Tup Int)))))).bind fun x118 => some (.nx (x118))
def m_law_2 (d : (T2 O_Table (H5 (List Str) (List Str) (List Str) (List (List Int)) (List (Tup Int))))) : Option (Bool) :=
  (m_law_agrees d.a d.b).bind fun r275 => some r275
def m_law (x_law_script : Script) : Option Bool :=
  (rng1 (if (if (3 : Int) < ((x_law_script).l.length : Int) then (3 : Int) else ((x_law_script).l.length : Int)) > (1 : Int) then (if (3 : Int) < ((x_law_script).l.length : Int) then (3 : Int) else ((x_law_script).l.length : Int)) else (1 : Int))).bind fun x6 => (forO (m_law_1 x_law_script) (([] : (List (T2 O_Table (H5 (List Str) (List Str) (List Str) (List (List Int)) (List (Tup Int))))))) x6).bind fun x122 => x122.go (fun r => some r) (fun s267 => (mapO (m_law_2) s267).bind fun x278 => some (((x278).all id)))
def sp_law (K : PySem.W.Frag) : Sp := fun vs H Q _ => ∃ (A : Av) (v_law_script : V) (x_law_script : Script) (r : Bool), vs = [v_law_script] ∧ Dm A H ∧ Rp.rp K A H v_law_script x_law_script ∧ m_law x_law_script = some r ∧ (∀ H', Ex H H' → Q (V.bl r) H')
abbrev N_law : List Str := ["_law_script", "_law_made", "_law_k", "_law_told", "_law_handed", "_law_table_here"]
theorem sc_law : FnScope N_law ["_law_script"] (defScope s_law) := ⟨rfl, rfl, rfl, by decide +kernel, rfl, by decide +kernel, by decide +kernel⟩
theorem ok_law (T : Tx K mg a) : FnOk P w K mg base CX0 6 a.f_law a.d_law ["_law_script"] (sp_law K) := by
  have G_Table_init := ok_Table_init (P := P) (w := w) (base := base) T
  have G_Table_key_words := ok_Table_key_words (P := P) (w := w) (base := base) T
  have G_Table_lamps := ok_Table_lamps (P := P) (w := w) (base := base) T
  have G_Table_states := ok_Table_states (P := P) (w := w) (base := base) T
  have G_law_agrees := ok_law_agrees (P := P) (w := w) (base := base) T
  have G_law_copy := ok_law_copy (P := P) (w := w) (base := base) T
  have G_law_letters_right := ok_law_letters_right (P := P) (w := w) (base := base) T
  have G_law_pot := ok_law_pot (P := P) (w := w) (base := base) T
  have G_law_spoil := ok_law_spoil (P := P) (w := w) (base := base) T
  have G_law_table := ok_law_table (P := P) (w := w) (base := base) T
  refine T.F_law.ok sc_law (fun vs H Q E h => ?_) (fun cdv A' outer s H0 vs Q E hr h => ?_)
  · obtain ⟨_, _, _, _, rfl, _⟩ := h
    rfl
  · obtain ⟨A, v_law_script, x_law_script, r, rfl, dm, w_law_script, hm0, kk⟩ := h
    refine ⟨_, (lSeq (pss_cons (lSet (ps_set (i := 1) sc_law.nd rfl (Or.inl rfl) (qe_lst (lNil pa_nil)))) (lSeq (pss_cons (qs_for PassesOwn.never rfl (lIRng1 (pi_range1 rfl T.z_range (lCons (pa_cons (lCB (pe_callB (call_max2 rfl) (by rfl) T.z_max (by decide +kernel) (lCons (pa_cons qe_int (lCons (pa_cons (lCB (pe_callB (call_min2 rfl) (by rfl) T.z_min (by decide +kernel) (lCons (pa_cons (lCB (pe_callB (kq_len (K := K) rfl) (by rfl) T.z_len (by decide +kernel) (lCons (pa_cons (qv (pv 0)) (lNil pa_nil))))) (lCons (pa_cons qe_int (lNil pa_nil))))))) (lNil pa_nil))))))) (lNil pa_nil))))) (lName (pg_name (i := 2) sc_law.nd rfl (Or.inl rfl))) (lSeq (pss_cons (lSet (ps_set (i := 3) sc_law.nd rfl (Or.inl rfl) (lCall (pe_call G_law_table (hr.mono (by decide)) rfl T.g_law_table T.F_law_table.kp T.b_law_table .nil pass0 (lCons (pa_cons (lCall (pe_call G_law_pot (hr.mono (by decide)) rfl T.g_law_pot T.F_law_pot.kp T.b_law_pot .nil pass0 (lCons (pa_cons (qv (pv 0)) (lCons (pa_cons (qv (pv 2)) (lNil pa_nil))))))) (lNil pa_nil))))))) (lSeq (pss_cons (lSet (ps_set (i := 4) sc_law.nd rfl (Or.inl rfl) (lCall (pe_call G_law_copy (hr.mono (by decide)) rfl T.g_law_copy T.F_law_copy.kp T.b_law_copy .nil pass0 (lCons (pa_cons (qv (pv 3)) (lNil pa_nil))))))) (lSeq (pss_cons (lSet (ps_set (i := 5) sc_law.nd rfl (Or.inl rfl) (lMake (pe_make T.mk_Table G_Table_init (hr.mono (by decide)) rfl T.g_Table T.b_Table_init .nil pass0 (lCons (pa_cons (lOp (pe_ix (kix_list (K := K) rfl) (qv (pv 4)) qe_int (fun _ _ => rfl))) (lCons (pa_cons (lOp (pe_ix (kix_list (K := K) rfl) (qv (pv 4)) qe_int (fun _ _ => rfl))) (lCons (pa_cons (lOp (pe_ix (kix_list (K := K) rfl) (qv (pv 4)) qe_int (fun _ _ => rfl))) (lCons (pa_cons (lOp (pe_ix (kix_list (K := K) rfl) (qv (pv 4)) qe_int (fun _ _ => rfl))) (lCons (pa_cons (lOp (pe_ix (kix_list (K := K) rfl) (qv (pv 4)) qe_int (fun _ _ => rfl))) (lNil pa_nil))))))))))))))) (lSeq (pss_cons (lIf (ps_if (pt_cut (PW.pt (lOr (pw_or (lOpT (pt_cmpR (kop_neD (K := K) rfl hr.units) (qv (pv 4)) (qv (pv 3)) (nomark _))) (lOr (pw_or (lNot (pt_not (lVal (pt_val (lCall (pe_call G_law_agrees (hr.mono (by decide)) rfl T.g_law_agrees T.F_law_agrees.kp T.b_law_agrees .nil pass0 (lCons (pa_cons (qv (pv 5)) (lCons (pa_cons (qv (pv 3)) (lNil pa_nil))))))))))) (pw_or1 (lNot (pt_not (lVal (pt_val (lCall (pe_call G_law_letters_right (hr.mono (by decide)) rfl T.g_law_letters_right T.F_law_letters_right.kp T.b_law_letters_right .nil pass0 (lCons (pa_cons (lCB (pe_callB (kq_len (K := K) rfl) (by rfl) T.z_len (by decide +kernel) (lCons (pa_cons (lOp (pe_ix (kix_list (K := K) rfl) (qv (pv 3)) qe_int (fun _ _ => rfl))) (lNil pa_nil))))) (lNil pa_nil)))))))))))))))) (pss_one (lRet (ps_ret qe_bl))) (lNext pss_nil))) (lSeq (pss_cons (lDrop (ps_expr (lCall (pe_call G_law_spoil (hr.mono (by decide)) rfl T.g_law_spoil T.F_law_spoil.kp T.b_law_spoil .nil pass0 (lCons (pa_cons (qv (pv 4)) (lNil pa_nil))))))) (lSeq (pss_cons (lDrop (ps_expr (lBM (K := K) (pe_bm PySem.F.plainAttrs_list PySem.F.slot_list_append PySem.F.type_list_append mt_append (lMeth0 (pe_meth0 (qv (pv 5)) T.cl_Table T.mt_Table_key_words G_Table_key_words (hr.mono (by decide)) T.b_Table_key_words .nil pass0)) (lCons (pa_cons qe_str (lNil pa_nil))))))) (lSeq (pss_cons (lDrop (ps_expr (lBM0 (K := K) (pe_bm0 PySem.F.plainAttrs_list PySem.F.slot_list_clear PySem.F.type_list_clear mt_clear (lMeth0 (pe_meth0 (qv (pv 5)) T.cl_Table T.mt_Table_states G_Table_states (hr.mono (by decide)) T.b_Table_states .nil pass0)))))) (lSeq (pss_cons (lDrop (ps_expr (lBM (K := K) (pe_bm PySem.F.plainAttrs_list PySem.F.slot_list_append PySem.F.type_list_append mt_append (lMeth0 (pe_meth0 (qv (pv 5)) T.cl_Table T.mt_Table_lamps G_Table_lamps (hr.mono (by decide)) T.b_Table_lamps .nil pass0)) (lCons (pa_cons qe_str (lNil pa_nil))))))) (pss_one (lDrop (ps_expr (lBM (K := K) (pe_bm PySem.F.plainAttrs_list PySem.F.slot_list_append PySem.F.type_list_append mt_append (qv (pv 1)) (lCons (pa_cons (qe_tup (lCons (pa_cons (qv (pv 5)) (lCons (pa_cons (qv (pv 3)) (lNil pa_nil)))))) (lNil pa_nil))))))))))))))))))))))))) (pss_one (lRet (ps_ret (lCB (pe_callB (kcr_all (K := K) rfl rfl) (by rfl) T.z_all (by decide +kernel) (lCons (pa_cons (qe_lc (own := [("_law_table_here", 5), ("_law_told", 3)]) (tt := tYes) rfl sc_law.nd (lIList (K := K) (pi_list (qv (pv 1)))) (blkOk_by (N := N_law) (sc := (defScope s_law)) (by decide +kernel)) (fun _ _ _ _ _ => (lTupG (K := K) (pg_tup (n := 2) rfl (lGCons (pgs_cons (lName (pg_name (i := 5) sc_law.nd rfl (Or.inl rfl))) (lGCons (pgs_cons (lName (pg_name (i := 3) sc_law.nd rfl (Or.inl rfl))) (lGNil pgs_nil)))))))) (fun _ _ _ _ _ => pts_nil) (fun _ _ _ _ _ => (lCall (pe_call G_law_agrees (hr.mono (by decide)) rfl T.g_law_agrees T.F_law_agrees.kp T.b_law_agrees .nil pass0 (lCons (pa_cons (qv (pv 5)) (lCons (pa_cons (qv (pv 3)) (lNil pa_nil))))))))) (lNil pa_nil)))))))))))), ?_⟩
    unfold m_law at hm0
    refine g_mkL (K := K) (L := (dom H0)) (ds := ([] : (List (T2 O_Table (H5 (List Str) (List Str) (List Str) (List (List Int)) (List (Tup Int))))))) (show 0 ≤ big by decide) Paired.nil (fun p1 Hq2 hp3 ex4 n5 => ?_)
    refine ⟨_, rfl, ?_⟩
    refine g_lens (Im.any (B := (un (c1 p1) (dom H0))) (Rp.le ((Le.growS (c1_fr hp3)).trans ex4.le) w_law_script)) ?_
    obtain ⟨x6, h_x6, hm0⟩ := ob hm0
    obtain ⟨c_x6, rfl⟩ := rng1_of h_x6
    obtain ⟨x122, h_x122, hm0⟩ := ob hm0
    refine ⟨_, _, rfl, _, _, rfl, _, rfl, (rng_b c_x6.1).1, (rng_b c_x6.1).2, ?_⟩
    refine for_c (K := K) (A := (un (c1 p1) (dom H0))) (TW.range 0 ((if (if (3 : Int) < ((x_law_script).l.length : Int) then (3 : Int) else ((x_law_script).l.length : Int)) > (1 : Int) then (if (3 : Int) < ((x_law_script).l.length : Int) then (3 : Int) else ((x_law_script).l.length : Int)) else (1 : Int))).toNat) (m_law_1 x_law_script) (([] : (List (T2 O_Table (H5 (List Str) (List Str) (List Str) (List (List Int)) (List (Tup Int))))))) x122 h_x122 (fun (s' : (List (T2 O_Table (H5 (List Str) (List Str) (List Str) (List (List Int)) (List (Tup Int)))))) σ' H' => ∃ t_law_k : Option V, ∃ t_law_told : Option V, ∃ t_law_handed : Option V, ∃ t_law_table_here : Option V, σ' = [some v_law_script, some (V.ref p1), t_law_k, t_law_told, t_law_handed, t_law_table_here] ∧ Kp (c1 p1) Hq2 H' ∧ Own K (un (c1 p1) (dom H0)) H' p1 s') ?_ (fun _ _ _ ⟨_, _, _, _, _, k, _⟩ => ⟨_, Kp.le k av0⟩) ?_ ?_
    · exact ⟨_, _, _, _, rfl, Kp.refl _, (n5.own)⟩
    · rintro σ259 Hq260 s267 q306 ⟨t262, t263, t264, t265, rfl, k261, o266⟩
      rw [q306] at hm0
      obtain ⟨a268, xs269, h270⟩ := rp_walk (Own.rp (B := (fun a => (un (c1 p1) (dom H0)) a ∧ ¬ (c1 p1) a)) o266 (fun _ z => z.1) (fun a m z => z.2 m))
      obtain ⟨x278, h_x278, hm0⟩ := ob hm0
      refine ⟨_, rfl, a268, h270.1, ⟨_, h270.2.1.sq⟩, ?_⟩
      refine lc_m (K := K) (A := (fun a => (un (c1 p1) (dom H0)) a ∧ ¬ (c1 p1) a)) (B := (fun a => (un (c1 p1) (dom H0)) a ∧ ¬ (c1 p1) a)) (TW.list h270.2.1 h270.2.2.1) (m_law_2) x278 h_x278 h270.2.2.2 ?_ ?_
      · intro D279 hD280 d281 y282 v283 Hq284 hy288 k289 hDn292 q290 M286 hM287
        unfold m_law_2 at hy288
        refine g_unT2 q290 (fun u294 q296 u295 q297 => ?_)
        refine ⟨_, _, rfl, _, _, rfl, rfl, ?_⟩
        refine ⟨rfl, ?_⟩
        obtain ⟨r298, h_r298, hy288⟩ := ob hy288
        refine ⟨_, rfl, _, rfl, (ins D279 (fun a => (un (c1 p1) (dom H0)) a ∧ ¬ (c1 p1) a)), u294, d281.a, u295, d281.b, r298, rfl, (((Dm.sub (B := (fun a => (un (c1 p1) (dom H0)) a ∧ ¬ (c1 p1) a)) (((Dm.dom.ex ex4).un n5.own.lv).kp k261) (fun _ z => z.1)).ex k289).ins hDn292), q296, q297, h_r298, fun Hq299 k300 => ?_⟩
        obtain rfl := si hy288
        exact hM287 _ _ k300 rfl
      · rintro D301 Hq302 hD303 e304 n305
        refine g_all (rp_lst' (n305.rp ((Dm.sub (B := (fun a => (un (c1 p1) (dom H0)) a ∧ ¬ (c1 p1) a)) (((Dm.dom.ex ex4).un n5.own.lv).kp k261) (fun _ z => z.1)).not hD303))) ?_
        obtain rfl := si hm0
        exact kk _ (Kp.ex ((((Kp.refl _).then ex4).trans k261 (fun x z => .inr ((c1_fr hp3) _ z))).then e304))
    · rintro s124 d125 c139 v126 σ127 Hq128 Hq129 ⟨t133, t134, t135, t136, rfl, k132, o137⟩ hf138 e130 q131 hr142 hb143
      have q141 := q131 _ (k132.le av0)
      obtain rfl := q141
      unfold m_law_1 at hf138
      obtain ⟨r144, h_r144, hf138⟩ := ob hf138
      refine ⟨_, rfl, _, rfl, (un (c1 p1) (dom H0)), v_law_script, x_law_script, d125, r144, rfl, ((((Dm.dom.ex ex4).un n5.own.lv).kp k132).ex e130), (Im.any (B := (un (c1 p1) (dom H0))) (Rp.le ((((Le.growS (c1_fr hp3)).trans ex4.le).trans (k132.le av0)).trans e130.le) w_law_script)), h_r144, fun p149 Hq145 k146 q148 => ?_⟩
      have e151 := k146
      have q152 := NwT.own2 (A := (un (c1 p1) (dom H0))) q148
      obtain ⟨r153, h_r153, hf138⟩ := ob hf138
      refine ⟨(un (c1 p149) (un (c1 p1) (dom H0))), p149, r144, r153, rfl, ((((((Dm.dom.ex ex4).un n5.own.lv).kp k132).ex e130).ex e151).un q152.2.lv), q152.2, h_r153, fun u157 Hq154 k155 o156 q158 => ?_⟩
      obtain ⟨r159, h_r159, hf138⟩ := ob hf138
      refine ⟨_, rfl, (un (c1 p149) (un (c1 p1) (dom H0))), u157, r153.1, r159, rfl, (((((((Dm.dom.ex ex4).un n5.own.lv).kp k132).ex e130).ex e151).un q152.2.lv).kp k155), (q158 (un (c1 p149) (un (c1 p1) (dom H0))) ((((((Dm.dom.ex ex4).un n5.own.lv).kp k132).ex e130).ex e151).un q152.2.lv)), h_r159, fun p164 Hq160 k161 q163 => ?_⟩
      have e168 := k161
      obtain ⟨R165, f166, o167⟩ := NwT.take (A := (un (c1 p149) (un (c1 p1) (dom H0)))) q163
      refine ⟨_, rfl, ?_⟩
      refine z_H5_a o167.zm (fun w169 z170 => ?_)
      refine ⟨_, rfl, ?_⟩
      refine z_H5_b o167.zm (fun w171 z172 => ?_)
      refine ⟨_, rfl, ?_⟩
      refine z_H5_c o167.zm (fun w173 z174 => ?_)
      refine ⟨_, rfl, ?_⟩
      refine z_H5_d o167.zm (fun w175 z176 => ?_)
      refine ⟨_, rfl, ?_⟩
      refine z_H5_e o167.zm (fun w177 z178 => ?_)
      intro p179 d180 hp181 hd182 nd183
      have e184 : Ex Hq160 (upd (upd Hq160 d180 (.own p179)) p179 (.ins a.C_Table d180 [])) := mk_ex0 hp181 hd182
      have o185 : OwnO (un (c1 p179) (un R165 (un (c1 p149) (un (c1 p1) (dom H0))))) (upd (upd Hq160 d180 (.own p179)) p179 (.ins a.C_Table d180 [])) p179 a.C_Table d180 [] := ⟨.inl rfl, upd_same⟩
      obtain ⟨r186, h_r186, hf138⟩ := ob hf138
      refine ⟨(fun a => (un (c1 p179) (un R165 (un (c1 p149) (un (c1 p1) (dom H0))))) a ∧ ¬ R165 a), p179, a.C_Table, d180, w169, r159.a, w171, r159.b, w173, r159.c, w175, r159.d, w177, r159.e, r186, rfl, (fun a z => (((((((((((Dm.dom.ex ex4).un n5.own.lv).kp k132).ex e130).ex e151).un q152.2.lv).kp k155).ex e168).un o167.lv).ex e184).un o185.lv) a z.1), T.n_Table, (o185.sub (fun _ z => z.1) (fun a z => ⟨av0 a z, (Dj.symm (Dj.fresh o167.lv (c1_fr hp181))) a z⟩)), (Zm.rp ((z170.un (c1_fr hp181)).ex e184) (fun a m z => z.2 m)), (Zm.rp ((z172.un (c1_fr hp181)).ex e184) (fun a m z => z.2 m)), (Zm.rp ((z174.un (c1_fr hp181)).ex e184) (fun a m z => z.2 m)), (Zm.rp ((z176.un (c1_fr hp181)).ex e184) (fun a m z => z.2 m)), (Zm.rp ((z178.un (c1_fr hp181)).ex e184) (fun a m z => z.2 m)), h_r186, fun Hq187 k188 o189 => ?_⟩
      obtain ⟨x190, h_x190, hf138⟩ := ob hf138
      refine ⟨rfl, ?_⟩
      refine ⟨fun b H' => b = x190 ∧ Ex Hq187 H', ?_, ?_⟩
      · obtain ⟨x194, h_x194, h_x190⟩ := ob h_x190
        obtain ⟨c_x194, rfl⟩ := eqD_of h_x194
        refine ⟨_, rfl, _, rfl, ?_⟩
        refine g_neD (x := r159) (y := r153.1) (Zm.rp (B := no) (o167.ex (mk_ex hp181 hd182 k188)).zm Dj.no) (Rp.le (((Le.growS f166).trans e168.le).trans (mk_ex hp181 hd182 k188).le) (q158 (un (c1 p149) (un (c1 p1) (dom H0))) ((((((Dm.dom.ex ex4).un n5.own.lv).kp k132).ex e130).ex e151).un q152.2.lv))) c_x194 (by decide) ?_
        refine ⟨_, rfl, ?_⟩
        refine ite2 (fun c195 => ?_) (fun c195 => ?_)
        · replace h_x190 := ifT c195 h_x190
          obtain rfl := si h_x190
          exact ⟨rfl, (Ex.refl _)⟩
        · replace h_x190 := ifF c195 h_x190
          obtain ⟨r196, h_r196, h_x190⟩ := ob h_x190
          refine ⟨_, rfl, _, rfl, (un R165 (un (c1 p149) (un (c1 p1) (dom H0)))), (V.ref p179), r186, u157, r153.1, r196, rfl, ((((((((((Dm.dom.ex ex4).un n5.own.lv).kp k132).ex e130).ex e151).un q152.2.lv).kp k155).ex e168).un o167.lv).ex (mk_ex hp181 hd182 k188)), (o189 (un R165 (un (c1 p149) (un (c1 p1) (dom H0)))) ((((((((((Dm.dom.ex ex4).un n5.own.lv).kp k132).ex e130).ex e151).un q152.2.lv).kp k155).ex e168).un o167.lv).ex e184) ((((((((((Dm.dom.ex ex4).un n5.own.lv).kp k132).ex e130).ex e151).un q152.2.lv).kp k155).ex e168).un o167.lv).not hp181)), (Rp.le (((Le.growS f166).trans e168.le).trans (mk_ex hp181 hd182 k188).le) (q158 (un (c1 p149) (un (c1 p1) (dom H0))) ((((((Dm.dom.ex ex4).un n5.own.lv).kp k132).ex e130).ex e151).un q152.2.lv))), h_r196, fun Hq197 k198 => ?_⟩
          refine ⟨_, rfl, ?_⟩
          refine ite2 (fun c199 => ?_) (fun c199 => ?_)
          · replace h_x190 := ifT c199 h_x190
            obtain rfl := si h_x190
            exact ⟨rfl, k198⟩
          · replace h_x190 := ifF c199 h_x190
            refine ⟨_, rfl, ?_⟩
            refine g_H5_a (Rp.le ((((Le.growS f166).trans e168.le).trans (mk_ex hp181 hd182 k188).le).trans k198.le) (q158 (un (c1 p149) (un (c1 p1) (dom H0))) ((((((Dm.dom.ex ex4).un n5.own.lv).kp k132).ex e130).ex e151).un q152.2.lv))) (fun u200 q201 => ?_)
            refine g_len (rp_lst' q201) ?_
            obtain ⟨r202, h_r202, h_x190⟩ := ob h_x190
            refine ⟨(un R165 (un (c1 p149) (un (c1 p1) (dom H0)))), ((r153.1.a).length : Int), r202, rfl, (((((((((((Dm.dom.ex ex4).un n5.own.lv).kp k132).ex e130).ex e151).un q152.2.lv).kp k155).ex e168).un o167.lv).ex (mk_ex hp181 hd182 k188)).ex k198), h_r202, fun Hq203 k204 => ?_⟩
            refine ⟨_, rfl, ?_⟩
            obtain rfl := si h_x190
            exact ⟨rfl, (k198.trans k204)⟩
      · rintro _ Hq191 ⟨rfl, e192⟩
        refine ite2 (fun c205 => ?_) (fun c205 => ?_)
        · replace hf138 := ifT c205 hf138
          have q206 := hr142 _ (si hf138).symm
          rw [q206] at hm0
          obtain rfl := si hm0
          exact kk _ (Kp.ex (((((((((Kp.refl _).then ex4).trans k132 (fun x z => .inr ((c1_fr hp3) _ z))).then e130).then e151).trans k155 (fun x z => .inr ((fun a z => (ex4.dom (k132.dom (e130.dom ((c1_fr q152.1) a z))))) _ z))).then e168).then (mk_ex hp181 hd182 k188)).then e192))
        · replace hf138 := ifF c205 hf138
          obtain ⟨r207, h_r207, hf138⟩ := ob hf138
          refine ⟨_, rfl, (un R165 (un (c1 p149) (un (c1 p1) (dom H0)))), R165, p164, r159, r207, rfl, (((((((((((Dm.dom.ex ex4).un n5.own.lv).kp k132).ex e130).ex e151).un q152.2.lv).kp k155).ex e168).un o167.lv).ex (mk_ex hp181 hd182 k188)).ex e192), ((o167.ex (mk_ex hp181 hd182 k188)).ex e192), h_r207, fun Hq208 k209 => ?_⟩
          refine ⟨_, rfl, ?_⟩
          obtain ⟨a210, dx211, fs212, h213⟩ := obj_Table_key_words T (Rp.le (e192.le.trans (k209.le av0)) (o189 (un R165 (un (c1 p149) (un (c1 p1) (dom H0)))) ((((((((((Dm.dom.ex ex4).un n5.own.lv).kp k132).ex e130).ex e151).un q152.2.lv).kp k155).ex e168).un o167.lv).ex e184) ((((((((((Dm.dom.ex ex4).un n5.own.lv).kp k132).ex e130).ex e151).un q152.2.lv).kp k155).ex e168).un o167.lv).not hp181)))
          refine ⟨a210, dx211, fs212, h213.1, h213.2.1, h213.2.2, ?_⟩
          obtain ⟨r214, h_r214, hf138⟩ := ob hf138
          refine ⟨(un R165 (un (c1 p149) (un (c1 p1) (dom H0)))), (V.ref p179), r186, r214, rfl, ((((((((((((Dm.dom.ex ex4).un n5.own.lv).kp k132).ex e130).ex e151).un q152.2.lv).kp k155).ex e168).un o167.lv).ex (mk_ex hp181 hd182 k188)).ex e192).kp k209), (Rp.le (e192.le.trans (k209.le av0)) (o189 (un R165 (un (c1 p149) (un (c1 p1) (dom H0)))) ((((((((((Dm.dom.ex ex4).un n5.own.lv).kp k132).ex e130).ex e151).un q152.2.lv).kp k155).ex e168).un o167.lv).ex e184) ((((((((((Dm.dom.ex ex4).un n5.own.lv).kp k132).ex e130).ex e151).un q152.2.lv).kp k155).ex e168).un o167.lv).not hp181))), h_r214, fun p217 Hq215 hp218 k216 n219 => ?_⟩
          obtain ⟨x220, h_x220, hf138⟩ := ob hf138
          obtain ⟨c_x220, rfl⟩ := appO_of h_x220
          refine ⟨((n219 (un R165 (un (c1 p149) (un (c1 p1) (dom H0)))) ((((((((((((Dm.dom.ex ex4).un n5.own.lv).kp k132).ex e130).ex e151).un q152.2.lv).kp k155).ex e168).un o167.lv).ex (mk_ex hp181 hd182 k188)).ex e192).kp k209)).own).ty, ?_⟩
          refine g_app (n219 (un R165 (un (c1 p149) (un (c1 p1) (dom H0)))) ((((((((((((Dm.dom.ex ex4).un n5.own.lv).kp k132).ex e130).ex e151).un q152.2.lv).kp k155).ex e168).un o167.lv).ex (mk_ex hp181 hd182 k188)).ex e192).kp k209)).own rfl c_x220 (fun Hq221 k222 o223 => ?_)
          refine ⟨_, rfl, ?_⟩
          obtain ⟨a224, dx225, fs226, h227⟩ := obj_Table_states T (Rp.le (((e192.le.trans (k209.le av0)).trans ((Le.growS (c1_fr hp218)).trans k216.le)).trans (k222.le av0)) (o189 (un R165 (un (c1 p149) (un (c1 p1) (dom H0)))) ((((((((((Dm.dom.ex ex4).un n5.own.lv).kp k132).ex e130).ex e151).un q152.2.lv).kp k155).ex e168).un o167.lv).ex e184) ((((((((((Dm.dom.ex ex4).un n5.own.lv).kp k132).ex e130).ex e151).un q152.2.lv).kp k155).ex e168).un o167.lv).not hp181)))
          refine ⟨a224, dx225, fs226, h227.1, h227.2.1, h227.2.2, ?_⟩
          obtain ⟨r228, h_r228, hf138⟩ := ob hf138
          refine ⟨(un (c1 p217) (un R165 (un (c1 p149) (un (c1 p1) (dom H0))))), (V.ref p179), r186, r228, rfl, (((((((((((((((Dm.dom.ex ex4).un n5.own.lv).kp k132).ex e130).ex e151).un q152.2.lv).kp k155).ex e168).un o167.lv).ex (mk_ex hp181 hd182 k188)).ex e192).kp k209).ex k216).un (n219 (un R165 (un (c1 p149) (un (c1 p1) (dom H0)))) ((((((((((((Dm.dom.ex ex4).un n5.own.lv).kp k132).ex e130).ex e151).un q152.2.lv).kp k155).ex e168).un o167.lv).ex (mk_ex hp181 hd182 k188)).ex e192).kp k209)).own.lv).kp k222), (Rp.le (((e192.le.trans (k209.le av0)).trans ((Le.growS (c1_fr hp218)).trans k216.le)).trans (k222.le av0)) (o189 (un R165 (un (c1 p149) (un (c1 p1) (dom H0)))) ((((((((((Dm.dom.ex ex4).un n5.own.lv).kp k132).ex e130).ex e151).un q152.2.lv).kp k155).ex e168).un o167.lv).ex e184) ((((((((((Dm.dom.ex ex4).un n5.own.lv).kp k132).ex e130).ex e151).un q152.2.lv).kp k155).ex e168).un o167.lv).not hp181))), h_r228, fun p231 Hq229 hp232 k230 n233 => ?_⟩
          refine ⟨((n233 (un (c1 p217) (un R165 (un (c1 p149) (un (c1 p1) (dom H0))))) (((((((((((((((Dm.dom.ex ex4).un n5.own.lv).kp k132).ex e130).ex e151).un q152.2.lv).kp k155).ex e168).un o167.lv).ex (mk_ex hp181 hd182 k188)).ex e192).kp k209).ex k216).un (n219 (un R165 (un (c1 p149) (un (c1 p1) (dom H0)))) ((((((((((((Dm.dom.ex ex4).un n5.own.lv).kp k132).ex e130).ex e151).un q152.2.lv).kp k155).ex e168).un o167.lv).ex (mk_ex hp181 hd182 k188)).ex e192).kp k209)).own.lv).kp k222)).own).ty, ?_⟩
          refine g_clear (n233 (un (c1 p217) (un R165 (un (c1 p149) (un (c1 p1) (dom H0))))) (((((((((((((((Dm.dom.ex ex4).un n5.own.lv).kp k132).ex e130).ex e151).un q152.2.lv).kp k155).ex e168).un o167.lv).ex (mk_ex hp181 hd182 k188)).ex e192).kp k209).ex k216).un (n219 (un R165 (un (c1 p149) (un (c1 p1) (dom H0)))) ((((((((((((Dm.dom.ex ex4).un n5.own.lv).kp k132).ex e130).ex e151).un q152.2.lv).kp k155).ex e168).un o167.lv).ex (mk_ex hp181 hd182 k188)).ex e192).kp k209)).own.lv).kp k222)).own (fun Hq234 k235 o236 => ?_)
          refine ⟨_, rfl, ?_⟩
          obtain ⟨a237, dx238, fs239, h240⟩ := obj_Table_lamps T (Rp.le (((((e192.le.trans (k209.le av0)).trans ((Le.growS (c1_fr hp218)).trans k216.le)).trans (k222.le av0)).trans ((Le.growS (c1_fr hp232)).trans k230.le)).trans (k235.le av0)) (o189 (un R165 (un (c1 p149) (un (c1 p1) (dom H0)))) ((((((((((Dm.dom.ex ex4).un n5.own.lv).kp k132).ex e130).ex e151).un q152.2.lv).kp k155).ex e168).un o167.lv).ex e184) ((((((((((Dm.dom.ex ex4).un n5.own.lv).kp k132).ex e130).ex e151).un q152.2.lv).kp k155).ex e168).un o167.lv).not hp181)))
          refine ⟨a237, dx238, fs239, h240.1, h240.2.1, h240.2.2, ?_⟩
          obtain ⟨r241, h_r241, hf138⟩ := ob hf138
          refine ⟨(un (c1 p231) (un (c1 p217) (un R165 (un (c1 p149) (un (c1 p1) (dom H0)))))), (V.ref p179), r186, r241, rfl, ((((((((((((((((((Dm.dom.ex ex4).un n5.own.lv).kp k132).ex e130).ex e151).un q152.2.lv).kp k155).ex e168).un o167.lv).ex (mk_ex hp181 hd182 k188)).ex e192).kp k209).ex k216).un (n219 (un R165 (un (c1 p149) (un (c1 p1) (dom H0)))) ((((((((((((Dm.dom.ex ex4).un n5.own.lv).kp k132).ex e130).ex e151).un q152.2.lv).kp k155).ex e168).un o167.lv).ex (mk_ex hp181 hd182 k188)).ex e192).kp k209)).own.lv).kp k222).ex k230).un (n233 (un (c1 p217) (un R165 (un (c1 p149) (un (c1 p1) (dom H0))))) (((((((((((((((Dm.dom.ex ex4).un n5.own.lv).kp k132).ex e130).ex e151).un q152.2.lv).kp k155).ex e168).un o167.lv).ex (mk_ex hp181 hd182 k188)).ex e192).kp k209).ex k216).un (n219 (un R165 (un (c1 p149) (un (c1 p1) (dom H0)))) ((((((((((((Dm.dom.ex ex4).un n5.own.lv).kp k132).ex e130).ex e151).un q152.2.lv).kp k155).ex e168).un o167.lv).ex (mk_ex hp181 hd182 k188)).ex e192).kp k209)).own.lv).kp k222)).own.lv).kp k235), (Rp.le (((((e192.le.trans (k209.le av0)).trans ((Le.growS (c1_fr hp218)).trans k216.le)).trans (k222.le av0)).trans ((Le.growS (c1_fr hp232)).trans k230.le)).trans (k235.le av0)) (o189 (un R165 (un (c1 p149) (un (c1 p1) (dom H0)))) ((((((((((Dm.dom.ex ex4).un n5.own.lv).kp k132).ex e130).ex e151).un q152.2.lv).kp k155).ex e168).un o167.lv).ex e184) ((((((((((Dm.dom.ex ex4).un n5.own.lv).kp k132).ex e130).ex e151).un q152.2.lv).kp k155).ex e168).un o167.lv).not hp181))), h_r241, fun p244 Hq242 hp245 k243 n246 => ?_⟩
          obtain ⟨x247, h_x247, hf138⟩ := ob hf138
          obtain ⟨c_x247, rfl⟩ := appO_of h_x247
          refine ⟨((n246 (un (c1 p231) (un (c1 p217) (un R165 (un (c1 p149) (un (c1 p1) (dom H0)))))) ((((((((((((((((((Dm.dom.ex ex4).un n5.own.lv).kp k132).ex e130).ex e151).un q152.2.lv).kp k155).ex e168).un o167.lv).ex (mk_ex hp181 hd182 k188)).ex e192).kp k209).ex k216).un (n219 (un R165 (un (c1 p149) (un (c1 p1) (dom H0)))) ((((((((((((Dm.dom.ex ex4).un n5.own.lv).kp k132).ex e130).ex e151).un q152.2.lv).kp k155).ex e168).un o167.lv).ex (mk_ex hp181 hd182 k188)).ex e192).kp k209)).own.lv).kp k222).ex k230).un (n233 (un (c1 p217) (un R165 (un (c1 p149) (un (c1 p1) (dom H0))))) (((((((((((((((Dm.dom.ex ex4).un n5.own.lv).kp k132).ex e130).ex e151).un q152.2.lv).kp k155).ex e168).un o167.lv).ex (mk_ex hp181 hd182 k188)).ex e192).kp k209).ex k216).un (n219 (un R165 (un (c1 p149) (un (c1 p1) (dom H0)))) ((((((((((((Dm.dom.ex ex4).un n5.own.lv).kp k132).ex e130).ex e151).un q152.2.lv).kp k155).ex e168).un o167.lv).ex (mk_ex hp181 hd182 k188)).ex e192).kp k209)).own.lv).kp k222)).own.lv).kp k235)).own).ty, ?_⟩
          refine g_app (n246 (un (c1 p231) (un (c1 p217) (un R165 (un (c1 p149) (un (c1 p1) (dom H0)))))) ((((((((((((((((((Dm.dom.ex ex4).un n5.own.lv).kp k132).ex e130).ex e151).un q152.2.lv).kp k155).ex e168).un o167.lv).ex (mk_ex hp181 hd182 k188)).ex e192).kp k209).ex k216).un (n219 (un R165 (un (c1 p149) (un (c1 p1) (dom H0)))) ((((((((((((Dm.dom.ex ex4).un n5.own.lv).kp k132).ex e130).ex e151).un q152.2.lv).kp k155).ex e168).un o167.lv).ex (mk_ex hp181 hd182 k188)).ex e192).kp k209)).own.lv).kp k222).ex k230).un (n233 (un (c1 p217) (un R165 (un (c1 p149) (un (c1 p1) (dom H0))))) (((((((((((((((Dm.dom.ex ex4).un n5.own.lv).kp k132).ex e130).ex e151).un q152.2.lv).kp k155).ex e168).un o167.lv).ex (mk_ex hp181 hd182 k188)).ex e192).kp k209).ex k216).un (n219 (un R165 (un (c1 p149) (un (c1 p1) (dom H0)))) ((((((((((((Dm.dom.ex ex4).un n5.own.lv).kp k132).ex e130).ex e151).un q152.2.lv).kp k155).ex e168).un o167.lv).ex (mk_ex hp181 hd182 k188)).ex e192).kp k209)).own.lv).kp k222)).own.lv).kp k235)).own rfl c_x247 (fun Hq248 k249 o250 => ?_)
          refine ⟨_, rfl, (((((((((((((((((((o137.ex e130).un (c1_fr q152.1)).ex e151).kp k155 av0 (Dj.fresh (o137.ex e130).lv (c1_fr q152.1))).un f166).ex e168).ex (mk_ex hp181 hd182 k188)).ex e192).kp k209 av0 (Dj.fresh ((((o137.ex e130).un (c1_fr q152.1)).ex e151).kp k155 av0 (Dj.fresh (o137.ex e130).lv (c1_fr q152.1))).lv f166)).un (c1_fr hp218)).ex k216).kp k222 av0 (Dj.fresh (((((((((o137.ex e130).un (c1_fr q152.1)).ex e151).kp k155 av0 (Dj.fresh (o137.ex e130).lv (c1_fr q152.1))).un f166).ex e168).ex (mk_ex hp181 hd182 k188)).ex e192).kp k209 av0 (Dj.fresh ((((o137.ex e130).un (c1_fr q152.1)).ex e151).kp k155 av0 (Dj.fresh (o137.ex e130).lv (c1_fr q152.1))).lv f166)).lv (c1_fr hp218))).un (c1_fr hp232)).ex k230).kp k235 av0 (Dj.fresh ((((((((((((o137.ex e130).un (c1_fr q152.1)).ex e151).kp k155 av0 (Dj.fresh (o137.ex e130).lv (c1_fr q152.1))).un f166).ex e168).ex (mk_ex hp181 hd182 k188)).ex e192).kp k209 av0 (Dj.fresh ((((o137.ex e130).un (c1_fr q152.1)).ex e151).kp k155 av0 (Dj.fresh (o137.ex e130).lv (c1_fr q152.1))).lv f166)).un (c1_fr hp218)).ex k216).kp k222 av0 (Dj.fresh (((((((((o137.ex e130).un (c1_fr q152.1)).ex e151).kp k155 av0 (Dj.fresh (o137.ex e130).lv (c1_fr q152.1))).un f166).ex e168).ex (mk_ex hp181 hd182 k188)).ex e192).kp k209 av0 (Dj.fresh ((((o137.ex e130).un (c1_fr q152.1)).ex e151).kp k155 av0 (Dj.fresh (o137.ex e130).lv (c1_fr q152.1))).lv f166)).lv (c1_fr hp218))).lv (c1_fr hp232))).un (c1_fr hp245)).ex k243).kp k249 av0 (Dj.fresh (((((((((((((((o137.ex e130).un (c1_fr q152.1)).ex e151).kp k155 av0 (Dj.fresh (o137.ex e130).lv (c1_fr q152.1))).un f166).ex e168).ex (mk_ex hp181 hd182 k188)).ex e192).kp k209 av0 (Dj.fresh ((((o137.ex e130).un (c1_fr q152.1)).ex e151).kp k155 av0 (Dj.fresh (o137.ex e130).lv (c1_fr q152.1))).lv f166)).un (c1_fr hp218)).ex k216).kp k222 av0 (Dj.fresh (((((((((o137.ex e130).un (c1_fr q152.1)).ex e151).kp k155 av0 (Dj.fresh (o137.ex e130).lv (c1_fr q152.1))).un f166).ex e168).ex (mk_ex hp181 hd182 k188)).ex e192).kp k209 av0 (Dj.fresh ((((o137.ex e130).un (c1_fr q152.1)).ex e151).kp k155 av0 (Dj.fresh (o137.ex e130).lv (c1_fr q152.1))).lv f166)).lv (c1_fr hp218))).un (c1_fr hp232)).ex k230).kp k235 av0 (Dj.fresh ((((((((((((o137.ex e130).un (c1_fr q152.1)).ex e151).kp k155 av0 (Dj.fresh (o137.ex e130).lv (c1_fr q152.1))).un f166).ex e168).ex (mk_ex hp181 hd182 k188)).ex e192).kp k209 av0 (Dj.fresh ((((o137.ex e130).un (c1_fr q152.1)).ex e151).kp k155 av0 (Dj.fresh (o137.ex e130).lv (c1_fr q152.1))).lv f166)).un (c1_fr hp218)).ex k216).kp k222 av0 (Dj.fresh (((((((((o137.ex e130).un (c1_fr q152.1)).ex e151).kp k155 av0 (Dj.fresh (o137.ex e130).lv (c1_fr q152.1))).un f166).ex e168).ex (mk_ex hp181 hd182 k188)).ex e192).kp k209 av0 (Dj.fresh ((((o137.ex e130).un (c1_fr q152.1)).ex e151).kp k155 av0 (Dj.fresh (o137.ex e130).lv (c1_fr q152.1))).lv f166)).lv (c1_fr hp218))).lv (c1_fr hp232))).lv (c1_fr hp245)))).ty, _, rfl, _, rfl, ?_⟩
          refine g_mkT2 (K := K) (L := (un (c1 p244) (un (c1 p231) (un (c1 p217) (un R165 (un (c1 p149) (un (c1 p1) (dom H0)))))))) (x := (⟨r186, r153.1⟩ : (T2 O_Table (H5 (List Str) (List Str) (List Str) (List (List Int)) (List (Tup Int)))))) (Rp.le (((((((e192.le.trans (k209.le av0)).trans ((Le.growS (c1_fr hp218)).trans k216.le)).trans (k222.le av0)).trans ((Le.growS (c1_fr hp232)).trans k230.le)).trans (k235.le av0)).trans ((Le.growS (c1_fr hp245)).trans k243.le)).trans (k249.le av0)) (o189 (un R165 (un (c1 p149) (un (c1 p1) (dom H0)))) ((((((((((Dm.dom.ex ex4).un n5.own.lv).kp k132).ex e130).ex e151).un q152.2.lv).kp k155).ex e168).un o167.lv).ex e184) ((((((((((Dm.dom.ex ex4).un n5.own.lv).kp k132).ex e130).ex e151).un q152.2.lv).kp k155).ex e168).un o167.lv).not hp181))) (Rp.le (((((((((((Le.growS f166).trans e168.le).trans (mk_ex hp181 hd182 k188).le).trans e192.le).trans (k209.le av0)).trans ((Le.growS (c1_fr hp218)).trans k216.le)).trans (k222.le av0)).trans ((Le.growS (c1_fr hp232)).trans k230.le)).trans (k235.le av0)).trans ((Le.growS (c1_fr hp245)).trans k243.le)).trans (k249.le av0)) (q158 (un (c1 p149) (un (c1 p1) (dom H0))) ((((((Dm.dom.ex ex4).un n5.own.lv).kp k132).ex e130).ex e151).un q152.2.lv))) (fun u251 Hq252 ex253 q254 => ?_)
          obtain ⟨x255, h_x255, hf138⟩ := ob hf138
          obtain ⟨c_x255, rfl⟩ := appO_of h_x255
          refine g_app (((((((((((((((((((o137.ex e130).un (c1_fr q152.1)).ex e151).kp k155 av0 (Dj.fresh (o137.ex e130).lv (c1_fr q152.1))).un f166).ex e168).ex (mk_ex hp181 hd182 k188)).ex e192).kp k209 av0 (Dj.fresh ((((o137.ex e130).un (c1_fr q152.1)).ex e151).kp k155 av0 (Dj.fresh (o137.ex e130).lv (c1_fr q152.1))).lv f166)).un (c1_fr hp218)).ex k216).kp k222 av0 (Dj.fresh (((((((((o137.ex e130).un (c1_fr q152.1)).ex e151).kp k155 av0 (Dj.fresh (o137.ex e130).lv (c1_fr q152.1))).un f166).ex e168).ex (mk_ex hp181 hd182 k188)).ex e192).kp k209 av0 (Dj.fresh ((((o137.ex e130).un (c1_fr q152.1)).ex e151).kp k155 av0 (Dj.fresh (o137.ex e130).lv (c1_fr q152.1))).lv f166)).lv (c1_fr hp218))).un (c1_fr hp232)).ex k230).kp k235 av0 (Dj.fresh ((((((((((((o137.ex e130).un (c1_fr q152.1)).ex e151).kp k155 av0 (Dj.fresh (o137.ex e130).lv (c1_fr q152.1))).un f166).ex e168).ex (mk_ex hp181 hd182 k188)).ex e192).kp k209 av0 (Dj.fresh ((((o137.ex e130).un (c1_fr q152.1)).ex e151).kp k155 av0 (Dj.fresh (o137.ex e130).lv (c1_fr q152.1))).lv f166)).un (c1_fr hp218)).ex k216).kp k222 av0 (Dj.fresh (((((((((o137.ex e130).un (c1_fr q152.1)).ex e151).kp k155 av0 (Dj.fresh (o137.ex e130).lv (c1_fr q152.1))).un f166).ex e168).ex (mk_ex hp181 hd182 k188)).ex e192).kp k209 av0 (Dj.fresh ((((o137.ex e130).un (c1_fr q152.1)).ex e151).kp k155 av0 (Dj.fresh (o137.ex e130).lv (c1_fr q152.1))).lv f166)).lv (c1_fr hp218))).lv (c1_fr hp232))).un (c1_fr hp245)).ex k243).kp k249 av0 (Dj.fresh (((((((((((((((o137.ex e130).un (c1_fr q152.1)).ex e151).kp k155 av0 (Dj.fresh (o137.ex e130).lv (c1_fr q152.1))).un f166).ex e168).ex (mk_ex hp181 hd182 k188)).ex e192).kp k209 av0 (Dj.fresh ((((o137.ex e130).un (c1_fr q152.1)).ex e151).kp k155 av0 (Dj.fresh (o137.ex e130).lv (c1_fr q152.1))).lv f166)).un (c1_fr hp218)).ex k216).kp k222 av0 (Dj.fresh (((((((((o137.ex e130).un (c1_fr q152.1)).ex e151).kp k155 av0 (Dj.fresh (o137.ex e130).lv (c1_fr q152.1))).un f166).ex e168).ex (mk_ex hp181 hd182 k188)).ex e192).kp k209 av0 (Dj.fresh ((((o137.ex e130).un (c1_fr q152.1)).ex e151).kp k155 av0 (Dj.fresh (o137.ex e130).lv (c1_fr q152.1))).lv f166)).lv (c1_fr hp218))).un (c1_fr hp232)).ex k230).kp k235 av0 (Dj.fresh ((((((((((((o137.ex e130).un (c1_fr q152.1)).ex e151).kp k155 av0 (Dj.fresh (o137.ex e130).lv (c1_fr q152.1))).un f166).ex e168).ex (mk_ex hp181 hd182 k188)).ex e192).kp k209 av0 (Dj.fresh ((((o137.ex e130).un (c1_fr q152.1)).ex e151).kp k155 av0 (Dj.fresh (o137.ex e130).lv (c1_fr q152.1))).lv f166)).un (c1_fr hp218)).ex k216).kp k222 av0 (Dj.fresh (((((((((o137.ex e130).un (c1_fr q152.1)).ex e151).kp k155 av0 (Dj.fresh (o137.ex e130).lv (c1_fr q152.1))).un f166).ex e168).ex (mk_ex hp181 hd182 k188)).ex e192).kp k209 av0 (Dj.fresh ((((o137.ex e130).un (c1_fr q152.1)).ex e151).kp k155 av0 (Dj.fresh (o137.ex e130).lv (c1_fr q152.1))).lv f166)).lv (c1_fr hp218))).lv (c1_fr hp232))).lv (c1_fr hp245))).ex ex253) q254 c_x255 (fun Hq256 k257 o258 => ?_)
          exact ⟨_, (si hf138).symm, ⟨_, _, _, _, rfl, (((((((((((((((((Kp.refl _).trans k132 (fun x z => .inl z)).then e130).then e151).trans k155 (fun x z => .inr ((fun a z => (k132.dom (e130.dom ((c1_fr q152.1) a z)))) _ z))).then e168).then (mk_ex hp181 hd182 k188)).then e192).trans k209 (fun x z => .inr ((fun a z => (k132.dom (e130.dom (e151.dom (k155.dom (f166 a z)))))) _ z))).then k216).trans k222 (fun x z => .inr ((fun a z => (k132.dom (e130.dom (e151.dom (k155.dom (e168.dom ((mk_ex hp181 hd182 k188).dom (e192.dom (k209.dom ((c1_fr hp218) a z)))))))))) _ z))).then k230).trans k235 (fun x z => .inr ((fun a z => (k132.dom (e130.dom (e151.dom (k155.dom (e168.dom ((mk_ex hp181 hd182 k188).dom (e192.dom (k209.dom (k216.dom (k222.dom ((c1_fr hp232) a z)))))))))))) _ z))).then k243).trans k249 (fun x z => .inr ((fun a z => (k132.dom (e130.dom (e151.dom (k155.dom (e168.dom ((mk_ex hp181 hd182 k188).dom (e192.dom (k209.dom (k216.dom (k222.dom (k230.dom (k235.dom ((c1_fr hp245) a z)))))))))))))) _ z))).then ex253).trans k257 (fun x z => .inl z)), (o258.sub (fun _ z => (.inr (.inr (.inr (.inr (.inr z)))))) av0)⟩⟩
end
/-! ### draws, words, tables as the law makes them -/
abbrev Pot := H2 Int Int
def Pv (p : Pot) : Prop := 0 ≤ p.a
theorem draw_ok {p : Pot} {n : Int} (h : Pv p) (hn : 0 < n ∧ n < 1073741824) : Ok (m_law_draw p n) fun r => (0 ≤ r.1 ∧ r.1 < n) ∧ Pv r.2 := by
  have h1 : 0 ≤ p.a := h
  unfold m_law_draw
  by_cases q : decide (p.a > 0) = true
  · rw [if_pos q]
    have e : divO p.a n = some (p.a / n) := if_pos hn
    rw [e]
    exact ⟨_, rfl, ⟨Int.emod_nonneg _ (by omega), Int.emod_lt_of_pos _ hn.1⟩, Int.ediv_nonneg h1 (by omega)⟩
  · rw [if_neg q]
    have b0 : 0 ≤ (p.b * 48271 + 3571) % 2147483647 := Int.emod_nonneg _ (by decide)
    have b1 : (p.b * 48271 + 3571) % 2147483647 < 2147483647 := Int.emod_lt_of_pos _ (by decide)
    generalize (p.b * 48271 + 3571) % 2147483647 = b at b0 b1
    have e : mulO b b = some (b * b) := if_pos (.inl ⟨by omega, by omega⟩)
    show Ok ((mulO b b).bind _) _
    rw [e]
    show Ok ((modO (b * b % 2147483629 / 13) n).bind _) _
    have e2 : modO (b * b % 2147483629 / 13) n = some ((b * b % 2147483629 / 13) % n) := if_pos hn.1
    rw [e2]
    exact ⟨_, rfl, ⟨Int.emod_nonneg _ (by omega), Int.emod_lt_of_pos _ hn.1⟩, h1⟩
theorem pot_ok (s : Script) {k : Int} (hk : 0 ≤ k) : Ok (m_law_pot s k) Pv := by
  unfold m_law_pot
  refine Ok.bind (P := fun _ => True) ?_ fun x _ => ?_
  · by_cases q : decide (k < (s.l.length : Int)) = true
    · rw [if_pos q]
      have q' := of_decide_eq_true q
      exact Ok.bind (atI_ok ⟨hk, q'⟩ fun _ _ => trivial) fun a _ => .pure trivial
    · rw [if_neg q]
      exact .pure trivial
  · have e0 : 0 ≤ (if x < 0 then -x else x) := by split <;> omega
    generalize (if x < 0 then -x else x) = y at e0
    refine .pure ?_
    show 0 ≤ (if _ > (0 : Int) then _ else (0 : Int))
    split <;> omega
/-! words -/
theorem word1_ok {p : Pot} (h : Pv p) (d : Int) : Ok (m_law_word_1 abc p d) fun r => (∃ c, lett c ∧ r.1 = sg c) ∧ Pv r.2 := by
  refine Ok.bind (draw_ok h (by decide)) fun r hr => ?_
  rw [abc_ix hr.1]
  exact .pure ⟨⟨97 + r.1.toNat, ⟨by omega, by omega⟩, rfl⟩, hr.2⟩
/-- the first sign moved on -/
def turn (w : Str) : Str := match w.cps.toList with
  | [] => w
  | c :: cs => ⟨((97 + (c - 97 + 1) % 26) :: cs).toArray⟩
def turns : Nat → Str → Str
  | 0, w => w
  | n + 1, w => turn (turns n w)
theorem turn_list {w : Str} {c : Nat} {cs : List Nat} (h : w.cps.toList = c :: cs) : (turn w).cps.toList = (97 + (c - 97 + 1) % 26) :: cs := by
  unfold turn
  rw [h]
theorem turn_wd {w : Str} (h : Wd w) : Wd (turn w) := by
  obtain ⟨h1, h2, h3⟩ := h
  cases e : w.cps.toList with
  | nil =>
    rw [e] at h1
    exact absurd h1 (by decide)
  | cons c cs =>
    rw [e] at h1 h2 h3
    unfold Wd
    rw [turn_list e]
    refine ⟨h1, h2, fun x hx => ?_⟩
    rcases List.mem_cons.mp hx with hx | hx
    · rw [hx]
      have : (c - 97 + 1) % 26 < 26 := Nat.mod_lt _ (by decide)
      exact ⟨by omega, by omega⟩
    · exact h3 x (List.mem_cons_of_mem _ hx)
theorem turns_wd {w : Str} (h : Wd w) : ∀ n, Wd (turns n w)
  | 0 => h
  | n + 1 => turn_wd (turns_wd h n)
theorem turns_list {w : Str} {c : Nat} {cs : List Nat} (h : w.cps.toList = c :: cs) (hc : lett c) : ∀ n, (turns n w).cps.toList = (97 + (c - 97 + n) % 26) :: cs
  | 0 => by
    have := hc.1
    have := hc.2
    show w.cps.toList = _
    rw [h, Nat.add_zero, Nat.mod_eq_of_lt (by omega)]
    congr 1
    omega
  | n + 1 => by
    show (turn (turns n w)).cps.toList = _
    rw [turn_list (turns_list h hc n)]
    congr 2
    rw [Nat.add_sub_cancel_left, Nat.mod_add_mod]
    rfl
theorem turns_inj {w : Str} (hw : Wd w) {i j : Nat} (hi : i < 26) (hj : j < 26) (e : turns i w = turns j w) : i = j := by
  obtain ⟨h1, h2, h3⟩ := hw
  cases q : w.cps.toList with
  | nil =>
    rw [q] at h1
    exact absurd h1 (by decide)
  | cons c cs =>
    have hc : lett c := h3 c (q ▸ List.mem_cons_self ..)
    have e1 := turns_list q hc i
    rw [e, turns_list q hc j] at e1
    have e2 := (List.cons.inj e1).1
    omega
theorem word2_eq {w : Str} (hw : Wd w) (taken : List Str) (d : Int) : m_law_word_2 taken abc w d = some (if w ∈ taken then turn w else w) := by
  unfold m_law_word_2
  by_cases m : w ∈ taken
  · rw [if_pos m, if_pos (decide_eq_true m)]
    obtain ⟨h1, h2, h3⟩ := hw
    cases q : w.cps.toList with
    | nil =>
      rw [q] at h1
      exact absurd h1 (by decide)
    | cons c cs =>
      have hc : lett c := h3 c (q ▸ List.mem_cons_self ..)
      have hl : w.length = cs.length + 1 := by rw [len_eq, q, List.length_cons]
      have h8 : cs.length + 1 ≤ 8 := by
        rw [q, List.length_cons] at h2
        exact h2
      have e1 : ixS w 0 = some (sg c) := by
        unfold ixS
        rw [if_pos (show w.length ≤ big by rw [hl]; show cs.length + 1 ≤ 1000000; omega), q, atI_eq ⟨Int.le_refl 0, by rw [List.length_cons]; omega⟩]
        rfl
      have e3 : ixS abc ((((c : Int) - 97) + 1) % 26) = some (sg (97 + (c - 97 + 1) % 26)) := by
        have := hc.1
        rw [abc_ix ⟨by omega, by omega⟩]
        congr 2
        omega
      have e4 : slS w (some 1) none = some (cutS w (some 1) none) := if_pos (by rw [hl]; show cs.length + 1 ≤ 1000000; omega)
      have ht := tail_eq q
      have e5 : addS (sg (97 + (c - 97 + 1) % 26)) (cutS w (some 1) none) = some (sg (97 + (c - 97 + 1) % 26) ++ cutS w (some 1) none) := by
        refine if_pos ?_
        rw [len_eq, len_eq, ht]
        show 1 + cs.length ≤ 1000000
        omega
      rw [e1]
      show ((idxS abc (sg c)).bind _) = _
      rw [abc_idx hc]
      show ((ixS abc ((((c : Int) - 97) + 1) % 26)).bind _) = _
      rw [e3]
      show ((slS w (some 1) none).bind _) = _
      rw [e4]
      show ((addS (sg (97 + (c - 97 + 1) % 26)) (cutS w (some 1) none)).bind _) = _
      rw [e5]
      refine congrArg some (str_ext ?_)
      rw [turn_list q]
      show (#[97 + (c - 97 + 1) % 26] ++ (cutS w (some 1) none).cps).toList = _
      rw [Array.toList_append, ht]
      rfl
  · rw [if_neg m, if_neg (fun z => m (of_decide_eq_true z))]
theorem word_free {w : Str} (hw : Wd w) {taken : List Str} (ht : taken.length < 26) (ds : List Int) (hd : ds.length = 26) : Ok (foldO (m_law_word_2 taken abc) w ds) fun r => Wd r ∧ r ∉ taken := by
  have h := Ok.foldO (m_law_word_2 taken abc) (fun n s => Wd s ∧ (s ∉ taken ∨ (s = turns n w ∧ ∀ i, i < n → turns i w ∈ taken))) ds w 0 ⟨hw, .inr ⟨rfl, fun _ z => absurd z (Nat.not_lt_zero _)⟩⟩ fun i d s _ hs => by
    rw [Nat.zero_add] at hs ⊢
    rw [word2_eq hs.1]
    refine .pure ?_
    by_cases m : s ∈ taken
    · rw [if_pos m]
      refine ⟨turn_wd hs.1, .inr ?_⟩
      rcases hs.2 with n | ⟨e, a⟩
      · exact absurd m n
      · refine ⟨by rw [e]; rfl, fun j hj => ?_⟩
        by_cases q : j = i
        · rw [q, ← e]
          exact m
        · exact a j (by omega)
    · rw [if_neg m]
      exact ⟨hs.1, .inl m⟩
  refine h.mono fun r hr => ⟨hr.1, ?_⟩
  rw [Nat.zero_add, hd] at hr
  rcases hr.2 with n | ⟨e, a⟩
  · exact n
  · exfalso
    have sub : ∀ x ∈ (List.range 26).map (fun i => turns i w), x ∈ taken := fun x hx => by
      obtain ⟨i, hi, rfl⟩ := List.mem_map.mp hx
      exact a i (List.mem_range.mp hi)
    have nd : ((List.range 26).map (fun i => turns i w)).Nodup := by
      refine List.pairwise_map.mpr ?_
      refine List.Pairwise.imp_of_mem (R := fun a b => a ≠ b) ?_ List.nodup_range
      intro a b ha hb hab e
      exact hab (turns_inj hw (List.mem_range.mp ha) (List.mem_range.mp hb) e)
    have := nd.length_le_of_subset sub
    rw [List.length_map, List.length_range] at this
    omega
/-- the words drawn so far: words, all apart -/
def Ws (ws : List Str) : Prop := (∀ w ∈ ws, Wd w) ∧ ws.Nodup
theorem Ws.snoc {ws : List Str} {w : Str} (h : Ws ws) (hw : Wd w) (n : w ∉ ws) : Ws (ws ++ [w]) := by
  refine ⟨fun x hx => ?_, ?_⟩
  · rcases List.mem_append.mp hx with hx | hx
    · exact h.1 x hx
    · rw [List.mem_singleton.mp hx]
      exact hw
  · refine List.nodup_append.mpr ⟨h.2, List.pairwise_singleton _ _, fun a ha b hb e => ?_⟩
    rw [List.mem_singleton.mp hb] at e
    exact n (e ▸ ha)
theorem word_ok {p : Pot} (h : Pv p) {taken : List Str} (ht : taken.length < 26) (hw : Ws taken) : Ok (m_law_word p taken) fun r => Pv r.2.1 ∧ r.2.2 = taken ++ [r.1] ∧ Ws (taken ++ [r.1]) := by
  unfold m_law_word
  refine Ok.bind (draw_ok h (by decide)) fun r1 hr1 => ?_
  have e1 : rng1 ((1 : Int) + r1.1) = some (rng 0 ((1 : Int) + r1.1).toNat) := rng1_eq (by omega)
  rw [e1]
  refine Ok.bind (P := fun x : List Str × Pot => Pv x.2 ∧ ∃ cs : List Nat, x.1 = cs.map sg ∧ 1 ≤ cs.length ∧ cs.length ≤ 8 ∧ ∀ c ∈ cs, lett c) ?_ fun x hx => ?_
  · refine (Ok.mapS (m_law_word_1 abc) (fun s acc => Pv s ∧ ∃ cs : List Nat, acc = cs.map sg ∧ ∀ c ∈ cs, lett c) _ r1.2 [] ⟨hr1.2, [], rfl, fun _ z => by cases z⟩ fun _ d s acc _ _ ⟨hs, cs, ea, hc⟩ => ?_).mono fun x ⟨⟨h1, cs, h2, h3⟩, h4⟩ => ?_
    · refine (word1_ok hs d).mono fun y ⟨⟨c, hc1, hy⟩, hp⟩ => ⟨hp, cs ++ [c], by rw [ea, hy, List.map_append]; rfl, fun z hz => ?_⟩
      rcases List.mem_append.mp hz with hz | hz
      · exact hc z hz
      · rw [List.mem_singleton.mp hz]
        exact hc1
    · rw [List.nil_append] at h2
      rw [rng_length, h2, List.length_map] at h4
      exact ⟨h1, cs, h2, by omega, by omega, h3⟩
  · obtain ⟨hp, cs, ex, l1, l8, hl⟩ := hx
    have ne : cs ≠ [] := fun z => by
      rw [z] at l1
      exact absurd l1 (by decide)
    obtain ⟨c, cs', rfl⟩ := List.exists_cons_of_ne_nil ne
    have ej : joinO "" x.1 = some (Txt.join "" x.1) := by
      refine if_pos ?_
      have e0 : ("" : Str).length = 0 := rfl
      rw [e0, Nat.mul_zero, Nat.add_zero, ex]
      have : (((c :: cs').map sg).map (·.length)).sum = (c :: cs').length := by
        generalize (c :: cs') = l
        induction l with
        | nil => rfl
        | cons a l ih =>
          rw [List.map_cons, List.map_cons, List.sum_cons, ih, List.length_cons]
          show 1 + l.length = l.length + 1
          omega
      rw [this]
      omega
    rw [ej, Option.bind_some]
    have e26 : rng1 26 = some (rng 0 26) := rfl
    have wd : Wd (Txt.join "" x.1) := by
      unfold Wd
      rw [ex, join_sg]
      exact ⟨l1, l8, hl⟩
    rw [e26, Option.bind_some]
    refine Ok.bind (word_free wd ht (rng 0 26) (rng_length 0 26)) fun y hy => ?_
    rw [appO_eq (show taken.length < big by show taken.length < 1000000; omega)]
    exact .pure ⟨hp, rfl, hw.snoc hy.1 hy.2⟩
theorem words_ok {p : Pot} (h : Pv p) {taken : List Str} {n : Int} (hn : 0 ≤ n ∧ n ≤ 4) (ht : taken.length ≤ 20) (hw : Ws taken) : Ok (m_law_words p n taken) fun r => Pv r.2.1 ∧ r.2.2 = taken ++ r.1 ∧ Ws (taken ++ r.1) ∧ (r.1.length : Int) = n := by
  unfold m_law_words
  rw [rng1_eq (by omega), Option.bind_some]
  refine Ok.bind (P := fun x : List Str × (Pot × List Str) => (Pv x.2.1 ∧ x.2.2 = taken ++ x.1 ∧ Ws (taken ++ x.1)) ∧ (x.1.length : Int) = n) ?_ fun x ⟨⟨h1, h2, h3⟩, h4⟩ => .pure ⟨h1, h2, h3, h4⟩
  refine (Ok.mapS m_law_words_1 (fun s acc => Pv s.1 ∧ s.2 = taken ++ acc ∧ Ws (taken ++ acc)) (rng 0 n.toNat) (p, taken) [] ⟨h, (List.append_nil _).symm, by rwa [List.append_nil]⟩ fun i d s ac hd hl hs => ?_).mono fun x ⟨h1, h4⟩ => ⟨by rwa [List.nil_append] at h1, by rw [h4, rng_length]; omega⟩
  obtain ⟨h1, h2, h3⟩ := hs
  have hi := (rng_get0 hd).1
  unfold m_law_words_1
  rw [h2]
  refine Ok.bind (word_ok h1 (by rw [List.length_append, hl, List.length_nil]; omega) h3) fun r hr => .pure ⟨hr.1, ?_, ?_⟩
  · show r.2.2 = _
    rw [hr.2.1, List.append_assoc]
  · rw [← List.append_assoc]
    exact hr.2.2
/-! rows -/
/-- the rows as far as x letters have gone: many of them, settled -/
def Rw (many x : Nat) (rows : List (List Int)) : Prop := rows.length = many ∧ ∀ row ∈ rows, row.length = x ∧ ∀ (j : Nat) (g : Int), row[j]? = some g → 0 ≤ g ∧ g < many ∧ ∃ r2, rows[g.toNat]? = some r2 ∧ r2[j]? = some g
theorem rows4_ok {p : Pot} (h : Pv p) {many x : Nat} (hx : x < 1000) {stay : List Int} (hs : ∀ g ∈ stay, 0 ≤ g ∧ g < many) (ne : stay ≠ []) (hl : stay.length < 1000) {rows : List (List Int)} (hr : rows.length = many) (hrl : ∀ row ∈ rows, row.length = x) :
    Ok (foldO (m_law_rows_4 stay) (p, rows) (rng 0 many)) fun r => Pv r.1 ∧ r.2.length = many ∧ ∀ i, i < many → ∃ row g, rows[i]? = some row ∧ r.2[i]? = some (row ++ [g]) ∧ g ∈ stay ∧ ((i : Int) ∈ stay → g = i) := by
  refine (Ok.foldO (m_law_rows_4 stay) (fun n s => Pv s.1 ∧ s.2.length = many ∧ (∀ i, n ≤ i → s.2[i]? = rows[i]?) ∧ ∀ i, i < n → ∃ row g, rows[i]? = some row ∧ s.2[i]? = some (row ++ [g]) ∧ g ∈ stay ∧ ((i : Int) ∈ stay → g = i)) (rng 0 many) (p, rows) 0 ⟨h, hr, fun _ _ => rfl, fun i hi => absurd hi (Nat.not_lt_zero i)⟩ fun i d s hd hs4 => ?_).mono fun r hr => ?_
  · rw [Nat.zero_add] at hs4 ⊢
    obtain ⟨hi, rfl⟩ := rng_get0 hd
    obtain ⟨s1, s2, s3, s4⟩ := hs4
    have hir : i < rows.length := by omega
    have e0 : s.2[i]? = some (rows[i]) := by rw [s3 i (Nat.le_refl i), List.getElem?_eq_getElem hir]
    have e1 : atI s.2 (i : Int) = some (rows[i]) := by
      unfold atI ixN
      rw [if_pos (by omega), if_pos (by omega)]
      exact e0
    unfold m_law_rows_4
    rw [e1, Option.bind_some]
    have hrow := hrl _ (List.getElem_mem hir)
    refine Ok.bind (P := fun y : Int × Pot => Pv y.2 ∧ y.1 ∈ stay ∧ ((i : Int) ∈ stay → y.1 = i)) ?_ fun y ⟨y1, y2, y3⟩ => ?_
    · by_cases m : (i : Int) ∈ stay
      · rw [if_pos (decide_eq_true m)]
        exact .pure ⟨s1, m, fun _ => rfl⟩
      · rw [if_neg (fun z => m (of_decide_eq_true z))]
        have hp : 0 < stay.length := List.length_pos_iff.mpr ne
        refine Ok.bind (draw_ok s1 (by omega)) fun y hy => ?_
        exact Ok.bind (P := fun z => z ∈ stay) (atI_ok hy.1 fun _ hz => hz) fun z hz => .pure ⟨hy.2, hz, fun q => absurd q m⟩
    · rw [appO_eq (show (rows[i]).length < big by rw [hrow]; show x < 1000000; omega), Option.bind_some]
      have es : setI s.2 (i : Int) (rows[i] ++ [y.1]) = s.2.set i (rows[i] ++ [y.1]) := by
        unfold setI ixN
        rw [if_pos (by omega), if_pos (by omega)]
        rfl
      refine .pure ⟨y1, ?_, fun j hj => ?_, fun j hj => ?_⟩
      · show (setI s.2 (i : Int) (rows[i] ++ [y.1])).length = many
        rw [es, List.length_set]
        exact s2
      · show (setI s.2 (i : Int) (rows[i] ++ [y.1]))[j]? = _
        rw [es, List.getElem?_set_ne (by omega)]
        exact s3 j (by omega)
      · show ∃ row g, rows[j]? = some row ∧ (setI s.2 (i : Int) (rows[i] ++ [y.1]))[j]? = some (row ++ [g]) ∧ g ∈ stay ∧ ((j : Int) ∈ stay → g = j)
        rw [es]
        by_cases q : j = i
        · subst q
          exact ⟨rows[j], y.1, List.getElem?_eq_getElem hir, List.getElem?_set_self (by omega), y2, y3⟩
        · rw [List.getElem?_set_ne (by omega)]
          exact s4 j (by omega)
  · rw [Nat.zero_add, rng_length] at hr
    exact ⟨hr.1, hr.2.1, hr.2.2.2⟩
theorem rows5_ok {p : Pot} (h : Pv p) {many x : Nat} (hm : 0 < many ∧ many < 1000) (hx : x < 1000) {rows : List (List Int)} (hr : Rw many x rows) (d : Int) : Ok (m_law_rows_5 (many : Int) (p, rows) d) fun r => Pv r.1 ∧ Rw many (x + 1) r.2 := by
  unfold m_law_rows_5
  rw [rng1_eq (by omega), Option.bind_some, Int.toNat_natCast]
  refine Ok.bind (Ok.filtS' (Ok.filtS m_law_rows_3 m_law_rows_2 Pv (fun g => 0 ≤ g ∧ g < (many : Int)) (rng 0 many) p h fun d hd s hs => ?_)) fun x1 ⟨⟨hx1, hx2⟩, hx3⟩ => ?_
  · exact Ok.bind (draw_ok hs (by decide)) fun r hr => .pure ⟨hr.2, fun _ => .pure ⟨hr.2, rng_mem hd⟩⟩
  · rw [eqD_eq (List.all_eq_true.mpr fun _ _ => rfl) rfl, Option.bind_some]
    refine Ok.bind (P := fun y : List Int × Pot => (∀ g ∈ y.1, 0 ≤ g ∧ g < (many : Int)) ∧ y.1 ≠ [] ∧ y.1.length < 1000 ∧ Pv y.2) ?_ fun y ⟨y1, y2, y3, y4⟩ => ?_
    · by_cases q : x1.1 = []
      · rw [if_pos (decide_eq_true q)]
        refine Ok.bind (draw_ok hx1 (by omega)) fun r hr => .pure ⟨fun g hg => ?_, fun z => (by cases z), by show 1 < 1000; decide, hr.2⟩
        rw [List.mem_singleton.mp hg]
        exact hr.1
      · rw [if_neg (fun z => q (of_decide_eq_true z))]
        exact .pure ⟨hx2, q, by rw [rng_length] at hx3; show x1.1.length < 1000; omega, hx1⟩
    · rw [Option.bind_some]
      refine Ok.bind (rows4_ok y4 hx y1 y2 y3 hr.1 fun row hrow => (hr.2 row hrow).1) fun r ⟨r1, r2, r3⟩ => .pure ⟨r1, r2, fun row hrow => ?_⟩
      obtain ⟨i, hi⟩ := List.mem_iff_getElem?.mp hrow
      have him : i < many := by
        have := (List.getElem?_eq_some_iff.mp hi).1
        rwa [show ((r.1, r.2).2 : List (List Int)).length = many from r2] at this
      obtain ⟨row0, g, e1, e2, e3, e4⟩ := r3 i him
      have er : row = row0 ++ [g] := Option.some.inj (hi.symm.trans e2)
      subst er
      obtain ⟨l0, h0⟩ := hr.2 row0 (List.mem_iff_getElem?.mpr ⟨i, e1⟩)
      refine ⟨by rw [List.length_append, List.length_singleton, l0], fun j g' hj => ?_⟩
      by_cases q : j < x
      · rw [List.getElem?_append_left (by omega)] at hj
        obtain ⟨a1, a2, rr, b1, b2⟩ := h0 j g' hj
        obtain ⟨row2, g2, c1, c2, c3, c4⟩ := r3 g'.toNat (by omega)
        rw [b1] at c1
        cases c1
        refine ⟨a1, a2, _, c2, ?_⟩
        rw [List.getElem?_append_left (by rw [(hr.2 rr (List.mem_iff_getElem?.mpr ⟨_, b1⟩)).1]; exact q)]
        exact b2
      · have hj2 := (List.getElem?_eq_some_iff.mp hj).1
        rw [List.length_append, List.length_singleton, l0] at hj2
        have ej : j = x := by omega
        subst ej
        have eg : g' = g := by
          rw [List.getElem?_append_right (by omega), l0, Nat.sub_self] at hj
          exact (Option.some.inj hj).symm
        subst eg
        obtain ⟨a1, a2⟩ := y1 g' e3
        obtain ⟨row2, g2, c1, c2, c3, c4⟩ := r3 g'.toNat (by omega)
        have eg2 : g2 = g' := by
          have := c4 (by rwa [show ((g'.toNat : Nat) : Int) = g' by omega])
          omega
        refine ⟨a1, a2, _, c2, ?_⟩
        rw [List.getElem?_append_right (by rw [(hr.2 row2 (List.mem_iff_getElem?.mpr ⟨_, c1⟩)).1]; exact Nat.le_refl _), (hr.2 row2 (List.mem_iff_getElem?.mpr ⟨_, c1⟩)).1, Nat.sub_self, eg2]
        rfl
theorem rows_ok {p : Pot} (h : Pv p) {many letters : Nat} (hm : 0 < many ∧ many < 1000) (hl : letters < 1000) : Ok (m_law_rows p (many : Int) (letters : Int)) fun r => Rw many letters r.1 ∧ Pv r.2 := by
  unfold m_law_rows
  rw [rng1_eq (by omega), Option.bind_some, mapO_eq (f := m_law_rows_1) (fun _ => ([] : List Int)) (fun _ _ => rfl), Option.bind_some, rng1_eq (by omega), Option.bind_some, Int.toNat_natCast, Int.toNat_natCast]
  refine Ok.bind (Ok.foldO (m_law_rows_5 (many : Int)) (fun n s => Pv s.1 ∧ Rw many n s.2) (rng 0 letters) (p, (rng 0 many).map fun _ => []) 0 ⟨h, by rw [List.length_map, rng_length], fun row hrow => ?_⟩ fun i d s hd hs => ?_) fun r hr => ?_
  · obtain ⟨_, _, rfl⟩ := List.mem_map.mp hrow
    exact ⟨rfl, fun j g z => by simp at z⟩
  · rw [Nat.zero_add] at hs ⊢
    have hi := (rng_get0 hd).1
    exact rows5_ok hs.1 hm (by omega) hs.2 d
  · rw [Nat.zero_add, rng_length] at hr
    exact .pure ⟨hr.2, hr.1⟩
/-! the table that is told -/
abbrev Told' := H5 (List Str) (List Str) (List Str) (List (List Int)) (List (Tup Int))
structure Good (t : Told') : Prop where
  ws : Ws (t.a ++ t.b ++ t.c)
  ka : t.a.length ≤ 2
  sb : 2 ≤ t.b.length ∧ t.b.length ≤ 4
  lc : t.c.length ≤ 2
  rows : Rw t.b.length (2 ^ t.a.length) t.d
  lights : t.e.length = t.b.length ∧ ∀ l ∈ t.e, l.l.length = t.c.length ∧ ∀ g ∈ l.l, 0 ≤ g ∧ g < 2
theorem shl_eq {n : Nat} (h : n ≤ 1000) : shlO 1 (n : Int) = some ((2 ^ n : Nat) : Int) := by
  have e : shlO 1 (n : Int) = some (1 * 2 ^ ((n : Int)).toNat) := if_pos ⟨by omega, by omega, by decide⟩
  rw [e, Int.toNat_natCast, Int.one_mul]
  simp
theorem table_ok {p : Pot} (h : Pv p) : Ok (m_law_table p) fun r => Good r.1 ∧ Pv r.2 := by
  unfold m_law_table
  refine Ok.bind (draw_ok h (by decide)) fun r1 h1 => ?_
  refine Ok.bind (words_ok h1.2 (taken := []) (by omega) (by decide) ⟨fun _ z => (by cases z), List.nodup_nil⟩) fun k hk => ?_
  rw [hk.2.1, List.nil_append]
  refine Ok.bind (draw_ok hk.1 (by decide)) fun r2 h2 => ?_
  refine Ok.bind (words_ok h2.2 (taken := k.1) (by omega) (by have := hk.2.2.2; omega) (by have := hk.2.2.1; rwa [List.nil_append] at this)) fun s hs => ?_
  rw [hs.2.1]
  refine Ok.bind (draw_ok hs.1 (by decide)) fun r3 h3 => ?_
  have lk := hk.2.2.2
  have ls := hs.2.2.2
  refine Ok.bind (words_ok h3.2 (taken := k.1 ++ s.1) (by omega) (by rw [List.length_append]; omega) hs.2.2.1) fun l hl => ?_
  have ll := hl.2.2.2
  rw [shl_eq (by omega), Option.bind_some]
  have p2 : 2 ^ k.1.length < 1000 := Nat.lt_of_le_of_lt (Nat.pow_le_pow_right (by decide) (show k.1.length ≤ 2 by omega)) (by decide)
  refine Ok.bind (rows_ok hl.1 (by omega) p2) fun rw hrw => ?_
  refine Ok.bind (P := fun x : List (Tup Int) × Pot => (Pv x.2 ∧ ∀ t ∈ x.1, t.l.length = l.1.length ∧ ∀ g ∈ t.l, 0 ≤ g ∧ g < 2) ∧ x.1.length = s.1.length) ?_ fun x ⟨⟨x1, x2⟩, x3⟩ => ?_
  · refine (Ok.mapS (m_law_table_2 l.1) (fun st acc => Pv st ∧ ∀ t ∈ acc, t.l.length = l.1.length ∧ ∀ g ∈ t.l, 0 ≤ g ∧ g < 2) s.1 rw.2 [] ⟨hrw.2, fun _ z => by cases z⟩ fun i d st acc _ _ hst => ?_).mono fun x hx => by rwa [List.nil_append] at hx
    unfold m_law_table_2
    refine Ok.bind (P := fun y : List Int × Pot => (Pv y.2 ∧ ∀ g ∈ y.1, 0 ≤ g ∧ g < 2) ∧ y.1.length = l.1.length) ?_ fun y ⟨⟨y1, y2⟩, y3⟩ => .pure ⟨y1, fun t ht => ?_⟩
    · refine (Ok.mapS m_law_table_1 (fun st acc => Pv st ∧ ∀ g ∈ acc, 0 ≤ g ∧ g < 2) l.1 st [] ⟨hst.1, fun _ z => by cases z⟩ fun i d st acc _ _ hst => ?_).mono fun x hx => by rwa [List.nil_append] at hx
      refine Ok.bind (draw_ok hst.1 (by decide)) fun r hr => .pure ⟨hr.2, fun g hg => ?_⟩
      rcases List.mem_append.mp hg with hg | hg
      · exact hst.2 g hg
      · rw [List.mem_singleton.mp hg]
        exact hr.1
    · rcases List.mem_append.mp ht with ht | ht
      · exact hst.2 t ht
      · rw [List.mem_singleton.mp ht]
        exact ⟨y3, y2⟩
  · exact .pure ⟨⟨hl.2.2.1, by show k.1.length ≤ 2; omega, by show 2 ≤ s.1.length ∧ s.1.length ≤ 4; omega, by show l.1.length ≤ 2; omega, hrw.1, x3, x2⟩, x1⟩
/-! what the class makes of it -/
theorem copy_eq (t : Told') : m_law_copy t = some t := by
  unfold m_law_copy
  rw [mapO_eq (f := m_law_copy_1) (fun r => r) (fun _ _ => rfl), List.map_id']
  rfl
theorem is_word_eq {w : Str} (h : Wd w) : m_is_word w = some true := by
  obtain ⟨h1, h2, h3⟩ := h
  have hl : w.length = w.cps.toList.length := len_eq w
  have e1 : lenS w = some () := if_pos (by rw [hl]; show w.cps.toList.length ≤ 1000000; omega)
  unfold m_is_word
  rw [e1, Option.bind_some, Option.bind_some, if_pos (decide_eq_true (by omega)), decide_eq_true (show (w.length : Int) ≤ 8 by omega), Option.bind_some, if_pos rfl, sgn_eq, mapO_eq (f := m_is_word_1) (fun _ => true), Option.bind_some, Option.bind_some]
  · congr 1
    rw [List.all_eq_true]
    intro b hb
    obtain ⟨_, _, rfl⟩ := List.mem_map.mp hb
    rfl
  · intro d hd
    obtain ⟨c, hc, rfl⟩ := List.mem_map.mp hd
    unfold m_is_word_1
    have e2 : sgnO (sg c) = some () := if_pos rfl
    rw [e2, Option.bind_some, abc_in (h3 c hc)]
theorem word_fault_eq {ws : List Str} (h : Ws ws) (hl : ws.length < 1000) : m_word_fault ws = some none := by
  unfold m_word_fault
  have st : ∀ (i : Nat) (d : _) (s : Unit), (enumL ws)[i]? = some d → True → ∃ s' : Unit, m_word_fault_1 ws s d = some (.nx s') ∧ True := fun i d s hd _ => ⟨(), by
    unfold enumL at hd
    rw [List.getElem?_map, List.getElem?_zipIdx] at hd
    cases q : ws[i]? with
    | none =>
      rw [q] at hd
      cases hd
    | some w =>
      rw [q] at hd
      have ed : d = ⟨((0 + i : Nat) : Int), w⟩ := (Option.some.inj hd).symm
      rw [Nat.zero_add] at ed
      subst ed
      have hi := (List.getElem?_eq_some_iff.mp q).1
      unfold m_word_fault_1
      have nm : w ∉ cutL ws none (some (i : Int)) := fun m => by
        unfold cutL HT.sIx at m
        simp only [] at m
        rw [if_neg (by omega), Nat.sub_zero, List.drop_zero, Int.toNat_natCast, Nat.min_eq_left (by omega)] at m
        obtain ⟨j, hj⟩ := List.mem_iff_getElem?.mp m
        have hj1 := (List.getElem?_eq_some_iff.mp hj).1
        rw [List.length_take] at hj1
        rw [List.getElem?_take_of_lt (by omega)] at hj
        have := (List.getElem?_inj (i := j) (j := i) (by omega) h.2).mp (hj.trans q.symm)
        omega
      rw [is_word_eq (h.1 w (List.mem_of_getElem? q)), Option.bind_some, if_neg (by decide), decide_eq_false nm, Option.bind_some, if_neg (by decide)], trivial⟩
  obtain ⟨s, e, _⟩ := Ok.forO (m_word_fault_1 ws) (fun _ _ => True) (enumL ws) () 0 trivial fun i d s hd _ => st i d s hd trivial
  rw [e, Option.bind_some]
  rfl

theorem misfitL_eq {many long : Nat} {bound : Int} {rows : List (List Int)} (hm : many < 1000) (hr : rows.length = many) (h : ∀ row ∈ rows, row.length = long ∧ ∀ g ∈ row, 0 ≤ g ∧ g < bound) : m_first_misfit_L (many : Int) rows (long : Int) bound = some none := by
  unfold m_first_misfit_L
  rw [rng1_eq (by omega), Option.bind_some, Int.toNat_natCast]
  have st : ∀ (i : Nat) (d : _) (s : Unit), (rng 0 many)[i]? = some d → True → ∃ s' : Unit, m_first_misfit_L_2 (long : Int) rows bound s d = some (.nx s') ∧ True := fun i d s hd _ => ⟨(), by
    obtain ⟨hi, rfl⟩ := rng_get0 hd
    unfold m_first_misfit_L_2
    obtain ⟨h1, h2⟩ := h (rows[i]'(by omega)) (List.getElem_mem _)
    rw [if_neg (fun z => by have := of_decide_eq_true z; omega), atI_eq ⟨by omega, by omega⟩]
    simp only [Int.toNat_natCast, Option.bind_some]
    rw [if_neg (by rw [decide_eq_true (by omega)]; decide), mapO_eq (f := m_first_misfit_L_1 bound) (fun _ => true), Option.bind_some, Option.bind_some, if_neg]
    · intro z
      have : ((rows[i].map fun _ => true).all id) = true := List.all_eq_true.mpr fun b hb => by
        obtain ⟨_, _, rfl⟩ := List.mem_map.mp hb
        rfl
      rw [this] at z
      cases z
    · intro g hg
      obtain ⟨g1, g2⟩ := h2 g hg
      unfold m_first_misfit_L_1
      rw [if_pos (decide_eq_true g1), decide_eq_true g2]
      rfl, trivial⟩
  obtain ⟨s, e, _⟩ := Ok.forO (m_first_misfit_L_2 (long : Int) rows bound) (fun _ _ => True) (rng 0 many) () 0 trivial fun i d s hd _ => st i d s hd trivial
  rw [e, Option.bind_some]
  show Option.bind (if decide ((rows.length : Int) > (many : Int)) = true then _ else _) _ = _
  rw [if_neg (fun z => by have := of_decide_eq_true z; omega)]
  rfl

theorem misfitV_eq {many long : Nat} {bound : Int} {rows : List (Tup Int)} (hm : many < 1000) (hr : rows.length = many) (h : ∀ row ∈ rows, row.l.length = long ∧ ∀ g ∈ row.l, 0 ≤ g ∧ g < bound) : m_first_misfit_V (many : Int) rows (long : Int) bound = some none := by
  unfold m_first_misfit_V
  rw [rng1_eq (by omega), Option.bind_some, Int.toNat_natCast]
  have st : ∀ (i : Nat) (d : _) (s : Unit), (rng 0 many)[i]? = some d → True → ∃ s' : Unit, m_first_misfit_V_2 (long : Int) rows bound s d = some (.nx s') ∧ True := fun i d s hd _ => ⟨(), by
    obtain ⟨hi, rfl⟩ := rng_get0 hd
    unfold m_first_misfit_V_2
    obtain ⟨h1, h2⟩ := h (rows[i]'(by omega)) (List.getElem_mem _)
    rw [if_neg (fun z => by have := of_decide_eq_true z; omega), atI_eq ⟨by omega, by omega⟩]
    simp only [Int.toNat_natCast, Option.bind_some]
    rw [if_neg (by rw [decide_eq_true (by omega)]; decide), mapO_eq (f := m_first_misfit_V_1 bound) (fun _ => true), Option.bind_some, Option.bind_some, if_neg]
    · intro z
      have : ((rows[i].l.map fun _ => true).all id) = true := List.all_eq_true.mpr fun b hb => by
        obtain ⟨_, _, rfl⟩ := List.mem_map.mp hb
        rfl
      rw [this] at z
      cases z
    · intro g hg
      obtain ⟨g1, g2⟩ := h2 g hg
      unfold m_first_misfit_V_1
      rw [if_pos (decide_eq_true g1), decide_eq_true g2]
      rfl, trivial⟩
  obtain ⟨s, e, _⟩ := Ok.forO (m_first_misfit_V_2 (long : Int) rows bound) (fun _ _ => True) (rng 0 many) () 0 trivial fun i d s hd _ => st i d s hd trivial
  rw [e, Option.bind_some]
  show Option.bind (if decide ((rows.length : Int) > (many : Int)) = true then _ else _) _ = _
  rw [if_neg (fun z => by have := of_decide_eq_true z; omega)]
  rfl
theorem atI_get {α : Type} {xs : List α} {i : Int} {y : α} (h : 0 ≤ i) (e : xs[i.toNat]? = some y) : atI xs i = some y := by
  have hi := (List.getElem?_eq_some_iff.mp e).1
  unfold atI ixN
  rw [if_pos h, if_pos (by omega)]
  exact e
theorem enumL_mem {α : Type} {xs : List α} {d : T2 Int α} (h : d ∈ enumL xs) : ∃ j : Nat, d.a = j ∧ xs[j]? = some d.b := by
  unfold enumL at h
  obtain ⟨⟨x, j⟩, hp, rfl⟩ := List.mem_map.mp h
  exact ⟨j, rfl, List.mem_zipIdx_iff_getElem?.mp hp⟩
theorem unsettled_eq {many x : Nat} {rows : List (List Int)} (h : Rw many x rows) : m_first_unsettled rows = some none := by
  unfold m_first_unsettled
  have st : ∀ (i : Nat) (d : T2 Int (List Int)) (s : Unit), (enumL rows)[i]? = some d → True → ∃ s' : Unit, m_first_unsettled_2 rows s d = some (.nx s') ∧ True := fun i d s hd _ => ⟨(), by
    obtain ⟨j, _, hj⟩ := enumL_mem (List.mem_of_getElem? hd)
    obtain ⟨_, h2⟩ := h.2 d.b (List.mem_of_getElem? hj)
    unfold m_first_unsettled_2
    rw [mapO_eq (f := m_first_unsettled_1 rows) (fun _ => false), Option.bind_some, if_neg]
    · intro z
      obtain ⟨b, hb, hb2⟩ := List.any_eq_true.mp z
      obtain ⟨_, _, rfl⟩ := List.mem_map.mp hb
      cases hb2
    · intro e he
      obtain ⟨k, ek, hk⟩ := enumL_mem he
      obtain ⟨a1, a2, r2, b1, b2⟩ := h2 k e.b hk
      unfold m_first_unsettled_1
      rw [atI_get a1 b1, Option.bind_some, atI_get (by omega) (by rw [ek, Int.toNat_natCast]; exact b2), Option.bind_some, decide_eq_true rfl]
      rfl, trivial⟩
  obtain ⟨s, e, _⟩ := Ok.forO (m_first_unsettled_2 rows) (fun _ _ => True) (enumL rows) () 0 trivial fun i d s hd _ => st i d s hd trivial
  rw [e, Option.bind_some]
  rfl
theorem crowd_eq {t : Told'} (h : Good t) : m_first_crowd t.a t.b t.c = some none := by
  have := h.ka
  have := h.sb
  have := h.lc
  unfold m_first_crowd
  rw [if_pos (decide_eq_true (by omega)), Option.bind_some, decide_eq_true (show (t.a.length : Int) ≤ 2 by omega), decide_eq_true (show (t.b.length : Int) ≤ 4 by omega), decide_eq_true (show (t.c.length : Int) ≤ 2 by omega)]
  rfl
def tab (t : Told') : O_Table := ⟨t.a, t.b, t.c, t.d, t.e⟩
theorem catO_eq {α : Type} {ds es : List α} (h : ds.length + es.length ≤ big) : catO ds es = some (ds ++ es) := if_pos h
theorem big_of {n : Nat} (h : n ≤ 1000) : n ≤ big := Nat.le_trans h (by decide)
theorem pow_small {n : Nat} (h : n ≤ 2) : 2 ^ n ≤ 4 := Nat.pow_le_pow_right (n := 2) (by decide) h
theorem init_eq {t : Told'} (h : Good t) : m_Table_init t.a t.b t.c t.d t.e = some (tab t) := by
  have ka := h.ka
  have sb := h.sb
  have lc := h.lc
  have l1 : t.a.length + t.b.length ≤ 1000 := by omega
  unfold m_Table_init
  have w : m_look_at_words (t.a ++ t.b ++ t.c) = some () := by
    unfold m_look_at_words
    rw [word_fault_eq h.ws (by rw [List.length_append, List.length_append]; omega)]
    rfl
  have m1 : m_first_misfit_L (t.b.length : Int) t.d ((2 ^ t.a.length : Nat) : Int) (t.b.length : Int) = some none := misfitL_eq (by omega) h.rows.1 fun row hr => ⟨(h.rows.2 row hr).1, fun g hg => by
    obtain ⟨j, hj⟩ := List.mem_iff_getElem?.mp hg
    obtain ⟨a1, a2, _⟩ := (h.rows.2 row hr).2 j g hj
    exact ⟨a1, a2⟩⟩
  have m2 : m_first_misfit_V (t.b.length : Int) t.e (t.c.length : Int) 2 = some none := misfitV_eq (by omega) h.lights.1 h.lights.2
  rw [catO_eq (big_of l1), Option.bind_some, catO_eq (big_of (by rw [List.length_append]; omega)), Option.bind_some, w, Option.bind_some, crowd_eq h, Option.bind_some]
  show ((shlO 1 (t.a.length : Int)).bind _) = _
  rw [shl_eq (by omega), Option.bind_some, m1, Option.bind_some]
  show ((m_first_misfit_V (t.b.length : Int) t.e (t.c.length : Int) 2).bind _) = _
  rw [m2, Option.bind_some]
  show ((m_first_unsettled t.d).bind _) = _
  rw [unsettled_eq h.rows, Option.bind_some]
  show ((mapO m_Table_init_1 t.d).bind _) = _
  rw [mapO_eq (f := m_Table_init_1) (fun r => r) (fun _ _ => rfl), List.map_id']
  rfl
theorem ints_ok {xs : List Int} : Da.ok xs = true := List.all_eq_true.mpr fun _ _ => rfl
theorem tup_ok {x : Tup Int} : Da.ok x = true := List.all_eq_true.mpr fun _ _ => rfl
theorem agrees_eq {t : Told'} (h : Good t) : m_law_agrees (tab t) t = some true := by
  have ka := h.ka
  have sb := h.sb
  have oa : Da.ok t.a = true := all_ok fun w hw => h.ws.1 w (List.mem_append.mpr (.inl (List.mem_append.mpr (.inl hw))))
  have ob : Da.ok t.b = true := all_ok fun w hw => h.ws.1 w (List.mem_append.mpr (.inl (List.mem_append.mpr (.inr hw))))
  have oc : Da.ok t.c = true := all_ok fun w hw => h.ws.1 w (List.mem_append.mpr (.inr hw))
  have p2 := pow_small ka
  have goes : ∀ i j : Nat, i < t.b.length → j < 2 ^ t.a.length → ∃ row g, atI t.d (i : Int) = some row ∧ atI row (j : Int) = some g ∧ m_Table_goes (tab t) (i : Int) (j : Int) = some g := fun i j hi hj => by
    have hil : i < t.d.length := by
      rw [h.rows.1]
      exact hi
    have e1 : atI t.d (i : Int) = some t.d[i] := atI_get (by omega) (List.getElem?_eq_getElem hil)
    have hr := (h.rows.2 t.d[i] (List.getElem_mem hil)).1
    have e2 : atI t.d[i] (j : Int) = some (t.d[i][j]'(by omega)) := atI_get (by omega) (List.getElem?_eq_getElem (by omega))
    refine ⟨_, _, e1, e2, ?_⟩
    show ((atI t.d (i : Int)).bind _) = _
    rw [e1, Option.bind_some, e2]
    rfl
  have st1 : ∀ (i : Nat), i < t.b.length → ∀ (k : Nat) (d : Int) (s : Unit), (rng 0 (2 ^ t.a.length))[k]? = some d → True → ∃ s' : Unit, m_law_agrees_1 (i : Int) (tab t) t.d s d = some (.nx s') ∧ True := fun i hi k d s hd _ => ⟨(), by
    obtain ⟨hk, rfl⟩ := rng_get0 hd
    obtain ⟨row, g, e1, e2, e3⟩ := goes i k hi hk
    unfold m_law_agrees_1
    have ew : m_law_is_whole g = some true := rfl
    simp [e1, e2, e3, ew], trivial⟩
  have st2 : ∀ (i : Nat) (d : Int) (s : Unit), (rng 0 t.b.length)[i]? = some d → True → ∃ s' : Unit, m_law_agrees_2 t.e (tab t) t.a t.d s d = some (.nx s') ∧ True := fun i d s hd _ => ⟨(), by
    obtain ⟨hi, rfl⟩ := rng_get0 hd
    have hil : i < t.e.length := by
      rw [h.lights.1]
      exact hi
    have e1 : atI t.e (i : Int) = some t.e[i] := atI_get (by omega) (List.getElem?_eq_getElem hil)
    have e2 : m_Table_lights (tab t) (i : Int) = some t.e[i] := by
      show ((atI t.e (i : Int)).bind _) = _
      rw [e1]
      rfl
    obtain ⟨s1, e3, _⟩ := Ok.forO (m_law_agrees_1 (i : Int) (tab t) t.d) (fun _ _ => True) (rng 0 (2 ^ t.a.length)) () 0 trivial fun k d s hd _ => st1 i hi k d s hd trivial
    unfold m_law_agrees_2
    rw [e2, Option.bind_some, if_neg (by decide), Option.bind_some, e1, Option.bind_some, eqD_eq tup_ok tup_ok, Option.bind_some, decide_eq_true rfl, Option.bind_some, if_neg (by decide), shl_eq (by omega), Option.bind_some, rng1_eq ⟨Int.natCast_nonneg _, Int.le_trans (Int.ofNat_le.mpr p2) (by decide)⟩, Option.bind_some, Int.toNat_natCast, e3]
    rfl, trivial⟩
  obtain ⟨s2, e4, _⟩ := Ok.forO (m_law_agrees_2 t.e (tab t) t.a t.d) (fun _ _ => True) (rng 0 t.b.length) () 0 trivial fun i d s hd _ => st2 i d s hd trivial
  unfold m_law_agrees
  have k1 : m_Table_key_words (tab t) = some t.a := rfl
  have k2 : m_Table_states (tab t) = some t.b := rfl
  have k3 : m_Table_lamps (tab t) = some t.c := rfl
  have k4 : m_Table_letters (tab t) = some ((2 ^ t.a.length : Nat) : Int) := by
    show ((shlO 1 (t.a.length : Int)).bind _) = _
    rw [shl_eq (by omega)]
    rfl
  have ew : m_law_is_whole ((2 ^ t.a.length : Nat) : Int) = some true := rfl
  rw [k1, Option.bind_some, eqD_eq oa oa, Option.bind_some, decide_eq_true rfl, if_neg (by decide), k2, Option.bind_some, eqD_eq ob ob, Option.bind_some, decide_eq_true rfl, if_neg (by decide), k3, Option.bind_some, eqD_eq oc oc, Option.bind_some, decide_eq_true rfl, Option.bind_some, if_neg (by decide), k4, Option.bind_some, ew, Option.bind_some, if_neg (by decide), Option.bind_some, shl_eq (by omega), Option.bind_some, decide_eq_true rfl, Option.bind_some, if_neg (by decide), rng1_eq (by omega), Option.bind_some, Int.toNat_natCast, e4]
  rfl
theorem right_eq {n : Nat} (h : n ≤ 2) : m_law_letters_right (n : Int) = some true := by
  have h3 : n = 0 ∨ n = 1 ∨ n = 2 := by omega
  rcases h3 with rfl | rfl | rfl
  · decide +kernel
  · decide +kernel
  · decide +kernel
theorem lights_ok {xs : List (Tup Int)} : Da.ok xs = true := List.all_eq_true.mpr fun _ _ => tup_ok
theorem rows_ok' {xs : List (List Int)} : Da.ok xs = true := List.all_eq_true.mpr fun _ _ => ints_ok
theorem plain (ns : List Int) (h : ns.length ≤ 63) : m_law ⟨ns⟩ = some true := by
  have st : ∀ (i : Nat) (d : Int) (s : List (T2 O_Table Told')), 0 ≤ d → s.length ≤ i → i < 1000 → (∀ x ∈ s, m_law_agrees x.a x.b = some true) → ∃ s', m_law_1 ⟨ns⟩ s d = some (.nx s') ∧ s'.length ≤ i + 1 ∧ ∀ x ∈ s', m_law_agrees x.a x.b = some true := fun i d s hd hs hi hg => by
    unfold m_law_1
    obtain ⟨p, e1, hp⟩ := pot_ok ⟨ns⟩ hd
    obtain ⟨r, e2, hr, _⟩ := table_ok hp
    have g := hr
    have oa : Da.ok r.1.a = true := all_ok fun w hw => g.ws.1 w (List.mem_append.mpr (.inl (List.mem_append.mpr (.inl hw))))
    have ob : Da.ok r.1.b = true := all_ok fun w hw => g.ws.1 w (List.mem_append.mpr (.inl (List.mem_append.mpr (.inr hw))))
    have oc : Da.ok r.1.c = true := all_ok fun w hw => g.ws.1 w (List.mem_append.mpr (.inr hw))
    have ot : Da.ok r.1 = true := by
      show (Da.ok r.1.a && (Da.ok r.1.b && (Da.ok r.1.c && (Da.ok r.1.d && Da.ok r.1.e)))) = true
      rw [oa, ob, oc, rows_ok', lights_ok]
      rfl
    have ka := g.ka
    have sb := g.sb
    have lc := g.lc
    rw [e1, Option.bind_some, e2, Option.bind_some, copy_eq, Option.bind_some, init_eq g, Option.bind_some, eqD_eq ot ot, Option.bind_some, decide_eq_true rfl, if_neg (by decide), agrees_eq g, Option.bind_some, if_neg (by decide), right_eq ka, Option.bind_some, Option.bind_some, if_neg (by decide)]
    have k1 : m_Table_key_words (tab r.1) = some r.1.a := rfl
    have k2 : m_Table_states (tab r.1) = some r.1.b := rfl
    have k3 : m_Table_lamps (tab r.1) = some r.1.c := rfl
    have ks : m_law_spoil r.1 = some () := rfl
    rw [ks, Option.bind_some, k1, Option.bind_some, appO_eq (by show r.1.a.length < 1000000; omega), Option.bind_some, k2, Option.bind_some, k3, Option.bind_some, appO_eq (by show r.1.c.length < 1000000; omega), Option.bind_some, appO_eq (by show s.length < 1000000; omega), Option.bind_some]
    refine ⟨_, rfl, by rw [List.length_append, List.length_singleton]; omega, fun x hx => ?_⟩
    rcases List.mem_append.mp hx with hx | hx
    · exact hg x hx
    · rw [List.mem_singleton.mp hx]
      exact agrees_eq g
  unfold m_law
  have e0 : (if (if (3 : Int) < (ns.length : Int) then (3 : Int) else (ns.length : Int)) > (1 : Int) then (if (3 : Int) < (ns.length : Int) then (3 : Int) else (ns.length : Int)) else (1 : Int)) ≤ 3 ∧ 0 ≤ (if (if (3 : Int) < (ns.length : Int) then (3 : Int) else (ns.length : Int)) > (1 : Int) then (if (3 : Int) < (ns.length : Int) then (3 : Int) else (ns.length : Int)) else (1 : Int)) := by
    split <;> split <;> omega
  generalize (if (if (3 : Int) < (ns.length : Int) then (3 : Int) else (ns.length : Int)) > (1 : Int) then (if (3 : Int) < (ns.length : Int) then (3 : Int) else (ns.length : Int)) else (1 : Int)) = m at e0
  rw [rng1_eq (by omega), Option.bind_some]
  obtain ⟨s, e, _, hg⟩ := Ok.forO (m_law_1 ⟨ns⟩) (fun n s => s.length ≤ n ∧ ∀ x ∈ s, m_law_agrees x.a x.b = some true) (rng 0 m.toNat) [] 0 ⟨Nat.le_refl 0, fun _ z => by cases z⟩ fun i d s hd hs => by
    rw [Nat.zero_add] at hs ⊢
    obtain ⟨hi, rfl⟩ := rng_get0 hd
    exact st i i s (by omega) hs.1 (by omega) hs.2
  rw [e, Option.bind_some]
  show ((mapO m_law_2 s).bind _) = _
  rw [mapO_eq (f := m_law_2) (fun _ => true) (fun d hd => by
    unfold m_law_2
    rw [hg d hd]
    rfl), Option.bind_some]
  congr 1
  rw [List.all_eq_true]
  intro b hb
  obtain ⟨_, _, rfl⟩ := List.mem_map.mp hb
  rfl

theorem all_mk {l : PySem.W.OpenLaw} {w : World} {K : PySem.W.Frag} {h : Heap} {mg : Str → Option Value} {fa : Addr} {f_first_crowd f_first_misfit f_first_unsettled f_look f_is_word f_word_fault f_look_at_words f_Table_init f_Table_key_words f_Table_lamps f_Table_states f_Table_goes f_Table_letters f_Table_lights f_law_is_whole f_law_agrees f_law_copy f_pressed_by f_law_letters_right f_law_pot f_law_spoil f_law_draw f_law_rows f_law_word f_law_words f_law_table f_law C_Table : Addr} {od_first_crowd an_first_crowd : Option Addr} {sl_first_crowd : Array (Option Value)} {oc_first_crowd kV_first_crowd dc_first_crowd pm_first_crowd cd_first_crowd ct_first_crowd : Value} {od_first_misfit an_first_misfit : Option Addr} {sl_first_misfit : Array (Option Value)} {oc_first_misfit kV_first_misfit dc_first_misfit pm_first_misfit cd_first_misfit ct_first_misfit : Value} {od_first_unsettled an_first_unsettled : Option Addr} {sl_first_unsettled : Array (Option Value)} {oc_first_unsettled kV_first_unsettled dc_first_unsettled pm_first_unsettled cd_first_unsettled ct_first_unsettled : Value} {od_look an_look : Option Addr} {sl_look : Array (Option Value)} {oc_look kV_look dc_look pm_look cd_look ct_look : Value} {od_is_word an_is_word : Option Addr} {sl_is_word : Array (Option Value)} {oc_is_word kV_is_word dc_is_word pm_is_word cd_is_word ct_is_word : Value} {od_word_fault an_word_fault : Option Addr} {sl_word_fault : Array (Option Value)} {oc_word_fault kV_word_fault dc_word_fault pm_word_fault cd_word_fault ct_word_fault : Value} {od_look_at_words an_look_at_words : Option Addr} {sl_look_at_words : Array (Option Value)} {oc_look_at_words kV_look_at_words dc_look_at_words pm_look_at_words cd_look_at_words ct_look_at_words : Value} {od_Table_init an_Table_init : Option Addr} {sl_Table_init : Array (Option Value)} {oc_Table_init kV_Table_init dc_Table_init pm_Table_init cd_Table_init ct_Table_init : Value} {od_Table_key_words an_Table_key_words : Option Addr} {sl_Table_key_words : Array (Option Value)} {oc_Table_key_words kV_Table_key_words dc_Table_key_words pm_Table_key_words cd_Table_key_words ct_Table_key_words : Value} {od_Table_lamps an_Table_lamps : Option Addr} {sl_Table_lamps : Array (Option Value)} {oc_Table_lamps kV_Table_lamps dc_Table_lamps pm_Table_lamps cd_Table_lamps ct_Table_lamps : Value} {od_Table_states an_Table_states : Option Addr} {sl_Table_states : Array (Option Value)} {oc_Table_states kV_Table_states dc_Table_states pm_Table_states cd_Table_states ct_Table_states : Value} {od_Table_goes an_Table_goes : Option Addr} {sl_Table_goes : Array (Option Value)} {oc_Table_goes kV_Table_goes dc_Table_goes pm_Table_goes cd_Table_goes ct_Table_goes : Value} {od_Table_letters an_Table_letters : Option Addr} {sl_Table_letters : Array (Option Value)} {oc_Table_letters kV_Table_letters dc_Table_letters pm_Table_letters cd_Table_letters ct_Table_letters : Value} {od_Table_lights an_Table_lights : Option Addr} {sl_Table_lights : Array (Option Value)} {oc_Table_lights kV_Table_lights dc_Table_lights pm_Table_lights cd_Table_lights ct_Table_lights : Value} {od_law_is_whole an_law_is_whole : Option Addr} {sl_law_is_whole : Array (Option Value)} {oc_law_is_whole kV_law_is_whole dc_law_is_whole pm_law_is_whole cd_law_is_whole ct_law_is_whole : Value} {od_law_agrees an_law_agrees : Option Addr} {sl_law_agrees : Array (Option Value)} {oc_law_agrees kV_law_agrees dc_law_agrees pm_law_agrees cd_law_agrees ct_law_agrees : Value} {od_law_copy an_law_copy : Option Addr} {sl_law_copy : Array (Option Value)} {oc_law_copy kV_law_copy dc_law_copy pm_law_copy cd_law_copy ct_law_copy : Value} {od_pressed_by an_pressed_by : Option Addr} {sl_pressed_by : Array (Option Value)} {oc_pressed_by kV_pressed_by dc_pressed_by pm_pressed_by cd_pressed_by ct_pressed_by : Value} {od_law_letters_right an_law_letters_right : Option Addr} {sl_law_letters_right : Array (Option Value)} {oc_law_letters_right kV_law_letters_right dc_law_letters_right pm_law_letters_right cd_law_letters_right ct_law_letters_right : Value} {od_law_pot an_law_pot : Option Addr} {sl_law_pot : Array (Option Value)} {oc_law_pot kV_law_pot dc_law_pot pm_law_pot cd_law_pot ct_law_pot : Value} {od_law_spoil an_law_spoil : Option Addr} {sl_law_spoil : Array (Option Value)} {oc_law_spoil kV_law_spoil dc_law_spoil pm_law_spoil cd_law_spoil ct_law_spoil : Value} {od_law_draw an_law_draw : Option Addr} {sl_law_draw : Array (Option Value)} {oc_law_draw kV_law_draw dc_law_draw pm_law_draw cd_law_draw ct_law_draw : Value} {od_law_rows an_law_rows : Option Addr} {sl_law_rows : Array (Option Value)} {oc_law_rows kV_law_rows dc_law_rows pm_law_rows cd_law_rows ct_law_rows : Value} {od_law_word an_law_word : Option Addr} {sl_law_word : Array (Option Value)} {oc_law_word kV_law_word dc_law_word pm_law_word cd_law_word ct_law_word : Value} {od_law_words an_law_words : Option Addr} {sl_law_words : Array (Option Value)} {oc_law_words kV_law_words dc_law_words pm_law_words cd_law_words ct_law_words : Value} {od_law_table an_law_table : Option Addr} {sl_law_table : Array (Option Value)} {oc_law_table kV_law_table dc_law_table pm_law_table cd_law_table ct_law_table : Value} {od_law an_law : Option Addr} {sl_law : Array (Option Value)} {oc_law kV_law dc_law pm_law cd_law ct_law : Value} {t_FEWEST_STATES : _} {t_LETTERS : _} {t_MOST_KEYS : _} {t_MOST_LAMPS : _} {t_MOST_LETTERS : _} {t_MOST_STATES : _} (X : K.In h) (G : h.Ns mainGlobals mg) (hfa : mg "law" = some (.ref fa))
    (aC_Table : PySem.W.nsIn K mainGlobals "Table" = some (some (.ref C_Table)))
    (a_first_crowd : PySem.W.nsIn K mainGlobals "first_crowd" = some (some (.ref f_first_crowd)))
    (l_first_crowd : K.lookup f_first_crowd = some ⟨oc_first_crowd, od_first_crowd, .func (PySem.W.fnOf "first_crowd" "first_crowd" (defArgs s_first_crowd) (defBody s_first_crowd) (defScope s_first_crowd) .none kV_first_crowd dc_first_crowd pm_first_crowd an_first_crowd cd_first_crowd ct_first_crowd), sl_first_crowd⟩)
    (c_first_crowd : PySem.W.codeIn K cd_first_crowd "first_crowd" = true)
    (k_first_crowd : PySem.W.keepIn K (.ref f_first_crowd) = true)
    (a_first_misfit : PySem.W.nsIn K mainGlobals "first_misfit" = some (some (.ref f_first_misfit)))
    (l_first_misfit : K.lookup f_first_misfit = some ⟨oc_first_misfit, od_first_misfit, .func (PySem.W.fnOf "first_misfit" "first_misfit" (defArgs s_first_misfit) (defBody s_first_misfit) (defScope s_first_misfit) .none kV_first_misfit dc_first_misfit pm_first_misfit an_first_misfit cd_first_misfit ct_first_misfit), sl_first_misfit⟩)
    (c_first_misfit : PySem.W.codeIn K cd_first_misfit "first_misfit" = true)
    (k_first_misfit : PySem.W.keepIn K (.ref f_first_misfit) = true)
    (a_first_unsettled : PySem.W.nsIn K mainGlobals "first_unsettled" = some (some (.ref f_first_unsettled)))
    (l_first_unsettled : K.lookup f_first_unsettled = some ⟨oc_first_unsettled, od_first_unsettled, .func (PySem.W.fnOf "first_unsettled" "first_unsettled" (defArgs s_first_unsettled) (defBody s_first_unsettled) (defScope s_first_unsettled) .none kV_first_unsettled dc_first_unsettled pm_first_unsettled an_first_unsettled cd_first_unsettled ct_first_unsettled), sl_first_unsettled⟩)
    (c_first_unsettled : PySem.W.codeIn K cd_first_unsettled "first_unsettled" = true)
    (k_first_unsettled : PySem.W.keepIn K (.ref f_first_unsettled) = true)
    (a_look : PySem.W.nsIn K mainGlobals "look" = some (some (.ref f_look)))
    (l_look : K.lookup f_look = some ⟨oc_look, od_look, .func (PySem.W.fnOf "look" "look" (defArgs s_look) (defBody s_look) (defScope s_look) .none kV_look dc_look pm_look an_look cd_look ct_look), sl_look⟩)
    (c_look : PySem.W.codeIn K cd_look "look" = true)
    (k_look : PySem.W.keepIn K (.ref f_look) = true)
    (a_is_word : PySem.W.nsIn K mainGlobals "is_word" = some (some (.ref f_is_word)))
    (l_is_word : K.lookup f_is_word = some ⟨oc_is_word, od_is_word, .func (PySem.W.fnOf "is_word" "is_word" (defArgs s_is_word) (defBody s_is_word) (defScope s_is_word) .none kV_is_word dc_is_word pm_is_word an_is_word cd_is_word ct_is_word), sl_is_word⟩)
    (c_is_word : PySem.W.codeIn K cd_is_word "is_word" = true)
    (k_is_word : PySem.W.keepIn K (.ref f_is_word) = true)
    (a_word_fault : PySem.W.nsIn K mainGlobals "word_fault" = some (some (.ref f_word_fault)))
    (l_word_fault : K.lookup f_word_fault = some ⟨oc_word_fault, od_word_fault, .func (PySem.W.fnOf "word_fault" "word_fault" (defArgs s_word_fault) (defBody s_word_fault) (defScope s_word_fault) .none kV_word_fault dc_word_fault pm_word_fault an_word_fault cd_word_fault ct_word_fault), sl_word_fault⟩)
    (c_word_fault : PySem.W.codeIn K cd_word_fault "word_fault" = true)
    (k_word_fault : PySem.W.keepIn K (.ref f_word_fault) = true)
    (a_look_at_words : PySem.W.nsIn K mainGlobals "look_at_words" = some (some (.ref f_look_at_words)))
    (l_look_at_words : K.lookup f_look_at_words = some ⟨oc_look_at_words, od_look_at_words, .func (PySem.W.fnOf "look_at_words" "look_at_words" (defArgs s_look_at_words) (defBody s_look_at_words) (defScope s_look_at_words) .none kV_look_at_words dc_look_at_words pm_look_at_words an_look_at_words cd_look_at_words ct_look_at_words), sl_look_at_words⟩)
    (c_look_at_words : PySem.W.codeIn K cd_look_at_words "look_at_words" = true)
    (k_look_at_words : PySem.W.keepIn K (.ref f_look_at_words) = true)
    (a_Table_init : PySem.W.findIn K (.ref C_Table) "__init__" = some (some (.ref f_Table_init)))
    (i_Table_init : PySem.W.isFn K (.ref f_Table_init) = true)
    (l_Table_init : K.lookup f_Table_init = some ⟨oc_Table_init, od_Table_init, .func (PySem.W.fnOf "__init__" "Table.__init__" (defArgs s_Table_init) (defBody s_Table_init) (defScope s_Table_init) .none kV_Table_init dc_Table_init pm_Table_init an_Table_init cd_Table_init ct_Table_init), sl_Table_init⟩)
    (c_Table_init : PySem.W.codeIn K cd_Table_init "Table.__init__" = true)
    (k_Table_init : PySem.W.keepIn K (.ref f_Table_init) = true)
    (a_Table_key_words : PySem.W.findIn K (.ref C_Table) "key_words" = some (some (.ref f_Table_key_words)))
    (i_Table_key_words : PySem.W.isFn K (.ref f_Table_key_words) = true)
    (l_Table_key_words : K.lookup f_Table_key_words = some ⟨oc_Table_key_words, od_Table_key_words, .func (PySem.W.fnOf "key_words" "Table.key_words" (defArgs s_Table_key_words) (defBody s_Table_key_words) (defScope s_Table_key_words) .none kV_Table_key_words dc_Table_key_words pm_Table_key_words an_Table_key_words cd_Table_key_words ct_Table_key_words), sl_Table_key_words⟩)
    (c_Table_key_words : PySem.W.codeIn K cd_Table_key_words "Table.key_words" = true)
    (k_Table_key_words : PySem.W.keepIn K (.ref f_Table_key_words) = true)
    (a_Table_lamps : PySem.W.findIn K (.ref C_Table) "lamps" = some (some (.ref f_Table_lamps)))
    (i_Table_lamps : PySem.W.isFn K (.ref f_Table_lamps) = true)
    (l_Table_lamps : K.lookup f_Table_lamps = some ⟨oc_Table_lamps, od_Table_lamps, .func (PySem.W.fnOf "lamps" "Table.lamps" (defArgs s_Table_lamps) (defBody s_Table_lamps) (defScope s_Table_lamps) .none kV_Table_lamps dc_Table_lamps pm_Table_lamps an_Table_lamps cd_Table_lamps ct_Table_lamps), sl_Table_lamps⟩)
    (c_Table_lamps : PySem.W.codeIn K cd_Table_lamps "Table.lamps" = true)
    (k_Table_lamps : PySem.W.keepIn K (.ref f_Table_lamps) = true)
    (a_Table_states : PySem.W.findIn K (.ref C_Table) "states" = some (some (.ref f_Table_states)))
    (i_Table_states : PySem.W.isFn K (.ref f_Table_states) = true)
    (l_Table_states : K.lookup f_Table_states = some ⟨oc_Table_states, od_Table_states, .func (PySem.W.fnOf "states" "Table.states" (defArgs s_Table_states) (defBody s_Table_states) (defScope s_Table_states) .none kV_Table_states dc_Table_states pm_Table_states an_Table_states cd_Table_states ct_Table_states), sl_Table_states⟩)
    (c_Table_states : PySem.W.codeIn K cd_Table_states "Table.states" = true)
    (k_Table_states : PySem.W.keepIn K (.ref f_Table_states) = true)
    (a_Table_goes : PySem.W.findIn K (.ref C_Table) "goes" = some (some (.ref f_Table_goes)))
    (i_Table_goes : PySem.W.isFn K (.ref f_Table_goes) = true)
    (l_Table_goes : K.lookup f_Table_goes = some ⟨oc_Table_goes, od_Table_goes, .func (PySem.W.fnOf "goes" "Table.goes" (defArgs s_Table_goes) (defBody s_Table_goes) (defScope s_Table_goes) .none kV_Table_goes dc_Table_goes pm_Table_goes an_Table_goes cd_Table_goes ct_Table_goes), sl_Table_goes⟩)
    (c_Table_goes : PySem.W.codeIn K cd_Table_goes "Table.goes" = true)
    (k_Table_goes : PySem.W.keepIn K (.ref f_Table_goes) = true)
    (a_Table_letters : PySem.W.findIn K (.ref C_Table) "letters" = some (some (.ref f_Table_letters)))
    (i_Table_letters : PySem.W.isFn K (.ref f_Table_letters) = true)
    (l_Table_letters : K.lookup f_Table_letters = some ⟨oc_Table_letters, od_Table_letters, .func (PySem.W.fnOf "letters" "Table.letters" (defArgs s_Table_letters) (defBody s_Table_letters) (defScope s_Table_letters) .none kV_Table_letters dc_Table_letters pm_Table_letters an_Table_letters cd_Table_letters ct_Table_letters), sl_Table_letters⟩)
    (c_Table_letters : PySem.W.codeIn K cd_Table_letters "Table.letters" = true)
    (k_Table_letters : PySem.W.keepIn K (.ref f_Table_letters) = true)
    (a_Table_lights : PySem.W.findIn K (.ref C_Table) "lights" = some (some (.ref f_Table_lights)))
    (i_Table_lights : PySem.W.isFn K (.ref f_Table_lights) = true)
    (l_Table_lights : K.lookup f_Table_lights = some ⟨oc_Table_lights, od_Table_lights, .func (PySem.W.fnOf "lights" "Table.lights" (defArgs s_Table_lights) (defBody s_Table_lights) (defScope s_Table_lights) .none kV_Table_lights dc_Table_lights pm_Table_lights an_Table_lights cd_Table_lights ct_Table_lights), sl_Table_lights⟩)
    (c_Table_lights : PySem.W.codeIn K cd_Table_lights "Table.lights" = true)
    (k_Table_lights : PySem.W.keepIn K (.ref f_Table_lights) = true)
    (a_law_is_whole : PySem.W.nsIn K mainGlobals "_law_is_whole" = some (some (.ref f_law_is_whole)))
    (l_law_is_whole : K.lookup f_law_is_whole = some ⟨oc_law_is_whole, od_law_is_whole, .func (PySem.W.fnOf "_law_is_whole" "_law_is_whole" (defArgs s_law_is_whole) (defBody s_law_is_whole) (defScope s_law_is_whole) .none kV_law_is_whole dc_law_is_whole pm_law_is_whole an_law_is_whole cd_law_is_whole ct_law_is_whole), sl_law_is_whole⟩)
    (c_law_is_whole : PySem.W.codeIn K cd_law_is_whole "_law_is_whole" = true)
    (k_law_is_whole : PySem.W.keepIn K (.ref f_law_is_whole) = true)
    (a_law_agrees : PySem.W.nsIn K mainGlobals "_law_agrees" = some (some (.ref f_law_agrees)))
    (l_law_agrees : K.lookup f_law_agrees = some ⟨oc_law_agrees, od_law_agrees, .func (PySem.W.fnOf "_law_agrees" "_law_agrees" (defArgs s_law_agrees) (defBody s_law_agrees) (defScope s_law_agrees) .none kV_law_agrees dc_law_agrees pm_law_agrees an_law_agrees cd_law_agrees ct_law_agrees), sl_law_agrees⟩)
    (c_law_agrees : PySem.W.codeIn K cd_law_agrees "_law_agrees" = true)
    (k_law_agrees : PySem.W.keepIn K (.ref f_law_agrees) = true)
    (a_law_copy : PySem.W.nsIn K mainGlobals "_law_copy" = some (some (.ref f_law_copy)))
    (l_law_copy : K.lookup f_law_copy = some ⟨oc_law_copy, od_law_copy, .func (PySem.W.fnOf "_law_copy" "_law_copy" (defArgs s_law_copy) (defBody s_law_copy) (defScope s_law_copy) .none kV_law_copy dc_law_copy pm_law_copy an_law_copy cd_law_copy ct_law_copy), sl_law_copy⟩)
    (c_law_copy : PySem.W.codeIn K cd_law_copy "_law_copy" = true)
    (k_law_copy : PySem.W.keepIn K (.ref f_law_copy) = true)
    (a_pressed_by : PySem.W.nsIn K mainGlobals "pressed_by" = some (some (.ref f_pressed_by)))
    (l_pressed_by : K.lookup f_pressed_by = some ⟨oc_pressed_by, od_pressed_by, .func (PySem.W.fnOf "pressed_by" "pressed_by" (defArgs s_pressed_by) (defBody s_pressed_by) (defScope s_pressed_by) .none kV_pressed_by dc_pressed_by pm_pressed_by an_pressed_by cd_pressed_by ct_pressed_by), sl_pressed_by⟩)
    (c_pressed_by : PySem.W.codeIn K cd_pressed_by "pressed_by" = true)
    (k_pressed_by : PySem.W.keepIn K (.ref f_pressed_by) = true)
    (a_law_letters_right : PySem.W.nsIn K mainGlobals "_law_letters_right" = some (some (.ref f_law_letters_right)))
    (l_law_letters_right : K.lookup f_law_letters_right = some ⟨oc_law_letters_right, od_law_letters_right, .func (PySem.W.fnOf "_law_letters_right" "_law_letters_right" (defArgs s_law_letters_right) (defBody s_law_letters_right) (defScope s_law_letters_right) .none kV_law_letters_right dc_law_letters_right pm_law_letters_right an_law_letters_right cd_law_letters_right ct_law_letters_right), sl_law_letters_right⟩)
    (c_law_letters_right : PySem.W.codeIn K cd_law_letters_right "_law_letters_right" = true)
    (k_law_letters_right : PySem.W.keepIn K (.ref f_law_letters_right) = true)
    (a_law_pot : PySem.W.nsIn K mainGlobals "_law_pot" = some (some (.ref f_law_pot)))
    (l_law_pot : K.lookup f_law_pot = some ⟨oc_law_pot, od_law_pot, .func (PySem.W.fnOf "_law_pot" "_law_pot" (defArgs s_law_pot) (defBody s_law_pot) (defScope s_law_pot) .none kV_law_pot dc_law_pot pm_law_pot an_law_pot cd_law_pot ct_law_pot), sl_law_pot⟩)
    (c_law_pot : PySem.W.codeIn K cd_law_pot "_law_pot" = true)
    (k_law_pot : PySem.W.keepIn K (.ref f_law_pot) = true)
    (a_law_spoil : PySem.W.nsIn K mainGlobals "_law_spoil" = some (some (.ref f_law_spoil)))
    (l_law_spoil : K.lookup f_law_spoil = some ⟨oc_law_spoil, od_law_spoil, .func (PySem.W.fnOf "_law_spoil" "_law_spoil" (defArgs s_law_spoil) (defBody s_law_spoil) (defScope s_law_spoil) .none kV_law_spoil dc_law_spoil pm_law_spoil an_law_spoil cd_law_spoil ct_law_spoil), sl_law_spoil⟩)
    (c_law_spoil : PySem.W.codeIn K cd_law_spoil "_law_spoil" = true)
    (k_law_spoil : PySem.W.keepIn K (.ref f_law_spoil) = true)
    (a_law_draw : PySem.W.nsIn K mainGlobals "_law_draw" = some (some (.ref f_law_draw)))
    (l_law_draw : K.lookup f_law_draw = some ⟨oc_law_draw, od_law_draw, .func (PySem.W.fnOf "_law_draw" "_law_draw" (defArgs s_law_draw) (defBody s_law_draw) (defScope s_law_draw) .none kV_law_draw dc_law_draw pm_law_draw an_law_draw cd_law_draw ct_law_draw), sl_law_draw⟩)
    (c_law_draw : PySem.W.codeIn K cd_law_draw "_law_draw" = true)
    (k_law_draw : PySem.W.keepIn K (.ref f_law_draw) = true)
    (a_law_rows : PySem.W.nsIn K mainGlobals "_law_rows" = some (some (.ref f_law_rows)))
    (l_law_rows : K.lookup f_law_rows = some ⟨oc_law_rows, od_law_rows, .func (PySem.W.fnOf "_law_rows" "_law_rows" (defArgs s_law_rows) (defBody s_law_rows) (defScope s_law_rows) .none kV_law_rows dc_law_rows pm_law_rows an_law_rows cd_law_rows ct_law_rows), sl_law_rows⟩)
    (c_law_rows : PySem.W.codeIn K cd_law_rows "_law_rows" = true)
    (k_law_rows : PySem.W.keepIn K (.ref f_law_rows) = true)
    (a_law_word : PySem.W.nsIn K mainGlobals "_law_word" = some (some (.ref f_law_word)))
    (l_law_word : K.lookup f_law_word = some ⟨oc_law_word, od_law_word, .func (PySem.W.fnOf "_law_word" "_law_word" (defArgs s_law_word) (defBody s_law_word) (defScope s_law_word) .none kV_law_word dc_law_word pm_law_word an_law_word cd_law_word ct_law_word), sl_law_word⟩)
    (c_law_word : PySem.W.codeIn K cd_law_word "_law_word" = true)
    (k_law_word : PySem.W.keepIn K (.ref f_law_word) = true)
    (a_law_words : PySem.W.nsIn K mainGlobals "_law_words" = some (some (.ref f_law_words)))
    (l_law_words : K.lookup f_law_words = some ⟨oc_law_words, od_law_words, .func (PySem.W.fnOf "_law_words" "_law_words" (defArgs s_law_words) (defBody s_law_words) (defScope s_law_words) .none kV_law_words dc_law_words pm_law_words an_law_words cd_law_words ct_law_words), sl_law_words⟩)
    (c_law_words : PySem.W.codeIn K cd_law_words "_law_words" = true)
    (k_law_words : PySem.W.keepIn K (.ref f_law_words) = true)
    (a_law_table : PySem.W.nsIn K mainGlobals "_law_table" = some (some (.ref f_law_table)))
    (l_law_table : K.lookup f_law_table = some ⟨oc_law_table, od_law_table, .func (PySem.W.fnOf "_law_table" "_law_table" (defArgs s_law_table) (defBody s_law_table) (defScope s_law_table) .none kV_law_table dc_law_table pm_law_table an_law_table cd_law_table ct_law_table), sl_law_table⟩)
    (c_law_table : PySem.W.codeIn K cd_law_table "_law_table" = true)
    (k_law_table : PySem.W.keepIn K (.ref f_law_table) = true)
    (a_law : PySem.W.nsIn K mainGlobals "law" = some (some (.ref f_law)))
    (l_law : K.lookup f_law = some ⟨oc_law, od_law, .func (PySem.W.fnOf "law" "law" (defArgs s_law) (defBody s_law) (defScope s_law) .none kV_law dc_law pm_law an_law cd_law ct_law), sl_law⟩)
    (c_law : PySem.W.codeIn K cd_law "law" = true)
    (k_law : PySem.W.keepIn K (.ref f_law) = true)
    (pg_Table : PySem.W.plainGet K C_Table Str.empty = true)
    (hd_Table : PySem.W.hasDictIn K C_Table = true)
    (po_Table : PySem.W.plainOver K C_Table = true)
    (sa_Table : PySem.W.findIn K (.ref C_Table) "__setattr__" = some (some (.builtin "object.__setattr__")))
    (mk_Table : PySem.W.makesIn K C_Table = true)
    (kc_Table : PySem.W.keepIn K (.ref C_Table) = true)
    (na_Table_all_keys : PySem.W.findIn K (.ref C_Table) "all_keys" = some none)
    (na_Table_all_states : PySem.W.findIn K (.ref C_Table) "all_states" = some none)
    (na_Table_all_lamps : PySem.W.findIn K (.ref C_Table) "all_lamps" = some none)
    (na_Table_goals : PySem.W.findIn K (.ref C_Table) "goals" = some none)
    (na_Table_shining : PySem.W.findIn K (.ref C_Table) "shining" = some none)
    (z_abs : PySem.W.nsIn K mainGlobals "abs" = some none)
    (z_all : PySem.W.nsIn K mainGlobals "all" = some none)
    (z_any : PySem.W.nsIn K mainGlobals "any" = some none)
    (z_bool : PySem.W.nsIn K mainGlobals "bool" = some none)
    (z_divmod : PySem.W.nsIn K mainGlobals "divmod" = some none)
    (z_enumerate : PySem.W.nsIn K mainGlobals "enumerate" = some none)
    (z_int : PySem.W.nsIn K mainGlobals "int" = some none)
    (z_isinstance : PySem.W.nsIn K mainGlobals "isinstance" = some none)
    (z_len : PySem.W.nsIn K mainGlobals "len" = some none)
    (z_list : PySem.W.nsIn K mainGlobals "list" = some none)
    (z_max : PySem.W.nsIn K mainGlobals "max" = some none)
    (z_min : PySem.W.nsIn K mainGlobals "min" = some none)
    (z_range : PySem.W.nsIn K mainGlobals "range" = some none)
    (z_tuple : PySem.W.nsIn K mainGlobals "tuple" = some none)
    (v_FEWEST_STATES : PySem.W.nsIn K mainGlobals "FEWEST_STATES" = some (some (.int 2 t_FEWEST_STATES)))
    (v_LETTERS : PySem.W.nsIn K mainGlobals "LETTERS" = some (some (.str "abcdefghijklmnopqrstuvwxyz" t_LETTERS)))
    (v_MOST_KEYS : PySem.W.nsIn K mainGlobals "MOST_KEYS" = some (some (.int 2 t_MOST_KEYS)))
    (v_MOST_LAMPS : PySem.W.nsIn K mainGlobals "MOST_LAMPS" = some (some (.int 2 t_MOST_LAMPS)))
    (v_MOST_LETTERS : PySem.W.nsIn K mainGlobals "MOST_LETTERS" = some (some (.int 8 t_MOST_LETTERS)))
    (v_MOST_STATES : PySem.W.nsIn K mainGlobals "MOST_STATES" = some (some (.int 4 t_MOST_STATES))) :
    ∃ fd : FuncData, (∀ (s : Shared) (v : Value), BindsTo s fd ⟨[v], []⟩ [("_law_script", v)]) ∧ ∀ base : Heap, K.In base → base.Ns mainGlobals mg → FnOk l.prog w K mg base CX0 6 fa fd ["_law_script"] (sp_law K) := by
  have e := hfa.symm.trans (PySem.W.mg_of X G a_law)
  cases e
  have F_first_crowd := fun_mk (st := s_first_crowd) l_first_crowd c_first_crowd k_first_crowd
  have b_first_crowd := F_first_crowd.binds (ps := ["keys", "states", "lamps"]) fun _ _ _ _ _ _ us hl => match us, hl with | [_, _, _], _ => rfl
  have F_first_misfit := fun_mk (st := s_first_misfit) l_first_misfit c_first_misfit k_first_misfit
  have b_first_misfit := F_first_misfit.binds (ps := ["many", "told", "long", "bound"]) fun _ _ _ _ _ _ us hl => match us, hl with | [_, _, _, _], _ => rfl
  have F_first_unsettled := fun_mk (st := s_first_unsettled) l_first_unsettled c_first_unsettled k_first_unsettled
  have b_first_unsettled := F_first_unsettled.binds (ps := ["rows"]) fun _ _ _ _ _ _ us hl => match us, hl with | [_], _ => rfl
  have F_look := fun_mk (st := s_look) l_look c_look k_look
  have b_look := F_look.binds (ps := ["word", "number"]) fun _ _ _ _ _ _ us hl => match us, hl with | [_, _], _ => rfl
  have F_is_word := fun_mk (st := s_is_word) l_is_word c_is_word k_is_word
  have b_is_word := F_is_word.binds (ps := ["text"]) fun _ _ _ _ _ _ us hl => match us, hl with | [_], _ => rfl
  have F_word_fault := fun_mk (st := s_word_fault) l_word_fault c_word_fault k_word_fault
  have b_word_fault := F_word_fault.binds (ps := ["words"]) fun _ _ _ _ _ _ us hl => match us, hl with | [_], _ => rfl
  have F_look_at_words := fun_mk (st := s_look_at_words) l_look_at_words c_look_at_words k_look_at_words
  have b_look_at_words := F_look_at_words.binds (ps := ["words"]) fun _ _ _ _ _ _ us hl => match us, hl with | [_], _ => rfl
  have F_Table_init := fun_mk (st := s_Table_init) l_Table_init c_Table_init k_Table_init
  have b_Table_init := F_Table_init.binds (ps := ["self", "keys", "states", "lamps", "rows", "lights"]) fun _ _ _ _ _ _ us hl => match us, hl with | [_, _, _, _, _, _], _ => rfl
  have F_Table_key_words := fun_mk (st := s_Table_key_words) l_Table_key_words c_Table_key_words k_Table_key_words
  have b_Table_key_words := F_Table_key_words.binds (ps := ["self"]) fun _ _ _ _ _ _ us hl => match us, hl with | [_], _ => rfl
  have F_Table_lamps := fun_mk (st := s_Table_lamps) l_Table_lamps c_Table_lamps k_Table_lamps
  have b_Table_lamps := F_Table_lamps.binds (ps := ["self"]) fun _ _ _ _ _ _ us hl => match us, hl with | [_], _ => rfl
  have F_Table_states := fun_mk (st := s_Table_states) l_Table_states c_Table_states k_Table_states
  have b_Table_states := F_Table_states.binds (ps := ["self"]) fun _ _ _ _ _ _ us hl => match us, hl with | [_], _ => rfl
  have F_Table_goes := fun_mk (st := s_Table_goes) l_Table_goes c_Table_goes k_Table_goes
  have b_Table_goes := F_Table_goes.binds (ps := ["self", "s", "x"]) fun _ _ _ _ _ _ us hl => match us, hl with | [_, _, _], _ => rfl
  have F_Table_letters := fun_mk (st := s_Table_letters) l_Table_letters c_Table_letters k_Table_letters
  have b_Table_letters := F_Table_letters.binds (ps := ["self"]) fun _ _ _ _ _ _ us hl => match us, hl with | [_], _ => rfl
  have F_Table_lights := fun_mk (st := s_Table_lights) l_Table_lights c_Table_lights k_Table_lights
  have b_Table_lights := F_Table_lights.binds (ps := ["self", "s"]) fun _ _ _ _ _ _ us hl => match us, hl with | [_, _], _ => rfl
  have F_law_is_whole := fun_mk (st := s_law_is_whole) l_law_is_whole c_law_is_whole k_law_is_whole
  have b_law_is_whole := F_law_is_whole.binds (ps := ["_law_thing"]) fun _ _ _ _ _ _ us hl => match us, hl with | [_], _ => rfl
  have F_law_agrees := fun_mk (st := s_law_agrees) l_law_agrees c_law_agrees k_law_agrees
  have b_law_agrees := F_law_agrees.binds (ps := ["_law_table_here", "_law_told"]) fun _ _ _ _ _ _ us hl => match us, hl with | [_, _], _ => rfl
  have F_law_copy := fun_mk (st := s_law_copy) l_law_copy c_law_copy k_law_copy
  have b_law_copy := F_law_copy.binds (ps := ["_law_told"]) fun _ _ _ _ _ _ us hl => match us, hl with | [_], _ => rfl
  have F_pressed_by := fun_mk (st := s_pressed_by) l_pressed_by c_pressed_by k_pressed_by
  have b_pressed_by := F_pressed_by.binds (ps := ["many", "x"]) fun _ _ _ _ _ _ us hl => match us, hl with | [_, _], _ => rfl
  have F_law_letters_right := fun_mk (st := s_law_letters_right) l_law_letters_right c_law_letters_right k_law_letters_right
  have b_law_letters_right := F_law_letters_right.binds (ps := ["_law_many"]) fun _ _ _ _ _ _ us hl => match us, hl with | [_], _ => rfl
  have F_law_pot := fun_mk (st := s_law_pot) l_law_pot c_law_pot k_law_pot
  have b_law_pot := F_law_pot.binds (ps := ["_law_script", "_law_k"]) fun _ _ _ _ _ _ us hl => match us, hl with | [_, _], _ => rfl
  have F_law_spoil := fun_mk (st := s_law_spoil) l_law_spoil c_law_spoil k_law_spoil
  have b_law_spoil := F_law_spoil.binds (ps := ["_law_handed"]) fun _ _ _ _ _ _ us hl => match us, hl with | [_], _ => rfl
  have F_law_draw := fun_mk (st := s_law_draw) l_law_draw c_law_draw k_law_draw
  have b_law_draw := F_law_draw.binds (ps := ["_law_pot_here", "_law_many"]) fun _ _ _ _ _ _ us hl => match us, hl with | [_, _], _ => rfl
  have F_law_rows := fun_mk (st := s_law_rows) l_law_rows c_law_rows k_law_rows
  have b_law_rows := F_law_rows.binds (ps := ["_law_pot_here", "_law_many", "_law_letters"]) fun _ _ _ _ _ _ us hl => match us, hl with | [_, _, _], _ => rfl
  have F_law_word := fun_mk (st := s_law_word) l_law_word c_law_word k_law_word
  have b_law_word := F_law_word.binds (ps := ["_law_pot_here", "_law_taken"]) fun _ _ _ _ _ _ us hl => match us, hl with | [_, _], _ => rfl
  have F_law_words := fun_mk (st := s_law_words) l_law_words c_law_words k_law_words
  have b_law_words := F_law_words.binds (ps := ["_law_pot_here", "_law_many", "_law_taken"]) fun _ _ _ _ _ _ us hl => match us, hl with | [_, _, _], _ => rfl
  have F_law_table := fun_mk (st := s_law_table) l_law_table c_law_table k_law_table
  have b_law_table := F_law_table.binds (ps := ["_law_pot_here"]) fun _ _ _ _ _ _ us hl => match us, hl with | [_], _ => rfl
  have F_law := fun_mk (st := s_law) l_law c_law k_law
  have b_law := F_law.binds (ps := ["_law_script"]) fun _ _ _ _ _ _ us hl => match us, hl with | [_], _ => rfl
  have T : Tx K mg ⟨f_first_crowd, (PySem.W.fnOf "first_crowd" "first_crowd" (defArgs s_first_crowd) (defBody s_first_crowd) (defScope s_first_crowd) .none kV_first_crowd dc_first_crowd pm_first_crowd an_first_crowd cd_first_crowd ct_first_crowd), f_first_misfit, (PySem.W.fnOf "first_misfit" "first_misfit" (defArgs s_first_misfit) (defBody s_first_misfit) (defScope s_first_misfit) .none kV_first_misfit dc_first_misfit pm_first_misfit an_first_misfit cd_first_misfit ct_first_misfit), f_first_unsettled, (PySem.W.fnOf "first_unsettled" "first_unsettled" (defArgs s_first_unsettled) (defBody s_first_unsettled) (defScope s_first_unsettled) .none kV_first_unsettled dc_first_unsettled pm_first_unsettled an_first_unsettled cd_first_unsettled ct_first_unsettled), f_look, (PySem.W.fnOf "look" "look" (defArgs s_look) (defBody s_look) (defScope s_look) .none kV_look dc_look pm_look an_look cd_look ct_look), f_is_word, (PySem.W.fnOf "is_word" "is_word" (defArgs s_is_word) (defBody s_is_word) (defScope s_is_word) .none kV_is_word dc_is_word pm_is_word an_is_word cd_is_word ct_is_word), f_word_fault, (PySem.W.fnOf "word_fault" "word_fault" (defArgs s_word_fault) (defBody s_word_fault) (defScope s_word_fault) .none kV_word_fault dc_word_fault pm_word_fault an_word_fault cd_word_fault ct_word_fault), f_look_at_words, (PySem.W.fnOf "look_at_words" "look_at_words" (defArgs s_look_at_words) (defBody s_look_at_words) (defScope s_look_at_words) .none kV_look_at_words dc_look_at_words pm_look_at_words an_look_at_words cd_look_at_words ct_look_at_words), f_Table_init, (PySem.W.fnOf "__init__" "Table.__init__" (defArgs s_Table_init) (defBody s_Table_init) (defScope s_Table_init) .none kV_Table_init dc_Table_init pm_Table_init an_Table_init cd_Table_init ct_Table_init), f_Table_key_words, (PySem.W.fnOf "key_words" "Table.key_words" (defArgs s_Table_key_words) (defBody s_Table_key_words) (defScope s_Table_key_words) .none kV_Table_key_words dc_Table_key_words pm_Table_key_words an_Table_key_words cd_Table_key_words ct_Table_key_words), f_Table_lamps, (PySem.W.fnOf "lamps" "Table.lamps" (defArgs s_Table_lamps) (defBody s_Table_lamps) (defScope s_Table_lamps) .none kV_Table_lamps dc_Table_lamps pm_Table_lamps an_Table_lamps cd_Table_lamps ct_Table_lamps), f_Table_states, (PySem.W.fnOf "states" "Table.states" (defArgs s_Table_states) (defBody s_Table_states) (defScope s_Table_states) .none kV_Table_states dc_Table_states pm_Table_states an_Table_states cd_Table_states ct_Table_states), f_Table_goes, (PySem.W.fnOf "goes" "Table.goes" (defArgs s_Table_goes) (defBody s_Table_goes) (defScope s_Table_goes) .none kV_Table_goes dc_Table_goes pm_Table_goes an_Table_goes cd_Table_goes ct_Table_goes), f_Table_letters, (PySem.W.fnOf "letters" "Table.letters" (defArgs s_Table_letters) (defBody s_Table_letters) (defScope s_Table_letters) .none kV_Table_letters dc_Table_letters pm_Table_letters an_Table_letters cd_Table_letters ct_Table_letters), f_Table_lights, (PySem.W.fnOf "lights" "Table.lights" (defArgs s_Table_lights) (defBody s_Table_lights) (defScope s_Table_lights) .none kV_Table_lights dc_Table_lights pm_Table_lights an_Table_lights cd_Table_lights ct_Table_lights), f_law_is_whole, (PySem.W.fnOf "_law_is_whole" "_law_is_whole" (defArgs s_law_is_whole) (defBody s_law_is_whole) (defScope s_law_is_whole) .none kV_law_is_whole dc_law_is_whole pm_law_is_whole an_law_is_whole cd_law_is_whole ct_law_is_whole), f_law_agrees, (PySem.W.fnOf "_law_agrees" "_law_agrees" (defArgs s_law_agrees) (defBody s_law_agrees) (defScope s_law_agrees) .none kV_law_agrees dc_law_agrees pm_law_agrees an_law_agrees cd_law_agrees ct_law_agrees), f_law_copy, (PySem.W.fnOf "_law_copy" "_law_copy" (defArgs s_law_copy) (defBody s_law_copy) (defScope s_law_copy) .none kV_law_copy dc_law_copy pm_law_copy an_law_copy cd_law_copy ct_law_copy), f_pressed_by, (PySem.W.fnOf "pressed_by" "pressed_by" (defArgs s_pressed_by) (defBody s_pressed_by) (defScope s_pressed_by) .none kV_pressed_by dc_pressed_by pm_pressed_by an_pressed_by cd_pressed_by ct_pressed_by), f_law_letters_right, (PySem.W.fnOf "_law_letters_right" "_law_letters_right" (defArgs s_law_letters_right) (defBody s_law_letters_right) (defScope s_law_letters_right) .none kV_law_letters_right dc_law_letters_right pm_law_letters_right an_law_letters_right cd_law_letters_right ct_law_letters_right), f_law_pot, (PySem.W.fnOf "_law_pot" "_law_pot" (defArgs s_law_pot) (defBody s_law_pot) (defScope s_law_pot) .none kV_law_pot dc_law_pot pm_law_pot an_law_pot cd_law_pot ct_law_pot), f_law_spoil, (PySem.W.fnOf "_law_spoil" "_law_spoil" (defArgs s_law_spoil) (defBody s_law_spoil) (defScope s_law_spoil) .none kV_law_spoil dc_law_spoil pm_law_spoil an_law_spoil cd_law_spoil ct_law_spoil), f_law_draw, (PySem.W.fnOf "_law_draw" "_law_draw" (defArgs s_law_draw) (defBody s_law_draw) (defScope s_law_draw) .none kV_law_draw dc_law_draw pm_law_draw an_law_draw cd_law_draw ct_law_draw), f_law_rows, (PySem.W.fnOf "_law_rows" "_law_rows" (defArgs s_law_rows) (defBody s_law_rows) (defScope s_law_rows) .none kV_law_rows dc_law_rows pm_law_rows an_law_rows cd_law_rows ct_law_rows), f_law_word, (PySem.W.fnOf "_law_word" "_law_word" (defArgs s_law_word) (defBody s_law_word) (defScope s_law_word) .none kV_law_word dc_law_word pm_law_word an_law_word cd_law_word ct_law_word), f_law_words, (PySem.W.fnOf "_law_words" "_law_words" (defArgs s_law_words) (defBody s_law_words) (defScope s_law_words) .none kV_law_words dc_law_words pm_law_words an_law_words cd_law_words ct_law_words), f_law_table, (PySem.W.fnOf "_law_table" "_law_table" (defArgs s_law_table) (defBody s_law_table) (defScope s_law_table) .none kV_law_table dc_law_table pm_law_table an_law_table cd_law_table ct_law_table), fa, (PySem.W.fnOf "law" "law" (defArgs s_law) (defBody s_law) (defScope s_law) .none kV_law dc_law pm_law an_law cd_law ct_law), C_Table⟩ := ⟨F_first_crowd, b_first_crowd, PySem.W.mg_of X G a_first_crowd, F_first_misfit, b_first_misfit, PySem.W.mg_of X G a_first_misfit, F_first_unsettled, b_first_unsettled, PySem.W.mg_of X G a_first_unsettled, F_look, b_look, PySem.W.mg_of X G a_look, F_is_word, b_is_word, PySem.W.mg_of X G a_is_word, F_word_fault, b_word_fault, PySem.W.mg_of X G a_word_fault, F_look_at_words, b_look_at_words, PySem.W.mg_of X G a_look_at_words, F_Table_init, b_Table_init, F_Table_key_words, b_Table_key_words, ⟨a_Table_key_words, i_Table_key_words, k_Table_key_words⟩, F_Table_lamps, b_Table_lamps, ⟨a_Table_lamps, i_Table_lamps, k_Table_lamps⟩, F_Table_states, b_Table_states, ⟨a_Table_states, i_Table_states, k_Table_states⟩, F_Table_goes, b_Table_goes, ⟨a_Table_goes, i_Table_goes, k_Table_goes⟩, F_Table_letters, b_Table_letters, ⟨a_Table_letters, i_Table_letters, k_Table_letters⟩, F_Table_lights, b_Table_lights, ⟨a_Table_lights, i_Table_lights, k_Table_lights⟩, F_law_is_whole, b_law_is_whole, PySem.W.mg_of X G a_law_is_whole, F_law_agrees, b_law_agrees, PySem.W.mg_of X G a_law_agrees, F_law_copy, b_law_copy, PySem.W.mg_of X G a_law_copy, F_pressed_by, b_pressed_by, PySem.W.mg_of X G a_pressed_by, F_law_letters_right, b_law_letters_right, PySem.W.mg_of X G a_law_letters_right, F_law_pot, b_law_pot, PySem.W.mg_of X G a_law_pot, F_law_spoil, b_law_spoil, PySem.W.mg_of X G a_law_spoil, F_law_draw, b_law_draw, PySem.W.mg_of X G a_law_draw, F_law_rows, b_law_rows, PySem.W.mg_of X G a_law_rows, F_law_word, b_law_word, PySem.W.mg_of X G a_law_word, F_law_words, b_law_words, PySem.W.mg_of X G a_law_words, F_law_table, b_law_table, PySem.W.mg_of X G a_law_table, F_law, b_law, PySem.W.mg_of X G a_law, ⟨pg_Table, hd_Table, po_Table, sa_Table⟩, PySem.W.mg_of X G aC_Table, aC_Table, ⟨mk_Table, a_Table_init, i_Table_init, kc_Table⟩, na_Table_all_keys, na_Table_all_states, na_Table_all_lamps, na_Table_goals, na_Table_shining, PySem.W.mg_none_of X G z_abs, PySem.W.mg_none_of X G z_all, PySem.W.mg_none_of X G z_any, PySem.W.mg_none_of X G z_bool, PySem.W.mg_none_of X G z_divmod, PySem.W.mg_none_of X G z_enumerate, PySem.W.mg_none_of X G z_int, PySem.W.mg_none_of X G z_isinstance, PySem.W.mg_none_of X G z_len, PySem.W.mg_none_of X G z_list, PySem.W.mg_none_of X G z_max, PySem.W.mg_none_of X G z_min, PySem.W.mg_none_of X G z_range, PySem.W.mg_none_of X G z_tuple, ⟨_, PySem.W.mg_of X G v_FEWEST_STATES⟩, ⟨_, PySem.W.mg_of X G v_LETTERS⟩, ⟨_, PySem.W.mg_of X G v_MOST_KEYS⟩, ⟨_, PySem.W.mg_of X G v_MOST_LAMPS⟩, ⟨_, PySem.W.mg_of X G v_MOST_LETTERS⟩, ⟨_, PySem.W.mg_of X G v_MOST_STATES⟩⟩
  exact ⟨(PySem.W.fnOf "law" "law" (defArgs s_law) (defBody s_law) (defScope s_law) .none kV_law dc_law pm_law an_law cd_law ct_law), fun s v => .of_eq rfl, fun base _ _ => ok_law T⟩
theorem walk {l : PySem.W.OpenLaw} {q : Program} {loose : List Str} {XP : (Str → Option Value) → Heap → Prop} {YP : World → Heap → Prop} {d : DefRec} {K : Params → PySem.W.Frag} (hn : l.most = some 63) (hdf : d.params.defaults = [])
    (hY : ∀ (w : World) (h : Heap), YP w h → (K w.params).In h)
    (F : ∀ (w : World) (mg : Str → Option Value) (fa : Addr) (h : Heap), (K w.params).In h → h.Ns mainGlobals mg → mg d.name = some (.ref fa) →
      ∃ fd : FuncData, (∀ (s : Shared) (u : Value), BindsTo s fd ⟨[u], []⟩ [("_law_script", u)]) ∧ ∀ base : Heap, (K w.params).In base → base.Ns mainGlobals mg → FnOk l.prog w (K w.params) mg base CX0 6 fa fd ["_law_script"] (sp_law (K w.params))) :
    PySem.W.WalkO q loose XP YP l.row.toRowW d [] (fun f vs => PySem.call f vs) :=
  L2.walk_of (n := 63) (k := 6) (x := "_law_script") (CX := fun _ => CX0) (sp := fun w => sp_law (K w.params)) hn (by decide) hdf ⟨rfl, by decide, by decide⟩ hY F (fun _ _ a ns hl ho hS => ⟨no, _, ⟨ns⟩, true, rfl, Dm.no, scr_of ho hS, plain ns hl, fun _ _ => rfl⟩) fun _ _ _ _ _ z => z
end G
open PySem PySem.W PyProof.Rows in
set_option maxRecDepth 100000 in
set_option maxHeartbeats 0 in
theorem PySem.Challenge.cw_relayholds_k51_tables_told_holds : PySem.Challenge.rw_relayholds_k51_tables_told.Holds := by
  w_on; o_law; k_head; (case hw => w_witness2)
  k_fill
  refine G.walk (l := PySem.Challenge.rw_relayholds_k51_tables_told) rfl rfl (fun w h Y => PySem.W.kIn_of Y) ?F
  case F =>
    intro w mg fa h KX Gm hmg
    refine' G.all_mk KX Gm hmg ?aC_Table ?a_first_crowd ?l_first_crowd ?c_first_crowd ?k_first_crowd ?a_first_misfit ?l_first_misfit ?c_first_misfit ?k_first_misfit ?a_first_unsettled ?l_first_unsettled ?c_first_unsettled ?k_first_unsettled ?a_look ?l_look ?c_look ?k_look ?a_is_word ?l_is_word ?c_is_word ?k_is_word ?a_word_fault ?l_word_fault ?c_word_fault ?k_word_fault ?a_look_at_words ?l_look_at_words ?c_look_at_words ?k_look_at_words ?a_Table_init ?i_Table_init ?l_Table_init ?c_Table_init ?k_Table_init ?a_Table_key_words ?i_Table_key_words ?l_Table_key_words ?c_Table_key_words ?k_Table_key_words ?a_Table_lamps ?i_Table_lamps ?l_Table_lamps ?c_Table_lamps ?k_Table_lamps ?a_Table_states ?i_Table_states ?l_Table_states ?c_Table_states ?k_Table_states ?a_Table_goes ?i_Table_goes ?l_Table_goes ?c_Table_goes ?k_Table_goes ?a_Table_letters ?i_Table_letters ?l_Table_letters ?c_Table_letters ?k_Table_letters ?a_Table_lights ?i_Table_lights ?l_Table_lights ?c_Table_lights ?k_Table_lights ?a_law_is_whole ?l_law_is_whole ?c_law_is_whole ?k_law_is_whole ?a_law_agrees ?l_law_agrees ?c_law_agrees ?k_law_agrees ?a_law_copy ?l_law_copy ?c_law_copy ?k_law_copy ?a_pressed_by ?l_pressed_by ?c_pressed_by ?k_pressed_by ?a_law_letters_right ?l_law_letters_right ?c_law_letters_right ?k_law_letters_right ?a_law_pot ?l_law_pot ?c_law_pot ?k_law_pot ?a_law_spoil ?l_law_spoil ?c_law_spoil ?k_law_spoil ?a_law_draw ?l_law_draw ?c_law_draw ?k_law_draw ?a_law_rows ?l_law_rows ?c_law_rows ?k_law_rows ?a_law_word ?l_law_word ?c_law_word ?k_law_word ?a_law_words ?l_law_words ?c_law_words ?k_law_words ?a_law_table ?l_law_table ?c_law_table ?k_law_table ?a_law ?l_law ?c_law ?k_law ?pg_Table ?hd_Table ?po_Table ?sa_Table ?mk_Table ?kc_Table ?na_Table_all_keys ?na_Table_all_states ?na_Table_all_lamps ?na_Table_goals ?na_Table_shining ?z_abs ?z_all ?z_any ?z_bool ?z_divmod ?z_enumerate ?z_int ?z_isinstance ?z_len ?z_list ?z_max ?z_min ?z_range ?z_tuple ?v_FEWEST_STATES ?v_LETTERS ?v_MOST_KEYS ?v_MOST_LAMPS ?v_MOST_LETTERS ?v_MOST_STATES
    (case aC_Table => k_is)
    (case a_first_crowd => k_is)
    (case l_first_crowd => k_is)
    (case c_first_crowd => k_is)
    (case k_first_crowd => k_is)
    (case a_first_misfit => k_is)
    (case l_first_misfit => k_is)
    (case c_first_misfit => k_is)
    (case k_first_misfit => k_is)
    (case a_first_unsettled => k_is)
    (case l_first_unsettled => k_is)
    (case c_first_unsettled => k_is)
    (case k_first_unsettled => k_is)
    (case a_look => k_is)
    (case l_look => k_is)
    (case c_look => k_is)
    (case k_look => k_is)
    (case a_is_word => k_is)
    (case l_is_word => k_is)
    (case c_is_word => k_is)
    (case k_is_word => k_is)
    (case a_word_fault => k_is)
    (case l_word_fault => k_is)
    (case c_word_fault => k_is)
    (case k_word_fault => k_is)
    (case a_look_at_words => k_is)
    (case l_look_at_words => k_is)
    (case c_look_at_words => k_is)
    (case k_look_at_words => k_is)
    (case a_Table_init => k_is)
    (case i_Table_init => k_is)
    (case l_Table_init => k_is)
    (case c_Table_init => k_is)
    (case k_Table_init => k_is)
    (case a_Table_key_words => k_is)
    (case i_Table_key_words => k_is)
    (case l_Table_key_words => k_is)
    (case c_Table_key_words => k_is)
    (case k_Table_key_words => k_is)
    (case a_Table_lamps => k_is)
    (case i_Table_lamps => k_is)
    (case l_Table_lamps => k_is)
    (case c_Table_lamps => k_is)
    (case k_Table_lamps => k_is)
    (case a_Table_states => k_is)
    (case i_Table_states => k_is)
    (case l_Table_states => k_is)
    (case c_Table_states => k_is)
    (case k_Table_states => k_is)
    (case a_Table_goes => k_is)
    (case i_Table_goes => k_is)
    (case l_Table_goes => k_is)
    (case c_Table_goes => k_is)
    (case k_Table_goes => k_is)
    (case a_Table_letters => k_is)
    (case i_Table_letters => k_is)
    (case l_Table_letters => k_is)
    (case c_Table_letters => k_is)
    (case k_Table_letters => k_is)
    (case a_Table_lights => k_is)
    (case i_Table_lights => k_is)
    (case l_Table_lights => k_is)
    (case c_Table_lights => k_is)
    (case k_Table_lights => k_is)
    (case a_law_is_whole => k_is)
    (case l_law_is_whole => k_is)
    (case c_law_is_whole => k_is)
    (case k_law_is_whole => k_is)
    (case a_law_agrees => k_is)
    (case l_law_agrees => k_is)
    (case c_law_agrees => k_is)
    (case k_law_agrees => k_is)
    (case a_law_copy => k_is)
    (case l_law_copy => k_is)
    (case c_law_copy => k_is)
    (case k_law_copy => k_is)
    (case a_pressed_by => k_is)
    (case l_pressed_by => k_is)
    (case c_pressed_by => k_is)
    (case k_pressed_by => k_is)
    (case a_law_letters_right => k_is)
    (case l_law_letters_right => k_is)
    (case c_law_letters_right => k_is)
    (case k_law_letters_right => k_is)
    (case a_law_pot => k_is)
    (case l_law_pot => k_is)
    (case c_law_pot => k_is)
    (case k_law_pot => k_is)
    (case a_law_spoil => k_is)
    (case l_law_spoil => k_is)
    (case c_law_spoil => k_is)
    (case k_law_spoil => k_is)
    (case a_law_draw => k_is)
    (case l_law_draw => k_is)
    (case c_law_draw => k_is)
    (case k_law_draw => k_is)
    (case a_law_rows => k_is)
    (case l_law_rows => k_is)
    (case c_law_rows => k_is)
    (case k_law_rows => k_is)
    (case a_law_word => k_is)
    (case l_law_word => k_is)
    (case c_law_word => k_is)
    (case k_law_word => k_is)
    (case a_law_words => k_is)
    (case l_law_words => k_is)
    (case c_law_words => k_is)
    (case k_law_words => k_is)
    (case a_law_table => k_is)
    (case l_law_table => k_is)
    (case c_law_table => k_is)
    (case k_law_table => k_is)
    (case a_law => k_is)
    (case l_law => k_is)
    (case c_law => k_is)
    (case k_law => k_is)
    (case pg_Table => k_is)
    (case hd_Table => k_is)
    (case po_Table => k_is)
    (case sa_Table => k_is)
    (case mk_Table => k_is)
    (case kc_Table => k_is)
    (case na_Table_all_keys => k_is)
    (case na_Table_all_states => k_is)
    (case na_Table_all_lamps => k_is)
    (case na_Table_goals => k_is)
    (case na_Table_shining => k_is)
    (case z_abs => k_is)
    (case z_all => k_is)
    (case z_any => k_is)
    (case z_bool => k_is)
    (case z_divmod => k_is)
    (case z_enumerate => k_is)
    (case z_int => k_is)
    (case z_isinstance => k_is)
    (case z_len => k_is)
    (case z_list => k_is)
    (case z_max => k_is)
    (case z_min => k_is)
    (case z_range => k_is)
    (case z_tuple => k_is)
    (case v_FEWEST_STATES => k_is)
    (case v_LETTERS => k_is)
    (case v_MOST_KEYS => k_is)
    (case v_MOST_LAMPS => k_is)
    (case v_MOST_LETTERS => k_is)
    (case v_MOST_STATES => k_is)
