import PyProof.Rows.All
import Wide.All
import OpenK.AllK
import Wide.FinOn
import HandS.ForMost
import HandS.Wide
import HandS.EndBits
import HandS.StrMore
import HandS.TupAny
import HandS.TupLe
import HandS.IsInst
import HandS.Defaults
import HandS.Style
import HandS.Zip
import HandS.AnyAll
import PyProof.StrBlock2
import PyProof.StrLawsFrom
import HandS.Walk
import HandS.Evl
import PySem.Challenge.RW_beadasks_k19_patterns_and_their_common_r
set_option Elab.async false
set_option linter.all false
set_option maxRecDepth 100000
set_option maxHeartbeats 4000000
/-! BB: own additions to the layer: unions of operators by value, text * int, calls by keywords alone, defs with their promises, boxes of draws. -/
namespace BB
open PySem PySem.Spec PyProof.Rows L2

/-! ### heaps: all that was tracked is as it was, but at b -/
def SameB (b : Addr) (H H' : Hp) : Prop := ∀ a o, a ≠ b → H a = some o → H' a = some o
theorem SameB.refl {b : Addr} (H : Hp) : SameB b H H := fun _ _ _ h => h
theorem SameB.trans {b : Addr} {H H1 H2 : Hp} (x : SameB b H H1) (y : SameB b H1 H2) : SameB b H H2 := fun a o n h => y a o n (x a o n h)
theorem SameB.of {b : Addr} {H H' : Hp} (x : Same H H') : SameB b H H' := fun a o _ h => x a o h
theorem SameB.put {b : Addr} {H : Hp} {o : HO} : SameB b H (upd H b o) := fun a u n h => by
  rw [upd_ne n]
  exact h
theorem same_new {H : Hp} {p : Addr} {o : HO} (h : H p = none) : Same H (upd H p o) := fun b x e => by
  rw [upd_ne (ne_of_none e h)]
  exact e
/-- a new object that changes -/
theorem Same.put {H H1 : Hp} {p : Addr} {o : HO} (x : Same H H1) (h : H p = none) : Same H (upd H1 p o) := fun b u e => by
  rw [upd_ne (ne_of_none e h)]
  exact x b u e
theorem SameB.putN {b : Addr} {H H1 : Hp} {p : Addr} {o : HO} (x : SameB b H H1) (h : H p = none) : SameB b H (upd H1 p o) := fun a u n e => by
  rw [upd_ne (ne_of_none e h)]
  exact x a u n e
theorem seqB {K : PySem.W.Frag} {b : Addr} {H H' : Hp} {a : Addr} {xs : List V} (e : SameB b H H') (hn : a ≠ b) (h : SqL K H a xs) : SqL K H' a xs := by
  rcases h with (h | ⟨o, h⟩) | h
  · exact .inl (.inl (e _ _ hn h))
  · exact .inl (.inr ⟨o, e _ _ hn h⟩)
  · exact .inr h
theorem lst_of {K : PySem.W.Frag} {H : Hp} {a : Addr} {xs : List V} (h : H a = some (.lst xs)) : SqL K H a xs := .inl (.inl h)
theorem tup_of {K : PySem.W.Frag} {H : Hp} {a : Addr} {xs : List V} (h : H a = some (.tup xs)) : SqT K H a xs := .inl (.inl h)
theorem small1m {n : Nat} (h : n ≤ 1000000) : n ≤ sizeLine := Nat.le_trans h (by decide)
theorem free_of {H H1 : Hp} {p : Addr} (x : Same H H1) (h : H1 p = none) : H p = none := Same.free x h

/-- a new object: its heap is told by what stands in it -/
def NewO (H : Hp) (o : HO) (Q : VK) : Prop := ∀ p H', H p = none → Same H H' → H' p = some o → Q (.ref p) H'
theorem NewO.up {H : Hp} {o : HO} {Q : VK} (h : NewO H o Q) : ∀ p, H p = none → Q (.ref p) (upd H p o) := fun p np => h p _ np (same_new np) upd_same
theorem OpR.weak {X : Cx} {f : Value → Value → Sem Value} {r r' : R2} (h : OpR X f r) (w : ∀ x y H Q, r' x y H Q → r x y H Q) : OpR X f r' := fun pins s σ H x y v u Q I rx ry q => h pins s σ H x y v u Q I rx ry (w x y H Q q)
theorem SlR.weak {X : Cx} {r r' : V → Option Int → Option Int → Hp → VK → Prop} (h : SlR X r) (w : ∀ x l u H Q, r' x l u H Q → r x l u H Q) : SlR X r' := fun pins s σ H x v vl vu lo hi sl Q I rx hs pl pu q => h pins s σ H x v vl vu lo hi sl Q I rx hs pl pu (w _ _ _ _ _ q)
theorem CallR.weak {X : Cx} {f : Value} {r r' : List V → Hp → VK → Prop} (h : CallR X f r) (w : ∀ x H Q, r' x H Q → r x H Q) : CallR X f r' := fun pins s σ H xs us Q I r q => h pins s σ H xs us Q I r (w _ _ _ q)
theorem PE.weak {X : Cx} {e : Expr} {t t' : TE} (h : PE X e t) (w : ∀ σ H Q, t' σ H Q → t σ H Q) : PE X e t' := ⟨fun pins s σ H Q I q => h.run pins s σ H Q I (w σ H Q q)⟩
def tLstN (t : TA) : TE := fun σ H Q => t σ H fun xs H1 => xs.length ≤ sizeLine ∧ NewO H1 (.lst xs) Q
def tTupN (t : TA) : TE := fun σ H Q => t σ H fun xs H1 => xs.length ≤ sizeLine ∧ NewO H1 (.tup xs) Q
section
variable {X : Cx} {es : List Expr} {t : TA} {pos : Pos}
theorem pe_tupN {x1} (h : PA X es t) : PE X (.Tuple es x1 pos) (tTupN t) := by
  refine ⟨fun pins s σ H Q I hq => ?_⟩
  refine wpAny_Tuple_spliced (thn (h.run pos pins s σ H _ I hq) fun us s1 ⟨xs, H1, I1, r, z, q⟩ => ⟨by rw [← r.length]; exact z, ?_⟩)
  have hf : H1 s1.heap.objs.size = none := I1.hok.fresh (Nat.le_refl _)
  refine ⟨.ref s1.heap.objs.size, upd H1 s1.heap.objs.size (.tup xs), I1.laid (t' := s1.toks) (fun b u e => Heap.get?_push_of_some _ e) (Nat.le_refl _) ?_, rfl, q.up _ hf⟩
  exact ⟨z, us, r, ⟨_, Heap.get?_push_size _ rfl, rfl, _, rfl⟩⟩
theorem pe_lstN (h : PA X es t) : PE X (.List es pos) (tLstN t) := by
  refine ⟨fun pins s σ H Q I hq => ?_⟩
  refine wpAny_List_spliced (thn (h.run pos pins s σ H _ I hq) fun us s1 ⟨xs, H1, I1, r, z, q⟩ => ⟨by rw [← r.length]; exact z, ?_⟩)
  have hf : H1 s1.heap.objs.size = none := I1.hok.fresh (Nat.le_refl _)
  refine ⟨.ref s1.heap.objs.size, upd H1 s1.heap.objs.size (.lst xs), I1.laid (t' := s1.toks) (fun b u e => Heap.get?_push_of_some _ e) (Nat.le_refl _) ?_, rfl, q.up _ hf⟩
  exact ⟨z, us, 0, r, Heap.get?_push_size _ rfl⟩
end
/-- list + list, tuple + tuple -/
def rCatN : R2 := fun x y H Q => ∃ l b xs zs, x = .ref l ∧ y = .ref b ∧ H l = some (.lst xs) ∧ H b = some (.lst zs) ∧ xs.length + zs.length ≤ sizeLine ∧ NewO H (.lst (xs ++ zs)) Q
theorem op_catN {X : Cx} : OpR X (binaryOp .Add) rCatN := OpR.weak op_cat fun _ _ _ _ h => by
  obtain ⟨l, b, xs, zs, e1, e2, h1, h2, z, q⟩ := h
  exact ⟨l, b, xs, zs, e1, e2, h1, h2, z, q.up⟩
/-- tuple + tuple: some tuple -/
def rCatTN (K : PySem.W.Frag) : R2 := fun x y H Q => ∃ a b xs ys, x = .ref a ∧ y = .ref b ∧ SqT K H a xs ∧ SqT K H b ys ∧ xs.length + ys.length ≤ sizeLine ∧ ∀ p H', Same H H' → SqT K H' p (xs ++ ys) → Q (.ref p) H'
theorem op_catTN {X : Cx} : OpR X (binaryOp .Add) (rCatTN X.K) := OpR.weak op_catA fun _ _ H _ h => by
  obtain ⟨a, b, xs, ys, e1, e2, h1, h2, z, q⟩ := h
  refine ⟨a, b, xs, ys, e1, e2, h1, h2, z, fun e => q b H (Same.refl _) (by rw [e]; exact h2), fun _ e => q a H (Same.refl _) (by rw [e, List.append_nil]; exact h1), fun _ _ p np => q p _ (same_new np) (tup_of upd_same)⟩
def rRepN : R2 := fun x y H Q => ∃ l k xs, x = .ref l ∧ y = .int k ∧ H l = some (.lst xs) ∧ -(2 ^ 63) ≤ k ∧ k < 2 ^ 63 ∧ xs.length * k.toNat ≤ sizeLine ∧ NewO H (.lst (List.replicate k.toNat xs).flatten) Q
theorem op_repN {X : Cx} : OpR X (binaryOp .Mult) rRepN := OpR.weak op_rep fun _ _ _ _ h => by
  obtain ⟨l, k, xs, e1, e2, h1, h2, h3, z, q⟩ := h
  exact ⟨l, k, xs, e1, e2, h1, h2, h3, z, q.up⟩
def rSlLN (K : PySem.W.Frag) : V → Option Int → Option Int → Hp → VK → Prop := fun x lo hi H Q => ∃ a xs, x = .ref a ∧ SqL K H a xs ∧ NewO H (.lst (cutV xs lo hi)) Q
theorem sl_listN {X : Cx} : SlR X (rSlLN X.K) := SlR.weak sl_list fun _ _ _ _ _ h => by
  obtain ⟨a, xs, e, h1, q⟩ := h
  exact ⟨a, xs, e, h1, q.up⟩
theorem sIx_full {xs : List V} {lo hi : Option Int} (h : HT.sIx xs.length 0 lo = 0 ∧ HT.sIx xs.length xs.length hi = xs.length) : cutV xs lo hi = xs := by
  unfold cutV
  rw [h.1, h.2, List.drop_zero, Nat.sub_zero, List.take_length]
def rSlTN (K : PySem.W.Frag) : V → Option Int → Option Int → Hp → VK → Prop := fun x lo hi H Q => ∃ a xs, x = .ref a ∧ SqT K H a xs ∧ ∀ p H', Same H H' → SqT K H' p (cutV xs lo hi) → Q (.ref p) H'
theorem sl_tupN {X : Cx} : SlR X (rSlTN X.K) := SlR.weak sl_tupA fun _ _ _ H _ h => by
  obtain ⟨a, xs, e, h1, q⟩ := h
  refine ⟨a, xs, e, h1, fun e => q a H (Same.refl _) (by rw [sIx_full e]; exact h1), fun _ p np => q p _ (same_new np) (tup_of upd_same)⟩
def rListN (K : PySem.W.Frag) : List V → Hp → VK → Prop := fun xs H Q => ∃ p ys, xs = [.ref p] ∧ (SqL K H p ys ∨ SqT K H p ys) ∧ NewO H (.lst ys) Q
theorem cr_listN {X : Cx} : CallR X (.type "list") (rListN X.K) := CallR.weak call_list_of fun _ _ _ h => by
  obtain ⟨p, ys, e, h1, q⟩ := h
  exact ⟨p, ys, e, h1, q.up⟩
def rTupleN (K : PySem.W.Frag) : List V → Hp → VK → Prop := fun xs H Q => ∃ p ys, xs = [.ref p] ∧ (SqL K H p ys ∨ SqT K H p ys) ∧ ∀ p H', Same H H' → SqT K H' p ys → Q (.ref p) H'
theorem cr_tupleN {X : Cx} : CallR X (.type "tuple") (rTupleN X.K) := CallR.weak call_tuple_of fun _ H _ h => by
  obtain ⟨p, ys, e, h1, q⟩ := h
  rcases h1 with h1 | h1
  · exact ⟨p, ys, e, .inl ⟨h1, fun l nl => q l _ (same_new nl) (tup_of upd_same)⟩⟩
  · exact ⟨p, ys, e, .inr ⟨h1, q p H (Same.refl _) h1⟩⟩
/-! ### operators, whatever the kinds -/
def rAddU (K : PySem.W.Frag) : R2 := fun x y H Q =>
  (∃ i j, x = .int i ∧ y = .int j ∧ Q (.int (i + j)) H) ∨ (∃ i j, x = .str i ∧ y = .str j ∧ i.length + j.length ≤ sizeLine ∧ Q (.str (i ++ j)) H) ∨ rCatN x y H Q ∨ rCatTN K x y H Q
theorem op_addU {X : Cx} : OpR X (binaryOp .Add) (rAddU X.K) := OpR.or op_add (OpR.or op_add_str (OpR.or op_catN op_catTN))
/-- text * int -/
def txtMul (x : Str) (n : Nat) : Str := ⟨(List.replicate n x.cps.toList).flatten.toArray⟩
theorem foldl_app (a : Array Nat) : ∀ (n : Nat) (acc : Array Nat), ((List.replicate n a).foldl (· ++ ·) acc).toList = acc.toList ++ (List.replicate n a.toList).flatten
  | 0, acc => by simp
  | n + 1, acc => by
    rw [List.replicate_succ, List.foldl_cons, foldl_app a n, List.replicate_succ, List.flatten_cons, Array.toList_append, List.append_assoc]
theorem txtMul_eq (x : Str) (n : Nat) : PySem.Txt.mul x (n : Int) = txtMul x n := by
  unfold PySem.Txt.mul txtMul
  by_cases h : (n : Int) < 1
  · rw [if_pos h]
    have e : n = 0 := by omega
    subst e
    rfl
  · rw [if_neg h]
    by_cases h2 : ((n : Int) == 1 || x.length == 0) = true
    · rw [if_pos h2]
      rw [Bool.or_eq_true] at h2
      rcases h2 with h2 | h2
      · have e : n = 1 := by
          have := eq_of_beq h2
          omega
        subst e
        simp
      · have e : x.cps.toList = [] := by
          have e1 : x.length = 0 := eq_of_beq h2
          have e2 : x.cps.toList.length = 0 := by
            rw [Array.length_toList]
            exact e1
          exact List.length_eq_zero_iff.mp e2
        have e3 : (List.replicate n x.cps.toList).flatten = [] := by
          rw [e]
          simp
        rw [e3, ← e]
    · rw [if_neg h2]
      have e := foldl_app x.cps n #[]
      rw [Int.toNat_natCast]
      congr 1
      apply Array.ext'
      rw [e]
      rfl
theorem mulOk_of {x : Str} {n : Nat} (h : x.length * n ≤ 1000000) (hn : n ≤ 1000000) : MulOk x (n : Int) := by
  refine ⟨?_, fun h1 h2 => ?_, fun h1 h2 => ?_⟩
  · rw [Bool.or_eq_false_iff]
    exact ⟨decide_eq_false (by omega), decide_eq_false (by omega)⟩
  · have hx : x.length ≤ 1000000 := by
      have : x.length * 1 ≤ x.length * n := Nat.mul_le_mul_left _ (by omega)
      omega
    have : (1000000 : Int) ≤ (2 ^ 63 - 1) / (n : Int) := by
      rw [Int.le_ediv_iff_mul_le (by omega)]
      omega
    omega
  · rw [Int.toNat_natCast]
    have : ¬ (x.length * n > sizeLine) := by
      have : (1000000 : Nat) ≤ sizeLine := by decide
      omega
    first
      | exact decide_eq_false this
      | (unfold tooLong; exact decide_eq_false (by unfold sizeLine at *; omega))
      | (unfold Builtin.Str.tooLong; exact decide_eq_false (by unfold sizeLine at *; omega))
def rMulS : R2 := fun x y H Q => ∃ (z : Str) (n : Nat), x = .str z ∧ y = .int (n : Int) ∧ z.length * n ≤ 1000000 ∧ n ≤ 1000000 ∧ Q (.str (txtMul z n)) H
theorem op_mulS {X : Cx} : OpR X (binaryOp .Mult) rMulS := by
  intro pins s σ H x y v u Q I rx ry h
  obtain ⟨z, n, rfl, rfl, h1, h2, q⟩ := h
  obtain ⟨t, rfl⟩ := rx
  obtain ⟨t', rfl⟩ := ry
  refine SB.mul (mulOk_of h1 h2) fun t' k => ?_
  rw [txtMul_eq]
  exact ⟨.str (txtMul z n), H, I.tok _, ⟨_, rfl⟩, q⟩
theorem op_mulI {X : Cx} : OpR X (binaryOp .Mult) (rI IntMulOk fun i j => .int (i * j)) := opI fun _ _ _ _ _ _ _ hc q => mul_int q hc
def rMulU : R2 := fun x y H Q => rI IntMulOk (fun i j => .int (i * j)) x y H Q ∨ rMulS x y H Q ∨ rRepN x y H Q
theorem op_mulU {X : Cx} : OpR X (binaryOp .Mult) rMulU := OpR.or op_mulI (OpR.or op_mulS op_repN)
theorem mulOk_l {i j : Int} (h : -(2 ^ 64) < i ∧ i < 2 ^ 64) : IntMulOk i j := (CMul.ok (i := i) (j := j) (.inl h))
def rEqU (K : PySem.W.Frag) : R2 := fun x y H Q => rEq x y H Q ∨ rEqD K x y H Q
theorem op_eqU {X : Cx} (hu : X.A.units + 64 < cLine) : OpR X (compareOp .Eq) (rEqU X.K) := OpR.or op_eq (op_eqD hu)
def rNeU (K : PySem.W.Frag) : R2 := fun x y H Q => rNe x y H Q ∨ rNeD K x y H Q
theorem op_neU {X : Cx} (hu : X.A.units + 64 < cLine) : OpR X (compareOp .NotEq) (rNeU X.K) := OpR.or op_ne (op_neD hu)
def rIsU : R2 := fun x y H Q => (y = .non ∧ Q (.bl (decide (x = .non))) H) ∨ (∃ a b, x = .bl a ∧ y = .bl b ∧ Q (.bl (decide (a = b))) H)
theorem op_isU {X : Cx} : OpR X (compareOp .Is) rIsU := OpR.or op_isN op_is_bl
def rNotU : R2 := fun x y H Q => (y = .non ∧ Q (.bl (!decide (x = .non))) H) ∨ (∃ a b, x = .bl a ∧ y = .bl b ∧ Q (.bl (!decide (a = b))) H)
theorem op_notU {X : Cx} : OpR X (compareOp .IsNot) rNotU := OpR.or op_notN op_isnot_bl
def rInU (K : PySem.W.Frag) : R2 := fun x y H Q => (∃ (c : Nat) (z : Str), x = .str ⟨#[c]⟩ ∧ y = .str z ∧ Q (.bl (decide (c ∈ z.cps.toList))) H) ∨ rIn K false x y H Q
theorem op_inU {X : Cx} : OpR X (compareOp .In) (rInU X.K) := OpR.or op_in_sign op_in_seq
def rNotInU (K : PySem.W.Frag) : R2 := fun x y H Q => (∃ (c : Nat) (z : Str), x = .str ⟨#[c]⟩ ∧ y = .str z ∧ Q (.bl (!decide (c ∈ z.cps.toList))) H) ∨ rIn K true x y H Q
theorem op_notInU {X : Cx} : OpR X (compareOp .NotIn) (rNotInU X.K) := OpR.or op_notIn_sign op_notIn_seq
def rSlU (K : PySem.W.Frag) : V → Option Int → Option Int → Hp → VK → Prop := fun x lo hi H Q => rSlS x lo hi H Q ∨ rSlLN K x lo hi H Q ∨ rSlTN K x lo hi H Q
theorem sl_U {X : Cx} : SlR X (rSlU X.K) := SlR.or sl_str (SlR.or sl_listN sl_tupN)
def rLenU (K : PySem.W.Frag) : List V → Hp → VK → Prop := fun xs H Q => (∃ z, xs = [.str z] ∧ z.length ≤ sizeLine ∧ Q (.int z.length) H) ∨ (∃ p ys, xs = [.ref p] ∧ (SqL K H p ys ∨ SqT K H p ys) ∧ Q (.int ys.length) H)
theorem cr_lenU {X : Cx} : CallR X (.builtin "len") (rLenU X.K) := CallR.or call_len_str call_len_seq

/-! ### a name of the module that holds a constant -/
theorem pe_gl {X : Cx} {x : Str} {v : V} {pos : Pos} (hm : ∃ u, X.mg x = some u ∧ RelV v u) (hg : Gl X x) (hd : (x == ("__debug__" : Str)) = false := by decide) : PE X (.Name x pos) (tC v) := by
  obtain ⟨u, hu, r⟩ := hm
  exact pe_glob hg hu r hd

/-! ### a def of the module that may be called -/
/-- no defaults, positional parameters; the promise sp, at level k -/
structure Cl (P : Program) (w : World) (K : PySem.W.Frag) (mg : Str → Option Value) (base : Heap) (k : Nat) (x : Str) (st : Stmt) (ps : List Str) (sp : Sp) : Prop where
  ex : ∃ (f : Addr) (fd : FuncData), FnOk P w K mg base CX0 k f fd ps sp ∧ mg x = some (.ref f) ∧ L2.Fun K x x st f fd
/-- a def as it stands behind the top -/
structure Df (K : PySem.W.Frag) (mg : Str → Option Value) (x : Str) (st : Stmt) : Prop where
  ex : ∃ (f : Addr) (fd : FuncData), mg x = some (.ref f) ∧ L2.Fun K x x st f fd
/-- how a def's positional arguments bind -/
def BindsSt (x : Str) (st : Stmt) (ps : List Str) : Prop := ∀ (kV doc pm : Value) (an : Option Addr) (cdv ct : Value) (us : List Value), us.length = ps.length →
  bindArgs (PySem.W.fnOf x x (defArgs st) (defBody st) (defScope st) .none kV doc pm an cdv ct) ⟨us, []⟩ = pure (ps.zip us)
/-- .. and how those of a call with n positional arguments and keywords ks do -/
def KBindsSt (x : Str) (st : Stmt) (ps : List Str) (n : Nat) (ks : List Str) (g : List Value → List Value → List Value) : Prop := ∀ (kV doc pm : Value) (an : Option Addr) (cdv ct : Value) (us ws : List Value), us.length = n → ws.length = ks.length →
  bindArgs (PySem.W.fnOf x x (defArgs st) (defBody st) (defScope st) .none kV doc pm an cdv ct) ⟨us, ks.zip ws⟩ = pure (ps.zip (g us ws))
section
variable {P : Program} {w : World} {K : PySem.W.Frag} {mg : Str → Option Value} {base : Heap}
theorem Cl.mk' {x : Str} {st : Stmt} {N ps : List Str} {k : Nat} {sp : Sp} (F : Df K mg x st) (S : FnScope N ps (defScope st)) (len : ∀ vs H Q E, sp vs H Q E → vs.length = ps.length)
    (hbody : ∀ (f : Addr) (cdv : Value) (A : Around) (outer : List Env) (s : Shared) (H : Hp) (vs : List V) (Q : VK) (E : XK), Room k (A.deeper (envOfC x (defScope st) s.heap.objs.size f cdv)) → sp vs H Q E →
      ∃ t, PSs (cxOf CX0 P w K mg base N x (defScope st) f cdv A outer s H E).nox (defBody st) t ∧ t { nx := fun _ H' => Q .non H', rt := Q } (start N vs) H) : Cl P w K mg base (k + 1) x st ps sp := by
  obtain ⟨f, fd, hm, F⟩ := F.ex
  exact ⟨f, fd, F.ok S len fun cdv A outer s H vs Q E hr h => hbody f cdv A outer s H vs Q E hr h, hm, F⟩
end
section
variable {X : Cx} {k j : Nat} {x : Str} {st : Stmt} {ps : List Str} {sp : Sp} {p pos : Pos} {e : Expr} {es : List Expr} {t tk : TA}
/-- f(a, ..) -/
theorem pe_f (c : Cl X.prog X.w X.K X.mg X.base k x st ps sp) (b : BindsSt x st ps) (hr : Room j X.A) (hk : k ≤ j) (hg : Gl X x) (ha : PA X (e :: es) t)
    (hdb : (x == ("__debug__" : Str)) = false := by decide) (he : starEach (e :: es) X.env = (false, eval e X.env) :: starEach es X.env := by rfl) (hpl : (backTo pos (starEach es X.env)).any (·.1) = false := by rfl) :
    PE X (.Call (.Name x p) (e :: es) [] pos) (tCall sp [] E0 t) := by
  obtain ⟨f, fd, F, hm, L⟩ := c.ex
  exact pe_call F (hr.mono hk) hg hm L.kp (L.binds b) .nil pass0 ha hdb he hpl
/-- f(k = v, ..) -/
theorem pe_f0 {kws : List Keyword} {ks : List Str} {g : List Value → List Value → List Value} {gV : List V → List V → List V} (c : Cl X.prog X.w X.K X.mg X.base k x st ps sp) (b : KBindsSt x st ps 0 ks g)
    (rel : ∀ {vs : List V} {us : List Value} {zs : List V} {ws : List Value}, Vals vs us → Vals zs ws → Vals (gV vs zs) (g us ws)) (hr : Room j X.A) (hk : k ≤ j) (hg : Gl X x) (hkw : PK X kws tk)
    (hall : (backToKw pos (keywordEach kws X.env)).all (·.1.isSome) = true := by rfl) (hks : (backToKw pos (keywordEach kws X.env)).filterMap (·.1) = ks := by rfl) (hdb : (x == ("__debug__" : Str)) = false := by decide)
    (hpl : ((backTo pos (starEach [] X.env)).any (·.1) || (backToKw pos (keywordEach kws X.env)).any (·.1.isNone)) = false := by rfl) :
    PE X (.Call (.Name x p) [] kws pos) (tCallN 0 ks.length sp gV E0 tNil tk) := by
  obtain ⟨f, fd, F, hm, L⟩ := c.ex
  have hb : KBn X.K fd ps 0 ks g gV := by
    obtain ⟨oc, od, kV, doc, pm, an, cdv, ct, osl, rfl, lk, hcd⟩ := L.ex
    exact ⟨fun s us ws _ l1 l2 => .of_eq (b kV doc pm an cdv ct us ws l1 l2), rel⟩
  refine ⟨fun pins s σ H Q I h => ?_⟩
  refine wpAny_Call_Name_kw (ld_glob I hg hm ?_ hdb)
  refine PySem.W.callWith_KW0 (h₀ := X.base) I.ok.mod.kin L.kp hall ?_ hpl
  refine thn (hkw.run pos pins s σ H _ I h) fun ws s2 ⟨zs, H2, I2, rz, l1, l2, q2⟩ => ⟨I2.kIn, ?_⟩
  rw [hks]
  exact run_fnN (us := []) (vs := []) F (hr.mono hk) hb pass0 I2 .nil rz rfl l2 q2
/-- f(a, .., k = v, ..) -/
theorem pe_fk {n : Nat} {kws : List Keyword} {ks : List Str} {g : List Value → List Value → List Value} {gV : List V → List V → List V} (c : Cl X.prog X.w X.K X.mg X.base k x st ps sp) (b : KBindsSt x st ps n ks g)
    (rel : ∀ {vs : List V} {us : List Value} {zs : List V} {ws : List Value}, Vals vs us → Vals zs ws → Vals (gV vs zs) (g us ws)) (hr : Room j X.A) (hk : k ≤ j) (hg : Gl X x) (ha : PA X (e :: es) t) (hkw : PK X kws tk)
    (hall : (backToKw pos (keywordEach kws X.env)).all (·.1.isSome) = true := by rfl) (hks : (backToKw pos (keywordEach kws X.env)).filterMap (·.1) = ks := by rfl) (hdb : (x == ("__debug__" : Str)) = false := by decide)
    (he : starEach (e :: es) X.env = (false, eval e X.env) :: starEach es X.env := by rfl) (hpl : ((backTo pos (starEach (e :: es) X.env)).any (·.1) || (backToKw pos (keywordEach kws X.env)).any (·.1.isNone)) = false := by rfl) :
    PE X (.Call (.Name x p) (e :: es) kws pos) (tCallN n ks.length sp gV E0 t tk) := by
  obtain ⟨f, fd, F, hm, L⟩ := c.ex
  have hb : KBn X.K fd ps n ks g gV := by
    obtain ⟨oc, od, kV, doc, pm, an, cdv, ct, osl, rfl, lk, hcd⟩ := L.ex
    exact ⟨fun s us ws _ l1 l2 => .of_eq (b kV doc pm an cdv ct us ws l1 l2), rel⟩
  exact pe_callN F (hr.mono hk) hg hm L.kp hb pass0 ha hkw hall hks hdb he hpl
end
theorem df_mk {K : PySem.W.Frag} {mg : Str → Option Value} {h : Heap} (X : K.In h) (G : h.Ns mainGlobals mg) {x : Str} {st : Stmt} {f : Addr} {oc : Value} {od an : Option Addr} {osl : Array (Option Value)} {kV doc pm cdv ct : Value}
    (a : PySem.W.nsIn K mainGlobals x = some (some (.ref f))) (l : K.lookup f = some ⟨oc, od, .func (PySem.W.fnOf x x (defArgs st) (defBody st) (defScope st) .none kV doc pm an cdv ct), osl⟩)
    (c : PySem.W.codeIn K cdv x = true) (k : PySem.W.keepIn K (.ref f) = true) : Df K mg x st := ⟨f, _, PySem.W.mg_of X G a, fun_mk (st := st) l c k⟩

end BB

/-! BB, readings: texts as lists of codes, walks, comprehensions, keyword orders. -/
namespace BB
open PySem PySem.Spec PyProof.Rows L2

/-! ### the arguments in another order -/
def pick {α : Type} (ix : List Nat) (us ws : List α) : List α := ix.filterMap fun i => (us ++ ws)[i]?
theorem pick_rel (ix : List Nat) {vs : List V} {us : List Value} {zs : List V} {ws : List Value} (r : Vals vs us) (q : Vals zs ws) : Vals (pick ix vs zs) (pick ix us ws) := by
  have r2 := Vals.append r q
  unfold pick
  induction ix with
  | nil => exact .nil
  | cons i ix ih =>
    rw [List.filterMap_cons, List.filterMap_cons]
    cases e : (vs ++ zs)[i]? with
    | none =>
      rw [Vals.none_of r2 e]
      exact ih
    | some x =>
      obtain ⟨u, e2, r3⟩ := Vals.get r2 e
      rw [e2]
      exact .cons r3 ih

/-! ### texts -/
abbrev S (l : List Nat) : Str := ⟨l.toArray⟩
abbrev W (l : List Nat) : V := .str (S l)
theorem S_len (l : List Nat) : (S l).length = l.length := by simp [Str.length]
theorem S_cps (l : List Nat) : (S l).cps.toList = l := rfl
theorem S_app (a b : List Nat) : S a ++ S b = S (a ++ b) := congrArg Str.mk (show a.toArray ++ b.toArray = (a ++ b).toArray by simp)
theorem S_inj {a b : List Nat} (h : S a = S b) : a = b := by
  have e := congrArg (fun z : Str => z.cps.toList) h
  exact e
theorem W_inj {a b : List Nat} (h : W a = W b) : a = b := S_inj (V.str.inj h)
theorem W_dec (a b : List Nat) : decide (W a = W b) = (a == b) := by
  by_cases e : a = b
  · subst e
    simp
  · rw [decide_eq_false fun h => e (W_inj h)]
    exact (beq_eq_false_iff_ne.mpr e).symm
theorem S_mul (l : List Nat) (n : Nat) : txtMul (S l) n = S (List.replicate n l).flatten := rfl
theorem S_to (l : List Nat) (k : Nat) : cutS (S l) none (some (k : Int)) = S (l.take k) := by
  unfold cutS
  rw [HT.sIx_none, HT.sIx_nat, S_cps, S_len, List.drop_zero, Nat.sub_zero]
  congr 2
  rw [← List.take_take, List.take_length]
theorem S_from (l : List Nat) (k : Nat) : cutS (S l) (some (k : Int)) none = S (l.drop k) := by
  unfold cutS
  rw [HT.sIx_none, HT.sIx_nat, S_cps, S_len]
  congr 2
  rw [List.take_of_length_le (by rw [List.length_drop]; omega)]
  by_cases h : k ≤ l.length
  · rw [Nat.min_eq_left h]
  · rw [Nat.min_eq_right (by omega), List.drop_of_length_le (Nat.le_refl _), List.drop_of_length_le (by omega)]
theorem S_at {l : List Nat} {k : Nat} (h : k < l.length) : atI (S l).cps.toList (k : Int) = some (l.getD k 0) := by
  rw [S_cps, atI_nat (v := l.getD k 0)]
  rw [List.getElem?_eq_getElem h, List.getD_eq_getElem?_getD, List.getElem?_eq_getElem h]
  rfl
theorem S_small {l : List Nat} {n : Nat} (h : l.length ≤ 1000000) : (S l).length ≤ sizeLine := by
  rw [S_len]
  exact small1m h
theorem cutV_from (xs : List V) (k : Nat) : cutV xs (some (k : Int)) none = xs.drop k := by
  unfold cutV
  rw [HT.sIx_none, HT.sIx_nat]
  rw [List.take_of_length_le (by rw [List.length_drop]; omega)]
  by_cases h : k ≤ xs.length
  · rw [Nat.min_eq_left h]
  · rw [Nat.min_eq_right (by omega), List.drop_of_length_le (Nat.le_refl _), List.drop_of_length_le (by omega)]
theorem mod_nat (a b : Nat) : ((a : Int) % (b : Int)) = ((a % b : Nat) : Int) := (Int.natCast_emod a b).symm
theorem div_nat (a b : Nat) : ((a : Int) / (b : Int)) = ((a / b : Nat) : Int) := (Int.natCast_ediv a b).symm

/-! ### a comprehension that changes nothing -/
/-- turn i gives f i, none if it is left out -/
theorem lcP {J : It} {n : Nat} {G : Hp → Prop} {Y : Nat → Hp → V → Hp → Prop} (w : Walk J n G Y) (f : Nat → Option V) {g : TG} {tt : TT} {te : TE} {vs : List Nat} {σ : L2.St} {H1 : Hp} {D : Addr} {Qd : Hp → Prop} (nD : H1 D = none)
    (hn : n ≤ 1000000) (hG : ∀ H, Same H1 H → G H)
    (hs : ∀ i x H H', i < n → Same H1 H → Y i H x H' → ∀ (Ky : V → Hp → Prop) (Kn : Hp → Prop), (∀ y H4, Same H H4 → f i = some y → Ky y H4) → (∀ H3, Same H H3 → f i = none → Kn H3) →
      g x (wipe σ vs) H' fun σ2 H2 => wipe σ2 vs = wipe σ vs ∧ tt σ2 H2 fun b H3 => if b = true then te σ2 H3 Ky else Kn H3)
    (hd : ∀ H, Same H1 H → H D = some (.lst ((List.range n).filterMap f)) → Qd H) :
    ∃ W : Nat → Nat → Hp → Prop, (∃ m, W 0 m (upd H1 D (.lst []))) ∧ ∀ i m H, W i m H →
      (J.stop i H ∧ Qd H) ∨ (J.go i H ∧ ∃ Nx : Hp → Prop, (∀ H', Nx H' → ∃ m', m' < m ∧ W (i + 1) m' H') ∧ ∀ x H', J.yld i H x H' → g x (wipe σ vs) H' fun σ2 H2 => wipe σ2 vs = wipe σ vs ∧ tt σ2 H2 fun b H3 =>
        if b = true then te σ2 H3 fun y H4 => ∃ acc, H4 D = some (.lst acc) ∧ acc.length < sizeLine ∧ Nx (upd H4 D (.lst (acc ++ [y]))) else Nx H3) := by
  refine lc_it w (fun i H => Same H1 H ∧ H D = some (.lst ((List.range i).filterMap f))) ⟨same_new nD, upd_same⟩ (fun i H _ p => hG H p.1) (fun i x H H' hi p y => ?_) (fun H p => hd H p.1 p.2)
  refine hs i x H H' hi p.1 y _ _ (fun y H4 s e => ⟨_, s _ _ p.2, ?_, Same.put (p.1.trans s) nD, ?_⟩) (fun H3 s e => ⟨p.1.trans s, ?_⟩)
  · have h1 : ((List.range i).filterMap f).length ≤ i := by
      have := List.length_filterMap_le f (List.range i)
      rw [List.length_range] at this
      exact this
    exact Nat.lt_of_lt_of_le (show ((List.range i).filterMap f).length < 1000000 by omega) (by decide)
  · rw [upd_same, List.range_succ, List.filterMap_append]
    simp [e]
  · rw [s _ _ p.2, List.range_succ, List.filterMap_append]
    simp [e]
theorem fm_map {α : Type} (f : Nat → α) (n : Nat) : (List.range n).filterMap (fun i => some (f i)) = (List.range n).map f := by
  rw [List.filterMap_eq_map']
theorem range_map_list {α β : Type} (xs : List α) (d : α) (g : α → β) : (List.range xs.length).map (fun i => g (xs.getD i d)) = xs.map g := by
  apply List.ext_getElem (by simp)
  intro i h1 h2
  simp at h1
  simp [h1]
theorem getElem?_some_lt {α : Type} {l : List α} {i : Nat} {x : α} (h : l[i]? = some x) : i < l.length := (List.getElem?_eq_some_iff.mp h).1
/-- a for without a break whose state is told by the turn -/
theorem ite_b {c : Bool} {A B : Prop} (h1 : c = true → A) (h2 : c = false → B) : if c = true then A else B := by
  cases c with
  | true => exact h1 rfl
  | false => exact h2 rfl
theorem dec_int (a b : Int) : decide (V.int a = V.int b) = decide (a = b) := by
  by_cases e : a = b
  · subst e
    simp
  · rw [decide_eq_false e, decide_eq_false fun h => e (V.int.inj h)]

/-! ### draws: a list of two numbers that a def changes -/
def IsBox (H : Hp) (b : Addr) : Prop := ∃ g s : Int, H b = some (.lst [.int g, .int s]) ∧ 0 ≤ g ∧ 0 ≤ s ∧ s < 2 ^ 62
theorem IsBox.same {H H' : Hp} {b : Addr} (x : Same H H') (h : IsBox H b) : IsBox H' b := by
  obtain ⟨g, s, e, q⟩ := h
  exact ⟨g, s, x _ _ e, q⟩
/-- all but the box stands, the box is one -/
def Dr (b : Addr) (H H' : Hp) : Prop := SameB b H H' ∧ IsBox H' b
theorem Dr.trans {b : Addr} {H H1 H2 : Hp} (x : Dr b H H1) (y : Dr b H1 H2) : Dr b H H2 := ⟨x.1.trans y.1, y.2⟩
theorem Dr.of {b : Addr} {H H' : Hp} (h : IsBox H b) (x : Same H H') : Dr b H H' := ⟨SameB.of x, h.same x⟩
theorem Dr.then {b : Addr} {H H1 H2 : Hp} (x : Dr b H H1) (y : Same H1 H2) : Dr b H H2 := ⟨x.1.trans (SameB.of y), x.2.same y⟩
theorem Dr.seq {K : PySem.W.Frag} {b : Addr} {H H' : Hp} {a : Addr} {xs : List V} (x : Dr b H H') (hn : a ≠ b) (h : SqL K H a xs) : SqL K H' a xs := seqB x.1 hn h
end BB
namespace BB
open PySem PySem.Spec PyProof.Rows L2
theorem join_codes (ls : List (List Nat)) : PySem.Txt.join (S []) (ls.map S) = S ls.flatten := by
  have e : TL.tl (PySem.Txt.join (S []) (ls.map S)) = ls.flatten := by
    rw [TL.join_eq, TL.tl_join]
    have e2 : (ls.map S).map TL.tl = ls := by
      rw [List.map_map]
      exact List.map_id'' (fun _ => rfl) ls
    rw [e2]
    show TL.joinL [] ls = ls.flatten
    induction ls with
    | nil => rfl
    | cons a r ih =>
      cases r with
      | nil => simp [TL.joinL]
      | cons b r =>
        show a ++ ([] ++ TL.joinL [] (b :: r)) = _
        rw [ih (by rw [List.map_map]; exact List.map_id'' (fun _ => rfl) _)]
        simp
  have e3 : (PySem.Txt.join (S []) (ls.map S)).cps.toList = (S ls.flatten).cps.toList := e
  generalize PySem.Txt.join (S []) (ls.map S) = z at e3
  obtain ⟨⟨l⟩⟩ := z
  exact congrArg (fun l => Str.mk (Array.mk l)) e3
end BB

namespace BB
open PySem PySem.Spec PyProof.Rows L2
theorem divW {i j : Int} (h : 0 < j) (h2 : j < 2 ^ 62) : CDivW i j := wide_div (b := 62) h (by omega) (by decide) (by decide)
theorem fm_self {α : Type} : ∀ l : List α, (List.range l.length).filterMap (fun (i : Nat) => l[i]?) = l
  | [] => rfl
  | a :: r => by
    rw [List.length_cons, List.range_succ_eq_map, List.filterMap_cons, List.filterMap_map]
    show a :: (List.range r.length).filterMap (fun (i : Nat) => r[i]?) = a :: r
    rw [fm_self r]
theorem fm_filter {α : Type} (c : Nat → Bool) (g : Nat → α) : ∀ l : List Nat, (l.filterMap fun i => if c i = true then none else some (g i)) = (l.filter fun i => !c i).map g
  | [] => rfl
  | a :: r => by
    rw [List.filterMap_cons, List.filter_cons, fm_filter c g r]
    cases h : c a <;> simp
theorem dr_same0 {H0 H H' : Hp} {b : Addr} (s : Same H0 H) (h : H0 b = none) (d : Dr b H H') : Same H0 H' := fun a o e => d.1 a o (ne_of_none e h) (s a o e)
end BB

namespace BB
open PySem PySem.Spec PyProof.Rows L2
/-- no test: the element -/
theorem yes {te : TE} {σ : L2.St} {H : Hp} {Ky : V → Hp → Prop} {Kn : Hp → Prop} (h : te σ H Ky) : tYes σ H (fun b H3 => if b = true then te σ H3 Ky else Kn H3) := h
end BB

namespace BB
open PySem PySem.Spec PyProof.Rows L2
theorem IsBox.ne {H : Hp} {b p : Addr} (h : IsBox H b) (np : H p = none) : p ≠ b := by
  obtain ⟨g, s, e, _⟩ := h
  exact (ne_of_none e np).symm
end BB

namespace BB
open PySem PySem.Spec PyProof.Rows L2
/-- the law's own promise, as the end wants it -/
theorem law_end {P : Program} {w : World} {K : PySem.W.Frag} {mg : Str → Option Value} {k : Nat} {x y : Str} {st : Stmt} {sp : Sp} {fa : Addr} (D : Df K mg y st) (b : BindsSt y st [x]) (hfa : mg y = some (.ref fa))
    (h : ∀ base : Heap, K.In base → base.Ns mainGlobals mg → Cl P w K mg base k y st [x] sp) :
    ∃ fd : FuncData, (∀ (s : Shared) (u : Value), BindsTo s fd ⟨[u], []⟩ [(x, u)]) ∧ ∀ base : Heap, K.In base → base.Ns mainGlobals mg → FnOk P w K mg base CX0 k fa fd [x] sp := by
  obtain ⟨f, fd, hm, F⟩ := D.ex
  have e := hfa.symm.trans hm
  cases e
  refine ⟨fd, fun s u => ?_, fun base h1 h2 => ?_⟩
  · obtain ⟨oc, od, kV, doc, pm, an, cdv, ct, osl, rfl, lk, hcd⟩ := F.ex
    exact .of_eq (b kV doc pm an cdv ct [u] rfl)
  · obtain ⟨f2, fd2, O, hm2, F2⟩ := (h base h1 h2).ex
    have e2 := hfa.symm.trans hm2
    cases e2
    obtain ⟨_, _, _, _, _, _, _, _, _, _, l1, _⟩ := F.ex
    obtain ⟨_, _, _, _, _, _, _, _, _, _, l2, _⟩ := F2.ex
    have e3 := l1.symm.trans l2
    simp only [Option.some.injEq, Obj.mk.injEq, Data.func.injEq] at e3
    obtain ⟨_, _, e4, _⟩ := e3
    rw [e4]
    exact O
end BB

/-! Words said again and again: least periods, places at which two patterns part, runs. Plain Lean. -/
namespace M19
/-- the endless row -/
def om (l : List Nat) (i : Nat) : Nat := l.getD (i % l.length) 0
/-- p is a period -/
def Pd (l : List Nat) (p : Nat) : Prop := ∀ i, om l (i + p) = om l i
theorem pd_mul {l : List Nat} {p : Nat} (h : Pd l p) : ∀ (k i : Nat), om l (i + p * k) = om l i
  | 0, i => by rw [Nat.mul_zero, Nat.add_zero]
  | k + 1, i => by rw [Nat.mul_succ, ← Nat.add_assoc, h, pd_mul h k]
theorem pd_len (l : List Nat) : Pd l l.length := fun i => by unfold om; rw [Nat.add_mod_right]
theorem om_lt {l : List Nat} {i : Nat} (h : i < l.length) : om l i = l.getD i 0 := by unfold om; rw [Nat.mod_eq_of_lt h]
theorem om_mod {l : List Nat} {p : Nat} (h : Pd l p) (i : Nat) : om l (i % p) = om l i := by
  have e := pd_mul h (i / p) (i % p)
  rw [Nat.mod_add_div] at e
  exact e.symm
theorem pd_mod {l : List Nat} {p q : Nat} (h : Pd l p) (g : Pd l q) : Pd l (q % p) := fun i => by
  have e1 := pd_mul h (q / p) (i + q % p)
  rw [Nat.add_assoc, Nat.mod_add_div] at e1
  rw [← e1]
  exact g i
/-- p is the least period -/
structure IsPer (l : List Nat) (p : Nat) : Prop where
  pos : 1 ≤ p
  pd : Pd l p
  least : ∀ q, 1 ≤ q → q < p → ¬ Pd l q
theorem IsPer.dvd {l : List Nat} {p q : Nat} (h : IsPer l p) (g : Pd l q) : p ∣ q := by
  by_cases e : q % p = 0
  · exact Nat.dvd_of_mod_eq_zero e
  · exact absurd (pd_mod h.pd g) (h.least _ (by omega) (Nat.mod_lt _ h.pos))
theorem IsPer.uniq {l m : List Nat} {p q : Nat} (h : IsPer l p) (g : IsPer m q) (e : ∀ i, om l i = om m i) : p = q := by
  have t : ∀ r, Pd l r ↔ Pd m r := fun r => ⟨fun a i => by rw [← e, ← e]; exact a i, fun a i => by rw [e, e]; exact a i⟩
  rcases Nat.lt_trichotomy p q with x | x | x
  · exact absurd ((t p).mp h.pd) (g.least p h.pos x)
  · exact x
  · exact absurd ((t q).mpr g.pd) (h.least q g.pos x)
theorem IsPer.le {l : List Nat} {p : Nat} (h : IsPer l p) (h0 : 0 < l.length) : p ≤ l.length := Nat.le_of_dvd h0 (h.dvd (pd_len l))
/-- a rotation that changes nothing -/
def rotB (l : List Nat) (p : Nat) : Bool := l.drop p ++ l.take p == l
theorem getD_app {a b : List Nat} {i : Nat} : (a ++ b).getD i 0 = if i < a.length then a.getD i 0 else b.getD (i - a.length) 0 := by
  simp only [List.getD_eq_getElem?_getD]
  by_cases h : i < a.length
  · rw [if_pos h, List.getElem?_append_left h]
  · rw [if_neg h, List.getElem?_append_right (by omega)]
theorem getD_take {a : List Nat} {n i : Nat} (h : i < n) : (a.take n).getD i 0 = a.getD i 0 := by
  simp only [List.getD_eq_getElem?_getD, List.getElem?_take, if_pos h]
theorem getD_drop {a : List Nat} {n i : Nat} : (a.drop n).getD i 0 = a.getD (n + i) 0 := by
  simp only [List.getD_eq_getElem?_getD, List.getElem?_drop]
theorem ext_getD {a b : List Nat} (hl : a.length = b.length) (h : ∀ i, i < a.length → a.getD i 0 = b.getD i 0) : a = b := by
  apply List.ext_getElem hl
  intro i h1 h2
  have := h i h1
  rw [List.getD_eq_getElem?_getD, List.getD_eq_getElem?_getD, List.getElem?_eq_getElem h1, List.getElem?_eq_getElem h2] at this
  exact this
theorem rot_iff {l : List Nat} {p : Nat} (h0 : 0 < l.length) (hp : p ≤ l.length) : rotB l p = true ↔ Pd l p := by
  have hlen : (l.drop p ++ l.take p).length = l.length := by
    rw [List.length_append, List.length_drop, List.length_take]
    omega
  have val : ∀ i, i < l.length → (l.drop p ++ l.take p).getD i 0 = om l (i + p) := fun i hi => by
    rw [getD_app, List.length_drop]
    unfold om
    by_cases h : i < l.length - p
    · rw [if_pos h, getD_drop, Nat.mod_eq_of_lt (by omega), Nat.add_comm]
    · rw [if_neg h, getD_take (by omega)]
      have : (i + p) % l.length = i - (l.length - p) := by
        rw [Nat.mod_eq_sub_mod (by omega), Nat.mod_eq_of_lt (by omega)]
        omega
      rw [this]
  unfold rotB
  rw [beq_iff_eq]
  constructor
  · intro e i
    have h1 : om l (i % l.length + p) = om l (i % l.length) := by
      rw [← val _ (Nat.mod_lt _ h0), e, om_lt (Nat.mod_lt _ h0)]
    have h2 : om l (i + p) = om l (i % l.length + p) := by unfold om; rw [Nat.mod_add_mod]
    have h3 : om l i = om l (i % l.length) := by unfold om; rw [Nat.mod_mod]
    rw [h2, h1, h3]
  · intro e
    apply ext_getD hlen
    intro i hi
    rw [hlen] at hi
    rw [val i hi, e, om_lt hi]
/-- the least period -/
def perF (l : List Nat) : Nat → Nat → Nat
  | 0, p => p
  | n + 1, p => if rotB l p then p else perF l n (p + 1)
def per (l : List Nat) : Nat := perF l l.length 1
theorem perF_is {l : List Nat} (h0 : 0 < l.length) : ∀ n p, 1 ≤ p → p + n = l.length + 1 → (∀ q, 1 ≤ q → q < p → ¬ Pd l q) → p ≤ l.length → IsPer l (perF l n p)
  | 0, p, h1, h2, h3, h4 => by omega
  | n + 1, p, h1, h2, h3, h4 => by
    unfold perF
    by_cases e : rotB l p = true
    · rw [if_pos e]
      exact ⟨h1, (rot_iff h0 h4).mp e, h3⟩
    · rw [if_neg e]
      have hn : p ≠ l.length := fun z => e ((rot_iff h0 h4).mpr (z ▸ pd_len l))
      refine perF_is h0 n (p + 1) (by omega) (by omega) (fun q a b => ?_) (by omega)
      by_cases z : q = p
      · subst z
        exact fun g => e ((rot_iff h0 h4).mpr g)
      · exact h3 q a (by omega)
theorem per_is {l : List Nat} (h0 : 0 < l.length) : IsPer l (per l) := perF_is h0 _ _ (Nat.le_refl _) (by omega) (fun q a b => by omega) h0
theorem per_le {l : List Nat} (h0 : 0 < l.length) : per l ≤ l.length := (per_is h0).le h0
theorem per_pos {l : List Nat} (h0 : 0 < l.length) : 1 ≤ per l := (per_is h0).pos
/-- the least text -/
def lt (l : List Nat) : List Nat := l.take (per l)
theorem lt_len {l : List Nat} (h0 : 0 < l.length) : (lt l).length = per l := by
  unfold lt
  rw [List.length_take]
  have := per_le h0
  omega
theorem lt_pos {l : List Nat} (h0 : 0 < l.length) : 0 < (lt l).length := by
  rw [lt_len h0]
  exact per_pos h0
theorem om_lt_text {l : List Nat} (h0 : 0 < l.length) (i : Nat) : om (lt l) i = om l i := by
  have hp := per_pos h0
  have hm : i % per l < per l := Nat.mod_lt _ hp
  rw [← om_mod (per_is h0).pd i]
  unfold om
  rw [lt_len h0, Nat.mod_eq_of_lt (Nat.lt_of_lt_of_le hm (per_le h0))]
  unfold lt
  exact getD_take hm
theorem per_lt {l : List Nat} (h0 : 0 < l.length) : per (lt l) = per l := (per_is (lt_pos h0)).uniq (per_is h0) (om_lt_text h0)
theorem lt_lt {l : List Nat} (h0 : 0 < l.length) : lt (lt l) = lt l := by
  have e := per_lt h0
  have e2 := lt_len h0
  show (lt l).take (per (lt l)) = lt l
  rw [e, ← e2]
  exact List.take_length
theorem om_twice {l : List Nat} (h0 : 0 < l.length) (i : Nat) : om (l ++ l) i = om l i := by
  unfold om
  rw [List.length_append, getD_app]
  have h1 : i % (l.length + l.length) < l.length + l.length := Nat.mod_lt _ (by omega)
  have h2 : i % (l.length + l.length) % l.length = i % l.length := Nat.mod_mod_of_dvd i (by
    rw [← Nat.two_mul]
    exact Nat.dvd_mul_left _ _)
  by_cases h : i % (l.length + l.length) < l.length
  · rw [if_pos h, ← h2, Nat.mod_eq_of_lt h]
  · rw [if_neg h, ← h2]
    generalize i % (l.length + l.length) = m at h h1
    rw [Nat.mod_eq_sub_mod (by omega), Nat.mod_eq_of_lt (by omega)]
theorem lt_twice {l : List Nat} (h0 : 0 < l.length) : lt (l ++ l) = lt l := by
  have h1 : 0 < (l ++ l).length := by rw [List.length_append]; omega
  have e : per (l ++ l) = per l := (per_is h1).uniq (per_is h0) (om_twice h0)
  unfold lt
  rw [e, List.take_append_of_le_length (per_le h0)]
/-- the law's own look: the first size that divides and makes the word -/
def hitB (l : List Nat) (s : Nat) : Bool := l.length % s == 0 && ((List.replicate l.length (l.take s)).flatten.take l.length == l)
theorem rep_getD (a : List Nat) : ∀ (n i : Nat), i < n * a.length → ((List.replicate n a).flatten).getD i 0 = a.getD (i % a.length) 0
  | 0, i, h => by omega
  | n + 1, i, h => by
    rw [List.replicate_succ, List.flatten_cons, getD_app]
    by_cases e : i < a.length
    · rw [if_pos e, Nat.mod_eq_of_lt e]
    · rw [if_neg e, rep_getD a n (i - a.length) (by rw [Nat.succ_mul] at h; omega), ← Nat.mod_eq_sub_mod (by omega)]
theorem rep_len (a : List Nat) (n : Nat) : (List.replicate n a).flatten.length = n * a.length := by
  induction n with
  | zero => simp
  | succ n ih => rw [List.replicate_succ, List.flatten_cons, List.length_append, ih, Nat.succ_mul]; omega
theorem hit_iff {l : List Nat} {s : Nat} (h0 : 0 < l.length) (h1 : 1 ≤ s) (hs : s ≤ l.length) : hitB l s = true ↔ (s ∣ l.length ∧ Pd l s) := by
  have tl : (l.take s).length = s := by rw [List.length_take]; omega
  have big : l.length ≤ l.length * s := Nat.le_mul_of_pos_right _ h1
  have hlen : ((List.replicate l.length (l.take s)).flatten.take l.length).length = l.length := by
    rw [List.length_take, rep_len, tl]
    omega
  have val : ∀ i, i < l.length → ((List.replicate l.length (l.take s)).flatten.take l.length).getD i 0 = l.getD (i % s) 0 := fun i hi => by
    rw [getD_take hi, rep_getD _ _ _ (by rw [tl]; omega), tl, getD_take (Nat.mod_lt _ h1)]
  unfold hitB
  rw [Bool.and_eq_true, beq_iff_eq, beq_iff_eq]
  constructor
  · rintro ⟨hd, he⟩
    have hd' : s ∣ l.length := Nat.dvd_of_mod_eq_zero hd
    refine ⟨hd', fun i => ?_⟩
    have k : ∀ j, om l j = l.getD (j % s) 0 := fun j => by
      have hj : j % l.length < l.length := Nat.mod_lt _ h0
      unfold om
      rw [← Nat.mod_mod_of_dvd j hd', ← val _ hj, he]
    rw [k, k, Nat.add_mod_right]
  · rintro ⟨hd, hp⟩
    refine ⟨Nat.mod_eq_zero_of_dvd hd, ?_⟩
    apply ext_getD hlen
    intro i hi
    rw [hlen] at hi
    rw [val i hi, ← om_lt (Nat.lt_of_lt_of_le (Nat.mod_lt _ h1) hs), om_mod hp, om_lt hi]
theorem hit_per {l : List Nat} (h0 : 0 < l.length) : hitB l (per l) = true := (hit_iff h0 (per_pos h0) (per_le h0)).mpr ⟨(per_is h0).dvd (pd_len l), (per_is h0).pd⟩
theorem hit_no {l : List Nat} (h0 : 0 < l.length) {s : Nat} (h1 : 1 ≤ s) (h : s < per l) : hitB l s = false := by
  cases e : hitB l s with
  | false => rfl
  | true => exact absurd ((hit_iff h0 h1 (by have := per_le h0; omega)).mp e).2 ((per_is h0).least s h1 h)
/-- the first hit is at the least period -/
theorem first_hit {l : List Nat} (h0 : 0 < l.length) {s : Nat} (h1 : 1 ≤ s) (hs : hitB l s = true) (hb : ∀ q, 1 ≤ q → q < s → hitB l q = false) : s = per l := by
  rcases Nat.lt_trichotomy s (per l) with x | x | x
  · rw [hit_no h0 h1 x] at hs
    cases hs
  · exact x
  · have := hb (per l) (per_pos h0) x
    rw [hit_per h0] at this
    cases this

/-! ### two patterns -/
def agB (a b : List Nat) (k : Nat) : Bool := om a k == om b k
section
variable {a b : List Nat} {P : Nat}
theorem ag_per (ha : Pd a P) (hb : Pd b P) (k : Nat) : agB a b (k + P) = agB a b k := by unfold agB; rw [ha, hb]
theorem ag_mod (ha : Pd a P) (hb : Pd b P) (k : Nat) : agB a b (k % P) = agB a b k := by unfold agB; rw [om_mod ha, om_mod hb]
/-- two unlike patterns part somewhere in a common period -/
theorem parts (h0 : 0 < a.length) (h1 : 0 < b.length) (pa : per a = a.length) (pb : per b = b.length) (hne : a ≠ b) (ha : Pd a P) (hb : Pd b P) (hP : 0 < P) : ∃ k, k < P ∧ agB a b k = false := by
  apply Classical.byContradiction
  intro hn
  have all : ∀ k, om a k = om b k := fun k => by
    cases e : agB a b (k % P) with
    | false => exact absurd ⟨_, Nat.mod_lt _ hP, e⟩ hn
    | true =>
      have := eq_of_beq e
      rw [om_mod ha, om_mod hb] at this
      exact this
  have el : per a = per b := (per_is h0).uniq (per_is h1) all
  have el2 : a.length = b.length := by omega
  refine hne (ext_getD el2 fun i hi => ?_)
  rw [← om_lt hi, ← om_lt (by omega : i < b.length)]
  exact all i
/-- the places at which they part, ascending -/
def pl (a b : List Nat) (P : Nat) : List Nat := (List.range P).filter fun k => !agB a b k
theorem mem_pl {k : Nat} : k ∈ pl a b P ↔ k < P ∧ agB a b k = false := by
  unfold pl
  rw [List.mem_filter, List.mem_range]
  simp
/-- all below i0, all from it on -/
theorem pl_split {i : Nat} (h : i ≤ P) : ∃ A B, pl a b P = A ++ B ∧ (∀ x ∈ A, x < i) ∧ (∀ x ∈ B, i ≤ x) := by
  refine ⟨(List.range i).filter fun k => !agB a b k, (List.range' i (P - i)).filter fun k => !agB a b k, ?_, fun x hx => ?_, fun x hx => ?_⟩
  · unfold pl
    rw [← List.filter_append]
    congr 1
    rw [List.range_eq_range', List.range_eq_range']
    have e : P = i + (P - i) := by omega
    rw [show List.range' 0 P = List.range' 0 (i + (P - i)) by rw [← e], ← List.range'_append]
    simp
  · exact List.mem_range.mp (List.mem_filter.mp hx).1
  · exact (List.mem_range'_1.mp (List.mem_filter.mp hx).1).1
/-- the first place, a period on, behind them -/
def lat (a b : List Nat) (P : Nat) : List Nat := (pl a b P).drop 1 ++ [(pl a b P).getD 0 0 + P]
def gaps (a b : List Nat) (P : Nat) : List Int := (List.zip (pl a b P) (lat a b P)).map fun p => (p.2 : Int) - p.1 - 1
theorem lat_len (h : pl a b P ≠ []) : (lat a b P).length = (pl a b P).length := by
  have : 0 < (pl a b P).length := List.length_pos_iff.mpr h
  unfold lat
  rw [List.length_append, List.length_drop, List.length_singleton]
  omega
theorem lat_at {j : Nat} : (lat a b P)[j]? = (pl a b P ++ [(pl a b P).getD 0 0 + P])[j + 1]? ∨ pl a b P = [] := by
  by_cases h : pl a b P = []
  · exact .inr h
  · left
    unfold lat
    cases e : pl a b P with
    | nil => exact absurd e h
    | cons x r => simp
theorem gap_mem {j : Nat} {x y : Nat} (hx : (pl a b P)[j]? = some x) (hy : (lat a b P)[j]? = some y) : ((y : Int) - x - 1) ∈ gaps a b P := by
  unfold gaps
  refine List.mem_map.mpr ⟨(x, y), ?_, rfl⟩
  apply List.mem_of_getElem? (i := j)
  rw [List.getElem?_zip_eq_some]
  exact ⟨hx, hy⟩
theorem ag_ne {i r y : Nat} (hw : ∀ k, i ≤ k → k < i + r → agB a b k = true) (hy : agB a b y = false) (h : i ≤ y) : i + r ≤ y := by
  rcases Nat.lt_or_ge y (i + r) with z | z
  · rw [hw y h z] at hy
    cases hy
  · exact z
/-- no run is longer than all gaps -/
theorem run_le {R : Int} (ha : Pd a P) (hb : Pd b P) (hP : 0 < P) (hne : pl a b P ≠ []) (hR : ∀ g ∈ gaps a b P, g ≤ R) {i r : Nat} (hw : ∀ k, i ≤ k → k < i + r → agB a b k = true) : (r : Int) ≤ R := by
  -- moved into the first period
  have hw0 : ∀ k, i % P ≤ k → k < i % P + r → agB a b k = true := fun k h1 h2 => by
    have e := hw (k + P * (i / P)) (by have := Nat.mod_add_div i P; omega) (by have := Nat.mod_add_div i P; omega)
    rw [← ag_mod ha hb, Nat.add_mul_mod_self_left, ag_mod ha hb] at e
    exact e
  have hi : i % P < P := Nat.mod_lt _ hP
  obtain ⟨A, B, e, hA, hB⟩ := pl_split (a := a) (b := b) (Nat.le_of_lt hi)
  have hpos : 0 < (pl a b P).length := List.length_pos_iff.mpr hne
  have p0m : (pl a b P).getD 0 0 ∈ pl a b P := by
    rw [List.getD_eq_getElem?_getD, List.getElem?_eq_getElem hpos]
    exact List.getElem_mem hpos
  have p0 := mem_pl.mp p0m
  rcases List.eq_nil_or_concat A with hA0 | ⟨A', x, hA0⟩
  · -- none ahead: the joint's gap
    have hge : i % P ≤ (pl a b P).getD 0 0 := hB _ (by rw [e, hA0, List.nil_append] at p0m; rw [e, hA0, List.nil_append]; exact p0m)
    have h1 := ag_ne hw0 p0.2 hge
    have hl : (pl a b P)[(pl a b P).length - 1]? = some ((pl a b P)[(pl a b P).length - 1]) := List.getElem?_eq_getElem (by omega)
    have hz := (mem_pl.mp (List.getElem_mem (show (pl a b P).length - 1 < (pl a b P).length by omega))).1
    have hy : (lat a b P)[(pl a b P).length - 1]? = some ((pl a b P).getD 0 0 + P) := by
      rcases lat_at (a := a) (b := b) (P := P) (j := (pl a b P).length - 1) with q | q
      · rw [q, show (pl a b P).length - 1 + 1 = (pl a b P).length by omega, List.getElem?_append_right (Nat.le_refl _), Nat.sub_self]
        rfl
      · exact absurd q hne
    have := hR _ (gap_mem hl hy)
    have h9 : ((((pl a b P).getD 0 0 + P : Nat)) : Int) = (((pl a b P).getD 0 0 : Nat) : Int) + (P : Int) := Int.natCast_add _ _
    omega
  · -- x is the last one ahead
    have hx : x < i % P := hA x (by rw [hA0, List.concat_eq_append]; exact List.mem_append_right _ (List.mem_singleton.mpr rfl))
    have e2 : pl a b P = A' ++ (x :: B) := by rw [e, hA0, List.concat_eq_append, List.append_assoc] <;> rfl
    have hxj : (pl a b P)[A'.length]? = some x := by
      rw [e2, List.getElem?_append_right (Nat.le_refl _), Nat.sub_self]
      rfl
    have hyv : ∃ y, (lat a b P)[A'.length]? = some y ∧ i % P ≤ y ∧ agB a b y = false := by
      rcases lat_at (a := a) (b := b) (P := P) (j := A'.length) with q | q
      · have q2 : (lat a b P)[A'.length]? = (B ++ [(pl a b P).getD 0 0 + P])[0]? := by
          have e3 : pl a b P ++ [(pl a b P).getD 0 0 + P] = (A' ++ [x]) ++ (B ++ [(pl a b P).getD 0 0 + P]) := by
            rw [← List.append_assoc]
            congr 1
            rw [e2]
            simp
          rw [q, e3, List.getElem?_append_right (by rw [List.length_append, List.length_singleton]; omega), List.length_append, List.length_singleton, Nat.sub_self]
        cases hBB : B with
        | nil =>
          rw [hBB] at q2
          refine ⟨_, q2, by omega, ?_⟩
          rw [ag_per ha hb]
          exact p0.2
        | cons y B' =>
          rw [hBB] at q2
          refine ⟨y, q2, hB y (by rw [hBB]; exact List.mem_cons_self), ?_⟩
          exact (mem_pl.mp (by rw [e2, hBB]; exact List.mem_append_right _ (List.mem_cons_of_mem _ List.mem_cons_self))).2
      · exact absurd q hne
    obtain ⟨y, hy, hge, hym⟩ := hyv
    have h1 := ag_ne hw0 hym hge
    have := hR _ (gap_mem hxj hy)
    omega
theorem pl_mono {j i x : Nat} (h : i ≤ P) (hx : (pl a b P)[j]? = some x) : ∃ t, (x < i ↔ j < t) ∧ (∀ z, (pl a b P)[t]? = some z → i ≤ z) ∧ (∀ (j' z : Nat), (pl a b P)[j']? = some z → (z < i ↔ j' < t)) ∧ (agB a b i = false → i < P → (pl a b P)[t]? = some i) := by
  obtain ⟨A, B, e, hA, hB⟩ := pl_split (a := a) (b := b) h
  have key : ∀ (j' z : Nat), (pl a b P)[j']? = some z → (z < i ↔ j' < A.length) := fun j' z hz => by
    rw [e] at hz
    by_cases hj : j' < A.length
    · rw [List.getElem?_append_left hj] at hz
      exact ⟨fun _ => hj, fun _ => hA z (List.mem_of_getElem? hz)⟩
    · rw [List.getElem?_append_right (by omega)] at hz
      have := hB z (List.mem_of_getElem? hz)
      exact ⟨fun q => by omega, fun q => absurd q hj⟩
  refine ⟨A.length, key j x hx, fun z hz => ?_, key, fun hm hlt => ?_⟩
  · have := key _ z hz
    rcases Nat.lt_or_ge z i with q | q
    · have := this.mp q
      omega
    · exact q
  · have hmem : i ∈ pl a b P := mem_pl.mpr ⟨hlt, hm⟩
    obtain ⟨j', hj', e'⟩ := List.getElem_of_mem hmem
    have hz : (pl a b P)[j']? = some i := by rw [List.getElem?_eq_getElem hj', e']
    have h1 : ¬ j' < A.length := fun q => by
      have := (key _ _ hz).mpr q
      omega
    -- the first of B is i: B is sorted; use the split at i + 1
    obtain ⟨A2, B2, e2, hA2, hB2⟩ := pl_split (a := a) (b := b) (show i + 1 ≤ P by omega)
    have key2 : ∀ (j' z : Nat), (pl a b P)[j']? = some z → (z < i + 1 ↔ j' < A2.length) := fun j' z hz => by
      rw [e2] at hz
      by_cases hj : j' < A2.length
      · rw [List.getElem?_append_left hj] at hz
        exact ⟨fun _ => hj, fun _ => hA2 z (List.mem_of_getElem? hz)⟩
      · rw [List.getElem?_append_right (by omega)] at hz
        have := hB2 z (List.mem_of_getElem? hz)
        exact ⟨fun q => by omega, fun q => absurd q hj⟩
    have h2 : j' < A2.length := (key2 _ _ hz).mp (by omega)
    have h3 : A.length < (pl a b P).length := by omega
    have h4 : (pl a b P)[A.length]? = some ((pl a b P)[A.length]) := List.getElem?_eq_getElem h3
    have h5 : ¬ (pl a b P)[A.length] < i := fun q => by
      have := (key _ _ h4).mp q
      omega
    have h6 : (pl a b P)[A.length] < i + 1 := (key2 _ _ h4).mpr (by omega)
    rw [h4]
    congr 1
    omega
/-- the longest gap is a run -/
theorem run_ge {j x y : Nat} (ha : Pd a P) (hb : Pd b P) (hP : 0 < P) (hne : pl a b P ≠ []) (hx : (pl a b P)[j]? = some x) (hy : (lat a b P)[j]? = some y) : (∀ k, x + 1 ≤ k → k < y → agB a b k = true) ∧ x < y ∧ y ≤ 2 * P := by
  have hpos : 0 < (pl a b P).length := List.length_pos_iff.mpr hne
  have hxm := mem_pl.mp (List.mem_of_getElem? hx)
  have p0m : (pl a b P)[0]? = some ((pl a b P).getD 0 0) := by
    rw [List.getD_eq_getElem?_getD, List.getElem?_eq_getElem hpos]
    rfl
  have p0 := mem_pl.mp (List.mem_of_getElem? p0m)
  have hj : j < (pl a b P).length := (List.getElem?_eq_some_iff.mp hx).1
  -- y is the next place, or the first one a period on
  have hyc : (pl a b P)[j + 1]? = some y ∨ (j + 1 = (pl a b P).length ∧ y = (pl a b P).getD 0 0 + P) := by
    rcases lat_at (a := a) (b := b) (P := P) (j := j) with q | q
    · rw [q] at hy
      by_cases h : j + 1 < (pl a b P).length
      · rw [List.getElem?_append_left h] at hy
        exact .inl hy
      · have e : j + 1 = (pl a b P).length := by omega
        rw [e, List.getElem?_append_right (Nat.le_refl _), Nat.sub_self] at hy
        exact .inr ⟨e, (Option.some.inj hy).symm⟩
    · exact absurd q hne
  have low : ∀ k, x < k → k < P → (∀ z, (pl a b P)[j + 1]? = some z → k < z) → agB a b k = true := fun k h1 h2 h3 => by
    cases e : agB a b k with
    | true => rfl
    | false =>
      obtain ⟨t, _, _, hk, hi⟩ := pl_mono (a := a) (b := b) (Nat.le_of_lt h2) hx
      have ht := hi e h2
      have hjt : j < t := (hk _ _ hx).mp h1
      by_cases h : j + 1 = t
      · rw [← h] at ht
        have := h3 _ ht
        omega
      · have hjl : j + 1 < (pl a b P).length := by
          have := (List.getElem?_eq_some_iff.mp ht).1
          omega
        have h4 : (pl a b P)[j + 1]? = some ((pl a b P)[j + 1]) := List.getElem?_eq_getElem hjl
        have h5 := (hk _ _ h4).mpr (by omega)
        have h6 := h3 _ h4
        omega
  rcases hyc with hy1 | ⟨hl, hy1⟩
  · have hym := mem_pl.mp (List.mem_of_getElem? hy1)
    have hxy : x < y := by
      obtain ⟨t, hkx, _, hk, hi⟩ := pl_mono (a := a) (b := b) (Nat.le_of_lt hym.1) hx
      have ht := hi hym.2 hym.1
      have h1 : ¬ j + 1 < t := fun q => by
        have := (hk _ _ hy1).mpr q
        omega
      rcases Nat.lt_or_ge j t with q | q
      · exact hkx.mpr q
      · -- then t ≤ j: the value at t is y, at j + 1 is y
        exfalso
        obtain ⟨t2, _, _, hk2, hi2⟩ := pl_mono (a := a) (b := b) (show y + 1 ≤ P by omega) hx
        have h2 := (hk2 _ _ hy1).mp (by omega)
        have h3 : x < y + 1 := (hk2 _ _ hx).mpr (by omega)
        have h4 : ¬ x < y := fun z => by
          have := (hk _ _ hx).mp z
          omega
        have h5 : x = y := by omega
        -- both j and j + 1 hold y: the list has no twins
        have nd : (pl a b P).Nodup := List.Nodup.sublist List.filter_sublist List.nodup_range
        have e1 := (List.getElem?_eq_some_iff.mp hx).2
        have e2 := (List.getElem?_eq_some_iff.mp hy1).2
        have := (List.getElem_inj nd).mp (e1.trans (h5.trans e2.symm))
        omega
    refine ⟨fun k h1 h2 => low k (by omega) (by omega) fun z hz => ?_, hxy, by omega⟩
    rw [hy1] at hz
    cases hz
    exact h2
  · refine ⟨fun k h1 h2 => ?_, by omega, by omega⟩
    by_cases h : k < P
    · refine low k (by omega) h fun z hz => ?_
      have := (List.getElem?_eq_some_iff.mp hz).1
      omega
    · cases e : agB a b k with
      | true => rfl
      | false =>
        have e2 : agB a b (k - P) = false := by
          rw [← ag_per ha hb, Nat.sub_add_cancel (by omega)]
          exact e
        have hm : k - P ∈ pl a b P := mem_pl.mpr ⟨by omega, e2⟩
        obtain ⟨t, hkx, _, hk, hi⟩ := pl_mono (a := a) (b := b) (show (pl a b P).getD 0 0 ≤ P by omega) p0m
        have ht := hi p0.2 p0.1
        obtain ⟨j', hj', e'⟩ := List.getElem_of_mem hm
        have h4 := (hk j' _ (by rw [List.getElem?_eq_getElem hj', e'])).mp (by omega)
        have h5 : ¬ (0 : Nat) < t := fun q => by
          have := hkx.mpr q
          omega
        omega
/-- the law's own count: best and now -/
def runS (f : Nat → Bool) : Nat → Nat × Nat
  | 0 => (0, 0)
  | k + 1 => let now := if f k then (runS f k).2 + 1 else 0; (if now > (runS f k).1 then now else (runS f k).1, now)
theorem runS_inv (f : Nat → Bool) : ∀ k, (runS f k).2 ≤ (runS f k).1 ∧ (runS f k).2 ≤ k ∧ (∀ j, k - (runS f k).2 ≤ j → j < k → f j = true) ∧ ((runS f k).2 < k → f (k - 1 - (runS f k).2) = false) ∧
    (∀ i r, i + r ≤ k → (∀ j, i ≤ j → j < i + r → f j = true) → r ≤ (runS f k).1) ∧ (∃ i, i + (runS f k).1 ≤ k ∧ ∀ j, i ≤ j → j < i + (runS f k).1 → f j = true)
  | 0 => by
    refine ⟨Nat.le_refl _, Nat.le_refl _, fun j a b => by omega, fun a => by simp [runS] at a, fun i r a _ => by simp [runS]; omega, ⟨0, by simp [runS], fun j a b => by simp [runS] at b⟩⟩
  | k + 1 => by
    obtain ⟨h1, h2, h3, h4, h5, i0, h6, h7⟩ := runS_inv f k
    generalize hg : runS f k = s at h1 h2 h3 h4 h5 h6 h7
    obtain ⟨best, now⟩ := s
    simp only at h1 h2 h3 h4 h5 h6 h7
    have e : runS f (k + 1) = (if (if f k then now + 1 else 0) > best then (if f k then now + 1 else 0) else best, if f k then now + 1 else 0) := by
      show (let now := if f k then (runS f k).2 + 1 else 0; (if now > (runS f k).1 then now else (runS f k).1, now)) = _
      rw [hg]
    rw [e]
    cases hf : f k with
    | true =>
      simp only [if_true]
      have g3 : ∀ j, k + 1 - (now + 1) ≤ j → j < k + 1 → f j = true := fun j a b => by
        by_cases z : j = k
        · rw [z]
          exact hf
        · exact h3 j (by omega) (by omega)
      refine ⟨by split <;> omega, by omega, g3, fun a => ?_, fun i r a w => ?_, ?_⟩
      · have := h4 (by omega)
        rw [show k + 1 - 1 - (now + 1) = k - 1 - now by omega]
        exact this
      · by_cases z : i + r ≤ k
        · have := h5 i r z w
          split <;> omega
        · have : r ≤ now + 1 := by
            rcases Nat.lt_or_ge (now + 1) r with q | q
            · have h8 := h4 (by omega)
              rw [w (k - 1 - now) (by omega) (by omega)] at h8
              cases h8
            · exact q
          split <;> omega
      · split
        · exact ⟨k + 1 - (now + 1), by omega, fun j a b => g3 j (by omega) (by omega)⟩
        · exact ⟨i0, by omega, h7⟩
    | false =>
      simp only [Bool.false_eq_true, if_false]
      refine ⟨by split <;> omega, by omega, fun j a b => by omega, fun a => ?_, fun i r a w => ?_, ?_⟩
      · rw [show k + 1 - 1 - 0 = k by omega]
        exact hf
      · by_cases z : i + r ≤ k
        · have := h5 i r z w
          split <;> omega
        · rcases Nat.eq_zero_or_pos r with q | q
          · rw [q]
            exact Nat.zero_le _
          · rw [w k (by omega) (by omega)] at hf
            cases hf
      · split
        · omega
        · exact ⟨i0, by omega, h7⟩
/-- THE LAW's number is the greatest gap -/
theorem run_is {R : Int} {N : Nat} (ha : Pd a P) (hb : Pd b P) (hP : 0 < P) (hne : pl a b P ≠ []) (hm : R ∈ gaps a b P) (hR : ∀ g ∈ gaps a b P, g ≤ R) (hN : 2 * P ≤ N) : R = ((runS (agB a b) N).1 : Int) := by
  obtain ⟨_, _, _, _, h5, i0, h6, h7⟩ := runS_inv (agB a b) N
  have up := run_le ha hb hP hne hR h7
  unfold gaps at hm
  obtain ⟨⟨x, y⟩, hm, e⟩ := List.mem_map.mp hm
  obtain ⟨j, hj⟩ := List.mem_iff_getElem?.mp hm
  rw [List.getElem?_zip_eq_some] at hj
  have g := run_ge ha hb hP hne hj.1 hj.2
  simp only at g e
  have lo := h5 (x + 1) (y - (x + 1)) (by omega) fun k p q => g.1 k p (by omega)
  omega
end
/-- Euclid -/
theorem gcd_step {a b : Nat} (h : 0 < b) : Nat.gcd b (a % b) = Nat.gcd a b := by
  rw [Nat.gcd_comm a b, Nat.gcd_rec b a, Nat.gcd_comm]
theorem cm_dvd_r (a b : Nat) : b ∣ a / Nat.gcd a b * b := Nat.dvd_mul_left _ _
theorem cm_dvd_l {a b : Nat} : a ∣ a / Nat.gcd a b * b := by
  obtain ⟨c, hc⟩ := Nat.gcd_dvd_right a b
  obtain ⟨d, hd⟩ := Nat.gcd_dvd_left a b
  by_cases h : Nat.gcd a b = 0
  · have : a = 0 := (Nat.gcd_eq_zero_iff.mp h).1
    rw [this]
    simp
  · refine ⟨c, ?_⟩
    have e1 : a / Nat.gcd a b = d := by
      rw [show a / Nat.gcd a b = Nat.gcd a b * d / Nat.gcd a b by rw [← hd]]
      exact Nat.mul_div_cancel_left _ (by omega)
    rw [e1]
    calc d * b = d * (Nat.gcd a b * c) := by rw [← hc]
      _ = Nat.gcd a b * d * c := by rw [← Nat.mul_assoc, Nat.mul_comm d]
      _ = a * c := by rw [← hd]
theorem cm_pos {a b : Nat} (ha : 0 < a) (hb : 0 < b) : 0 < a / Nat.gcd a b * b := by
  have hg : 0 < Nat.gcd a b := Nat.gcd_pos_of_pos_left _ ha
  exact Nat.mul_pos (Nat.div_pos (Nat.le_of_dvd ha (Nat.gcd_dvd_left a b)) hg) hb
theorem cm_le (a b : Nat) : a / Nat.gcd a b * b ≤ a * b := Nat.mul_le_mul_right _ (Nat.div_le_self _ _)
theorem pd_of_dvd {l : List Nat} {P : Nat} (h : l.length ∣ P) : Pd l P := by
  obtain ⟨k, rfl⟩ := h
  exact pd_mul (pd_len l) k
end M19

namespace K19
open PySem PySem.Spec PyProof.Rows L2 BB
/-! ### the text -/
def topS (i : Nat) : Stmt := PySem.Challenge.pw_beadasks_k19_patterns_and_their_common_r.main.body.getD i (.Pass ⟨0, 0, 0, 0⟩)
abbrev s_is_text : Stmt := topS 2
abbrev s_highest_divisor : Stmt := topS 3
abbrev s_common_multiple : Stmt := topS 4
abbrev s_least_text : Stmt := topS 6
abbrev s_is_pattern : Stmt := topS 7
abbrev s_pattern_sign : Stmt := topS 8
abbrev s_turned : Stmt := topS 9
abbrev s_common_run : Stmt := topS 10
abbrev s_law_box : Stmt := topS 12
abbrev s_law_take : Stmt := topS 13
abbrev s_law_pick : Stmt := topS 14
abbrev s_law_word : Stmt := topS 15
abbrev s_law_least : Stmt := topS 16
abbrev s_law_long : Stmt := topS 17
abbrev s_law_run : Stmt := topS 18
abbrev s_law_is : Stmt := topS 19
abbrev s_law_pair_right : Stmt := topS 20
abbrev s_law : Stmt := topS 21
abbrev N_is_text : List Str := ["value"]
theorem sc_is_text : FnScope N_is_text ["value"] (defScope s_is_text) := ⟨rfl, rfl, rfl, by decide +kernel, rfl, by decide +kernel, by decide +kernel⟩
theorem b_is_text : BindsSt "is_text" s_is_text ["value"] := fun _ _ _ _ _ _ us hl => match us, hl with | [_], _ => rfl
abbrev N_highest_divisor : List Str := ["one", "other"]
theorem sc_highest_divisor : FnScope N_highest_divisor ["one", "other"] (defScope s_highest_divisor) := ⟨rfl, rfl, rfl, by decide +kernel, rfl, by decide +kernel, by decide +kernel⟩
theorem b_highest_divisor : BindsSt "highest_divisor" s_highest_divisor ["one", "other"] := fun _ _ _ _ _ _ us hl => match us, hl with | [_, _], _ => rfl
abbrev N_common_multiple : List Str := ["one", "other"]
theorem sc_common_multiple : FnScope N_common_multiple ["one", "other"] (defScope s_common_multiple) := ⟨rfl, rfl, rfl, by decide +kernel, rfl, by decide +kernel, by decide +kernel⟩
theorem b_common_multiple : BindsSt "common_multiple" s_common_multiple ["one", "other"] := fun _ _ _ _ _ _ us hl => match us, hl with | [_, _], _ => rfl
abbrev N_least_text : List Str := ["word"]
theorem sc_least_text : FnScope N_least_text ["word"] (defScope s_least_text) := ⟨rfl, rfl, rfl, by decide +kernel, rfl, by decide +kernel, by decide +kernel⟩
theorem b_least_text : BindsSt "least_text" s_least_text ["word"] := fun _ _ _ _ _ _ us hl => match us, hl with | [_], _ => rfl
abbrev N_is_pattern : List Str := ["value", "sign"]
theorem sc_is_pattern : FnScope N_is_pattern ["value"] (defScope s_is_pattern) := ⟨rfl, rfl, rfl, by decide +kernel, rfl, by decide +kernel, by decide +kernel⟩
theorem b_is_pattern : BindsSt "is_pattern" s_is_pattern ["value"] := fun _ _ _ _ _ _ us hl => match us, hl with | [_], _ => rfl
abbrev N_pattern_sign : List Str := ["pattern", "place"]
theorem sc_pattern_sign : FnScope N_pattern_sign ["pattern", "place"] (defScope s_pattern_sign) := ⟨rfl, rfl, rfl, by decide +kernel, rfl, by decide +kernel, by decide +kernel⟩
theorem b_pattern_sign : BindsSt "pattern_sign" s_pattern_sign ["pattern", "place"] := fun _ _ _ _ _ _ us hl => match us, hl with | [_, _], _ => rfl
abbrev N_turned : List Str := ["pattern", "by", "first"]
theorem sc_turned : FnScope N_turned ["pattern", "by"] (defScope s_turned) := ⟨rfl, rfl, rfl, by decide +kernel, rfl, by decide +kernel, by decide +kernel⟩
theorem b_turned : BindsSt "turned" s_turned ["pattern", "by"] := fun _ _ _ _ _ _ us hl => match us, hl with | [_, _], _ => rfl
abbrev N_common_run : List Str := ["one", "other", "period", "places", "place", "later", "after"]
theorem sc_common_run : FnScope N_common_run ["one", "other"] (defScope s_common_run) := ⟨rfl, rfl, rfl, by decide +kernel, rfl, by decide +kernel, by decide +kernel⟩
theorem b_common_run : BindsSt "common_run" s_common_run ["one", "other"] := fun _ _ _ _ _ _ us hl => match us, hl with | [_, _], _ => rfl
abbrev N_law_box : List Str := ["_law_script", "_law_k", "_law_cell", "_law_great"]
theorem sc_law_box : FnScope N_law_box ["_law_script", "_law_k"] (defScope s_law_box) := ⟨rfl, rfl, rfl, by decide +kernel, rfl, by decide +kernel, by decide +kernel⟩
theorem b_law_box : BindsSt "_law_box" s_law_box ["_law_script", "_law_k"] := fun _ _ _ _ _ _ us hl => match us, hl with | [_, _], _ => rfl
abbrev N_law_take : List Str := ["_law_box_here", "_law_many", "_law_digit", "_law_raw"]
theorem sc_law_take : FnScope N_law_take ["_law_box_here", "_law_many"] (defScope s_law_take) := ⟨rfl, rfl, rfl, by decide +kernel, rfl, by decide +kernel, by decide +kernel⟩
theorem b_law_take : BindsSt "_law_take" s_law_take ["_law_box_here", "_law_many"] := fun _ _ _ _ _ _ us hl => match us, hl with | [_, _], _ => rfl
abbrev N_law_pick : List Str := ["_law_box_here", "_law_some"]
theorem sc_law_pick : FnScope N_law_pick ["_law_box_here", "_law_some"] (defScope s_law_pick) := ⟨rfl, rfl, rfl, by decide +kernel, rfl, by decide +kernel, by decide +kernel⟩
theorem b_law_pick : BindsSt "_law_pick" s_law_pick ["_law_box_here", "_law_some"] := fun _ _ _ _ _ _ us hl => match us, hl with | [_, _], _ => rfl
abbrev N_law_word : List Str := ["_law_box_here", "_law_many", "_law_word_here", "_law_k"]
theorem sc_law_word : FnScope N_law_word ["_law_box_here"] (defScope s_law_word) := ⟨rfl, rfl, rfl, by decide +kernel, rfl, by decide +kernel, by decide +kernel⟩
theorem b_law_word : BindsSt "_law_word" s_law_word ["_law_box_here"] := fun _ _ _ _ _ _ us hl => match us, hl with | [_], _ => rfl
abbrev N_law_least : List Str := ["_law_word_here", "_law_size"]
theorem sc_law_least : FnScope N_law_least ["_law_word_here"] (defScope s_law_least) := ⟨rfl, rfl, rfl, by decide +kernel, rfl, by decide +kernel, by decide +kernel⟩
theorem b_law_least : BindsSt "_law_least" s_law_least ["_law_word_here"] := fun _ _ _ _ _ _ us hl => match us, hl with | [_], _ => rfl
abbrev N_law_long : List Str := ["_law_text", "_law_many"]
theorem sc_law_long : FnScope N_law_long ["_law_text", "_law_many"] (defScope s_law_long) := ⟨rfl, rfl, rfl, by decide +kernel, rfl, by decide +kernel, by decide +kernel⟩
theorem b_law_long : BindsSt "_law_long" s_law_long ["_law_text", "_law_many"] := fun _ _ _ _ _ _ us hl => match us, hl with | [_, _], _ => rfl
abbrev N_law_run : List Str := ["_law_one", "_law_other", "_law_best", "_law_now", "_law_k"]
theorem sc_law_run : FnScope N_law_run ["_law_one", "_law_other"] (defScope s_law_run) := ⟨rfl, rfl, rfl, by decide +kernel, rfl, by decide +kernel, by decide +kernel⟩
theorem b_law_run : BindsSt "_law_run" s_law_run ["_law_one", "_law_other"] := fun _ _ _ _ _ _ us hl => match us, hl with | [_, _], _ => rfl
abbrev N_law_is : List Str := ["_law_box_here", "_law_word_here", "_law_due", "_law_value"]
theorem sc_law_is : FnScope N_law_is ["_law_box_here", "_law_word_here"] (defScope s_law_is) := ⟨rfl, rfl, rfl, by decide +kernel, rfl, by decide +kernel, by decide +kernel⟩
theorem b_law_is : BindsSt "_law_is" s_law_is ["_law_box_here", "_law_word_here"] := fun _ _ _ _ _ _ us hl => match us, hl with | [_, _], _ => rfl
abbrev N_law_pair_right : List Str := ["_law_one", "_law_other", "_law_run_here", "_law_many"]
theorem sc_law_pair_right : FnScope N_law_pair_right ["_law_one", "_law_other"] (defScope s_law_pair_right) := ⟨rfl, rfl, rfl, by decide +kernel, rfl, by decide +kernel, by decide +kernel⟩
theorem b_law_pair_right : BindsSt "_law_pair_right" s_law_pair_right ["_law_one", "_law_other"] := fun _ _ _ _ _ _ us hl => match us, hl with | [_, _], _ => rfl
abbrev N_law : List Str := ["_law_script", "_law_box_here", "_law_word_here", "_law_text", "_law_later", "_law_near", "_law_other", "_law_place", "_law_sign", "_law_cut", "_law_more", "_law_long_here", "_law_base", "_law_one", "_law_two"]
theorem sc_law : FnScope N_law ["_law_script"] (defScope s_law) := ⟨rfl, rfl, rfl, by decide +kernel, rfl, by decide +kernel, by decide +kernel⟩
theorem b_law : BindsSt "law" s_law ["_law_script"] := fun _ _ _ _ _ _ us hl => match us, hl with | [_], _ => rfl
structure Txt (K : PySem.W.Frag) (mg : Str → Option Value) : Prop where
  n_isinstance : mg "isinstance" = none
  n_str : mg "str" = none
  n_all : mg "all" = none
  n_len : mg "len" = none
  n_range : mg "range" = none
  n_max : mg "max" = none
  n_zip : mg "zip" = none
  n_abs : mg "abs" = none
  n_int : mg "int" = none
  n_bool : mg "bool" = none
  g_SIGNS : ∃ u, mg "SIGNS" = some u ∧ RelV (W [48, 49, 50]) u
  d_is_text : Df K mg "is_text" s_is_text
  d_highest_divisor : Df K mg "highest_divisor" s_highest_divisor
  d_common_multiple : Df K mg "common_multiple" s_common_multiple
  d_least_text : Df K mg "least_text" s_least_text
  d_is_pattern : Df K mg "is_pattern" s_is_pattern
  d_pattern_sign : Df K mg "pattern_sign" s_pattern_sign
  d_turned : Df K mg "turned" s_turned
  d_common_run : Df K mg "common_run" s_common_run
  d_law_box : Df K mg "_law_box" s_law_box
  d_law_take : Df K mg "_law_take" s_law_take
  d_law_pick : Df K mg "_law_pick" s_law_pick
  d_law_word : Df K mg "_law_word" s_law_word
  d_law_least : Df K mg "_law_least" s_law_least
  d_law_long : Df K mg "_law_long" s_law_long
  d_law_run : Df K mg "_law_run" s_law_run
  d_law_is : Df K mg "_law_is" s_law_is
  d_law_pair_right : Df K mg "_law_pair_right" s_law_pair_right
  d_law : Df K mg "law" s_law

/-- one to many signs out of three -/
def OkW (n : Nat) (l : List Nat) : Prop := 0 < l.length ∧ l.length ≤ n ∧ ∀ c ∈ l, c ∈ [48, 49, 50]
def isPat (l : List Nat) : Bool := !(l.length == 0) && (l.all (fun c => decide (c ∈ [48, 49, 50])) && M19.lt l == l)
def sp_is_text (K : PySem.W.Frag) : Sp := fun vs H Q _ => ∃ (x : V) (t : String) (b : Bool), vs = [x] ∧ TyX K H x (.type t) ∧ kitB t "str" = some b ∧ Q (.bl b) H
def sp_highest_divisor : Sp := fun vs H Q _ => ∃ a b : Nat, vs = [.int (a : Int), .int (b : Int)] ∧ Q (.int ((Nat.gcd a b : Nat) : Int)) H
def sp_common_multiple : Sp := fun vs H Q _ => ∃ a b : Nat, vs = [.int (a : Int), .int (b : Int)] ∧ 0 < a ∧ a ≤ 1000 ∧ b ≤ 1000 ∧ Q (.int ((a / Nat.gcd a b * b : Nat) : Int)) H
def sp_least_text : Sp := fun vs H Q _ => ∃ l : List Nat, vs = [W l] ∧ 0 < l.length ∧ l.length ≤ 1000 ∧ Q (W (M19.lt l)) H
def sp_is_pattern (K : PySem.W.Frag) : Sp := fun vs H Q _ => ∃ x : V, vs = [x] ∧ ((∃ t : String, TyX K H x (.type t) ∧ kitB t "str" = some false ∧ Q (.bl false) H) ∨ ∃ l : List Nat, x = W l ∧ l.length ≤ 1000 ∧ ∀ H', Same H H' → Q (.bl (isPat l)) H')
def sp_pattern_sign : Sp := fun vs H Q _ => ∃ (l : List Nat) (k : Nat), vs = [W l, .int (k : Int)] ∧ 0 < l.length ∧ l.length ≤ 1000 ∧ Q (W [M19.om l k]) H
def sp_turned : Sp := fun vs H Q _ => ∃ (l : List Nat) (k : Nat), vs = [W l, .int (k : Int)] ∧ 0 < l.length ∧ l.length ≤ 1000 ∧ Q (W (l.drop (k % l.length) ++ l.take (k % l.length))) H
def cm (a b : List Nat) : Nat := a.length / Nat.gcd a.length b.length * b.length
def sp_common_run : Sp := fun vs H Q _ => ∃ a b : List Nat, vs = [W a, W b] ∧ 0 < a.length ∧ a.length ≤ 100 ∧ 0 < b.length ∧ b.length ≤ 100 ∧ (a = b → Q .non H) ∧
  (a ≠ b → M19.per a = a.length ∧ M19.per b = b.length ∧ ∀ (H' : Hp) (R : Int), Same H H' → R ∈ M19.gaps a b (cm a b) → (∀ x ∈ M19.gaps a b (cm a b), x ≤ R) → Q (.int R) H')
def sp_law_box (K : PySem.W.Frag) : Sp := fun vs H Q _ => ∃ (s : Addr) (ns : List Int) (k : Nat), vs = [.ref s, .int (k : Int)] ∧ SqL K H s (ns.map V.int) ∧ k ≤ 100 ∧ ∀ (H' : Hp) (p : Addr), Same H H' → H p = none → IsBox H' p → Q (.ref p) H'
def sp_law_take : Sp := fun vs H Q _ => ∃ (b : Addr) (m : Int), vs = [.ref b, .int m] ∧ 0 < m ∧ m < 2 ^ 62 ∧ IsBox H b ∧ ∀ (H' : Hp) (r : Int), Dr b H H' → 0 ≤ r → r < m → Q (.int r) H'
def sp_law_pick (K : PySem.W.Frag) : Sp := fun vs H Q _ => ∃ (b l : Addr) (xs : List V), vs = [.ref b, .ref l] ∧ l ≠ b ∧ SqL K H l xs ∧ 0 < xs.length ∧ xs.length ≤ 1000 ∧ IsBox H b ∧ ∀ (H' : Hp) (x : V), Dr b H H' → x ∈ xs → Q x H'
def sp_law_word : Sp := fun vs H Q _ => ∃ b : Addr, vs = [.ref b] ∧ IsBox H b ∧ ∀ (H' : Hp) (l : List Nat), Dr b H H' → OkW 6 l → Q (W l) H'
def sp_law_least : Sp := fun vs H Q _ => ∃ l : List Nat, vs = [W l] ∧ 0 < l.length ∧ l.length ≤ 1000 ∧ Q (W (M19.lt l)) H
def sp_law_long : Sp := fun vs H Q _ => ∃ (l : List Nat) (n : Nat), vs = [W l, .int (n : Int)] ∧ l.length ≤ 100 ∧ n ≤ 10000 ∧ Q (W ((List.replicate n l).flatten.take n)) H
def sp_law_run : Sp := fun vs H Q _ => ∃ a b : List Nat, vs = [W a, W b] ∧ a.length = b.length ∧ a.length ≤ 100000 ∧ ∀ H', Same H H' → Q (.int ((M19.runS (fun k => a.getD k 0 == b.getD k 0) a.length).1 : Int)) H'
def sp_law_is : Sp := fun vs H Q _ => ∃ (b : Addr) (l : List Nat), vs = [.ref b, W l] ∧ IsBox H b ∧ OkW 100 l ∧ ∀ H', Dr b H H' → Q (.bl true) H'
def sp_law_pair_right : Sp := fun vs H Q _ => ∃ a b : List Nat, vs = [W a, W b] ∧ 0 < a.length ∧ a.length ≤ 50 ∧ 0 < b.length ∧ b.length ≤ 50 ∧ M19.per a = a.length ∧ M19.per b = b.length ∧ ∀ H', Same H H' → Q (.bl true) H'
def sp_law (K : PySem.W.Frag) : Sp := fun vs H Q _ => ∃ (s : Addr) (ns : List Int), vs = [.ref s] ∧ SqL K H s (ns.map V.int) ∧ ∀ H', Q (.bl true) H'


theorem find_per {l : List Nat} (h0 : 0 < l.length) : PySem.Txt.find3 (S (l ++ l)) (S l) 1 = ((M19.per l : Nat) : Int) := by
  have e1 : PySem.fromIndex (S (l ++ l)).length 1 = 1 := rfl
  have at_iff : ∀ i, i ≤ l.length → (PySem.StrLaws.At (S (l ++ l)) (S l) (S (l ++ l)).length i ↔ M19.rotB l i = true) := fun i hi => by
    have hd : ((l ++ l).drop i).take l.length = l.drop i ++ l.take i := by
      rw [List.drop_append_of_le_length hi, List.take_append, List.length_drop, List.take_of_length_le (by rw [List.length_drop]; omega)]
      congr 2
      omega
    unfold PySem.StrLaws.At
    rw [PySem.StrLaws.subAt_eq, S_len, S_len, S_cps, S_cps, hd, List.length_append]
    exact ⟨fun h => h.2, fun h => ⟨by omega, h⟩⟩
  unfold PySem.Txt.find3
  rw [e1]
  rcases PySem.StrLaws.occ_head_from (S (l ++ l)) (S l) 1 1 (Nat.le_refl 1) with ⟨_, hn⟩ | ⟨i, r, e, hi, ha, hb⟩
  · exact absurd ((at_iff _ (Nat.le_refl _)).mpr ((M19.rot_iff h0 (Nat.le_refl _)).mpr (M19.pd_len l))) (hn _ h0)
  · rw [e]
    have hle : i ≤ l.length := by
      have := ha.1
      rw [S_len, S_len, List.length_append] at this
      omega
    have hp : M19.IsPer l i := ⟨hi, (M19.rot_iff h0 hle).mp ((at_iff i hle).mp ha), fun q h1 h2 h3 => hb q h1 h2 ((at_iff q (by omega)).mpr ((M19.rot_iff h0 (by omega)).mpr h3))⟩
    exact congrArg Int.ofNat (hp.uniq (M19.per_is h0) fun _ => rfl)
theorem isPat_ok {n : Nat} {l : List Nat} (h : OkW n l) : isPat l = (M19.lt l == l) := by
  unfold isPat
  have h1 : (l.length == 0) = false := beq_eq_false_iff_ne.mpr (by have := h.1; omega)
  have h2 : (l.all fun c => decide (c ∈ [48, 49, 50])) = true := by
    rw [List.all_eq_true]
    exact fun c hc => decide_eq_true (h.2.2 c hc)
  rw [h1, h2]
  rfl
theorem isPat_no {l : List Nat} {c : Nat} (h : c ∈ l) (hc : ¬ c ∈ [48, 49, 50]) : isPat l = false := by
  unfold isPat
  have h2 : (l.all fun c => decide (c ∈ [48, 49, 50])) = false := by
    cases e : l.all fun c => decide (c ∈ [48, 49, 50]) with
    | false => rfl
    | true => exact absurd (of_decide_eq_true (List.all_eq_true.mp e c h)) hc
  rw [h2, Bool.false_and, Bool.and_false]
theorem OkW.mono {n m : Nat} {l : List Nat} (h : OkW n l) (hm : n ≤ m) : OkW m l := ⟨h.1, Nat.le_trans h.2.1 hm, h.2.2⟩
theorem OkW.app {n m : Nat} {l k : List Nat} (h : OkW n l) (hk : k.length ≤ m) (hc : ∀ c ∈ k, c ∈ [48, 49, 50]) : OkW (n + m) (l ++ k) := by
  refine ⟨by rw [List.length_append]; have := h.1; omega, by rw [List.length_append]; have := h.2.1; omega, fun c hm => ?_⟩
  rcases List.mem_append.mp hm with x | x
  · exact h.2.2 c x
  · exact hc c x
theorem OkW.lt {n : Nat} {l : List Nat} (h : OkW n l) : OkW n (M19.lt l) := by
  refine ⟨M19.lt_pos h.1, ?_, fun c hc => h.2.2 c (List.mem_of_mem_take hc)⟩
  rw [M19.lt_len h.1]
  exact Nat.le_trans (M19.per_le h.1) h.2.1
theorem OkW.take {n k : Nat} {l : List Nat} (h : OkW n l) (hk : 0 < k) : OkW k (l.take k) := by
  refine ⟨by rw [List.length_take]; have := h.1; omega, by rw [List.length_take]; omega, fun c hc => h.2.2 c (List.mem_of_mem_take hc)⟩
theorem OkW.rep {n k : Nat} {l : List Nat} (h : OkW n l) (hk : 0 < k) : OkW (k * n) (List.replicate k l).flatten := by
  refine ⟨by rw [M19.rep_len]; exact Nat.mul_pos hk h.1, by rw [M19.rep_len]; exact Nat.mul_le_mul_left _ h.2.1, fun c hc => ?_⟩
  obtain ⟨x, hx, hc⟩ := List.mem_flatten.mp hc
  exact h.2.2 c (List.eq_of_mem_replicate hx ▸ hc)
theorem prim_lt {l : List Nat} (h : 0 < l.length) : M19.per (M19.lt l) = (M19.lt l).length := by rw [M19.per_lt h, M19.lt_len h]
theorem W1_dec (x y : Nat) : decide (W [x] = W [y]) = (x == y) := by
  rw [W_dec]
  cases h : x == y
  · have : x ≠ y := beq_eq_false_iff_ne.mp h
    simp [this]
  · have : x = y := eq_of_beq h
    simp [this]
theorem runS_congr {f h : Nat → Bool} : ∀ n, (∀ k, k < n → f k = h k) → M19.runS f n = M19.runS h n
  | 0, _ => rfl
  | n + 1, e => by
    have ih := runS_congr n fun k hk => e k (by omega)
    unfold M19.runS
    rw [ih, e n (by omega)]
theorem RelV_SIGNS {t : Tok} : RelV (W [48, 49, 50]) (.str (Str.ofString "012") t) := by
  rw [show Str.ofString "012" = S [48, 49, 50] by decide +kernel]
  exact ⟨_, rfl⟩
theorem str0 : Str.ofString "0" = S [48] := by decide +kernel
theorem str1 : Str.ofString "1" = S [49] := by decide +kernel
theorem str2 : Str.ofString "2" = S [50] := by decide +kernel
theorem strE : Str.ofString "" = S [] := by decide +kernel
theorem str3 : Str.ofString "3" = S [51] := by decide +kernel
theorem str0a : Str.ofString "0a" = S [48, 97] := by decide +kernel
theorem strSp : Str.ofString " " = S [32] := by decide +kernel
theorem str01x : Str.ofString "01x" = S [48, 49, 120] := by decide +kernel
theorem one_sign {x : V} (h : x = W [48] ∨ x = W [49] ∨ x = W [50]) : ∃ c, x = W [c] ∧ c ∈ [48, 49, 50] := by
  rcases h with h | h | h
  · exact ⟨48, h, by decide⟩
  · exact ⟨49, h, by decide⟩
  · exact ⟨50, h, by decide⟩

section
variable {P : Program} {w : World} {K : PySem.W.Frag} {mg : Str → Option Value} {base : Heap}
theorem ok_is_text (T : Txt K mg) : Cl P w K mg base 1 "is_text" s_is_text ["value"] (sp_is_text K) := by
  have nd := sc_is_text.nd
  refine Cl.mk' T.d_is_text sc_is_text (fun vs H Q E h => ?_) (fun f cdv A outer s H vs Q E hr h => ?_)
  · obtain ⟨_, _, _, rfl, _⟩ := h
    rfl
  · obtain ⟨x, t, b, rfl, hx, hk, q⟩ := h
    refine ⟨_, (pss_one (ps_ret (pe_callB (r := rIsi K) call_isi (by rfl) T.n_isinstance (by decide +kernel) (pa_cons (pv 0) (pa_cons (pe_bltn (v := .ty "str") (by rfl) T.n_str (by decide +kernel) rfl) pa_nil))))), ?_⟩
    exact ⟨x, rfl, x, .ty "str", .type t, .type "str", b, rfl, .ty _, hx, kit_ty hk, q⟩

theorem ok_highest_divisor (T : Txt K mg) : Cl P w K mg base 1 "highest_divisor" s_highest_divisor ["one", "other"] sp_highest_divisor := by
  have nd := sc_highest_divisor.nd
  refine Cl.mk' T.d_highest_divisor sc_highest_divisor (fun vs H Q E h => ?_) (fun f cdv A outer s H vs Q E hr h => ?_)
  · obtain ⟨_, _, rfl, _⟩ := h
    rfl
  · obtain ⟨a, b, rfl, q⟩ := h
    refine ⟨_, (pss_cons (ps_while PassesOwn.never (pt_cmpR op_gt (pv 1) pe_int (nomark _)) (pss_one (ps_par (i := 0) (j := 1) (by rfl) nd rfl rfl (by decide) rfl rfl (pa_cons (pv 1) (pa_cons (pe_op op_mod (pv 0) (pv 1)) pa_nil)) (by rfl))))
      (pss_one (ps_ret (pv 0)))), ?_⟩
    refine ⟨fun m σ' H' => ∃ a' b' : Nat, σ' = [some (.int (a' : Int)), some (.int (b' : Int))] ∧ H' = H ∧ m = b' ∧ Nat.gcd a' b' = Nat.gcd a b, ⟨b, a, b, rfl, rfl, rfl, rfl⟩, fun m σ' H' hw => ?_⟩
    obtain ⟨a', b', hs, hh, hm, e⟩ := hw
    subst hs
    subst hh
    subst hm
    refine ⟨_, rfl, _, _, rfl, rfl, _, rfl, ite_b (fun hc => ?_) (fun hc => ?_)⟩
    · have h0 : (0 : Int) < (m : Int) := of_decide_eq_true hc
      refine ⟨fun σ2 H2 => σ2 = [some (.int (m : Int)), some (.int ((a' % m : Nat) : Int))] ∧ H2 = H', fun σ2 H2 hN => ?_, ?_⟩
      · obtain ⟨h1, h2⟩ := hN
        exact ⟨a' % m, Nat.mod_lt _ (by omega), m, a' % m, h1, h2, rfl, (M19.gcd_step (by omega)).trans e⟩
      · exact ⟨_, rfl, _, rfl, _, rfl, _, _, rfl, rfl, h0, _, _, rfl, by dsimp only; rw [mod_nat]; rfl, rfl⟩
    · have h0 : m = 0 := by
        have : ¬ (0 : Int) < (m : Int) := of_decide_eq_false hc
        omega
      subst h0
      rw [Nat.gcd_zero_right] at e
      subst e
      exact ⟨_, rfl, q⟩

theorem ok_common_multiple (T : Txt K mg) (c_highest_divisor : Cl P w K mg base 1 "highest_divisor" s_highest_divisor ["one", "other"] sp_highest_divisor) : Cl P w K mg base 2 "common_multiple" s_common_multiple ["one", "other"] sp_common_multiple := by
  have nd := sc_common_multiple.nd
  refine Cl.mk' T.d_common_multiple sc_common_multiple (fun vs H Q E h => ?_) (fun f cdv A outer s H vs Q E hr h => ?_)
  · obtain ⟨_, _, rfl, _⟩ := h
    rfl
  · obtain ⟨a, b, rfl, h0, h1, h2, q⟩ := h
    refine ⟨_, (pss_one (ps_ret (pe_op op_mulU (pe_op op_fdivW (pv 0) (pe_f c_highest_divisor b_highest_divisor hr (by decide) (by rfl) (pa_cons (pv 0) (pa_cons (pv 1) pa_nil)))) (pv 1)))), ?_⟩
    have hg : 0 < Nat.gcd a b := Nat.gcd_pos_of_pos_left _ h0
    have hg2 : Nat.gcd a b ≤ a := Nat.gcd_le_left _ h0
    refine ⟨_, rfl, _, rfl, _, rfl, a, b, rfl, _, _, rfl, rfl, divW (by omega) (by omega), _, rfl, .inl ⟨_, _, rfl, rfl, mulOk_l ?_, ?_⟩⟩
    · try dsimp only
      rw [div_nat]
      have : a / Nat.gcd a b ≤ a := Nat.div_le_self _ _
      generalize a / Nat.gcd a b = d at this
      omega
    · try dsimp only
      rw [div_nat, ← Int.natCast_mul]
      exact q

theorem ok_least_text (T : Txt K mg) : Cl P w K mg base 1 "least_text" s_least_text ["word"] sp_least_text := by
  have nd := sc_least_text.nd
  refine Cl.mk' T.d_least_text sc_least_text (fun vs H Q E h => ?_) (fun f cdv A outer s H vs Q E hr h => ?_)
  · obtain ⟨_, rfl, _⟩ := h
    rfl
  · obtain ⟨l, rfl, h0, h1, q⟩ := h
    refine ⟨_, (pss_one (ps_ret (pe_slice (r := rSlU K) sl_U (pv 0) po_none (po_some (pe_bm PySem.F.plainAttrs_str PySem.F.slot_str_find PySem.F.type_str_find mt_find3 (pe_op (r := rAddU K) op_addU (pv 0) (pv 0)) (pa_cons (pv 0) (pa_cons pe_int pa_nil))))))), ?_⟩
    refine ⟨_, rfl, _, rfl, _, rfl, .inr (.inl ⟨_, _, rfl, rfl, small1m (by rw [S_len]; omega), rfl, _, rfl, _, _, _, rfl, rfl, _, rfl, .inl ⟨_, rfl, S_small (n := 0) (by omega), ?_⟩⟩)⟩
    try dsimp only
    rw [S_app, find_per h0, S_to]
    exact q

theorem ok_is_pattern (T : Txt K mg) (c_is_text : Cl P w K mg base 1 "is_text" s_is_text ["value"] (sp_is_text K)) (c_least_text : Cl P w K mg base 1 "least_text" s_least_text ["word"] sp_least_text) : Cl P w K mg base 2 "is_pattern" s_is_pattern ["value"] (sp_is_pattern K) := by
  have nd := sc_is_pattern.nd
  refine Cl.mk' T.d_is_pattern sc_is_pattern (fun vs H Q E h => ?_) (fun f cdv A outer s H vs Q E hr h => ?_)
  · obtain ⟨_, rfl, _⟩ := h
    rfl
  · obtain ⟨x, rfl, h⟩ := h
    refine ⟨_, (pss_cons (ps_if (PW.pt (pw_or (pt_not (pt_val (pe_f c_is_text b_is_text hr (by decide) (by rfl) (pa_cons (pv 0) pa_nil)))) (pw_or (pt_cmpR (r := rEqU K) (op_eqU hr.units) (pe_callB (r := rLenU K) cr_lenU (by rfl) T.n_len (by decide +kernel) (pa_cons (pv 0) pa_nil)) pe_int (nomark _)) (pw_or1 (pt_not (pt_val (pe_callB (r := rAll K) (cr_all rfl) (by rfl) T.n_all (by decide +kernel) (pa_cons (pe_lc (own := [("sign", 1)]) (g := (gName 1)) (tt := tYes) rfl nd (pi_str (pv 0)) (blkOk_by (by rfl)) (fun _ _ _ _ _ => (pg_name (i := 1) nd rfl (Or.inl rfl))) (fun _ _ _ _ _ => pts_nil) (fun _ _ _ _ _ => (pe_cmpR (r := rInU K) op_inU (pv 1) (pe_gl T.g_SIGNS (by rfl)) rfl))) pa_nil)))))))) (pss_one (ps_ret pe_bl)) pss_nil)
      (pss_one (ps_ret (pe_cmpR (r := rEqU K) (op_eqU hr.units) (pe_f c_least_text b_least_text hr (by decide) (by rfl) (pa_cons (pv 0) pa_nil)) (pv 0) (nomark _))))), ?_⟩
    rcases h with ⟨t, hx, hk, q⟩ | ⟨l, rfl, hl, q⟩
    · exact ⟨_, rfl, x, t, false, rfl, hx, hk, false, rfl, iteT (iteT q)⟩
    refine ⟨_, rfl, W l, "str", true, rfl, .base (.str _), rfl, true, rfl, iteF ?_⟩
    refine ⟨_, rfl, .inl ⟨_, rfl, S_small (n := 0) (by omega), .inl ⟨rfl, _, rfl, ite_b (fun hc => iteT ?_) (fun hc => ?_)⟩⟩⟩
    · have e := q H (Same.refl _)
      have e0 : l = [] := by
        have := V.int.inj (of_decide_eq_true hc)
        rw [S_len] at this
        exact List.length_eq_zero_iff.mp (by omega)
      subst e0
      exact e
    have h0 : 0 < l.length := by
      rcases Nat.eq_zero_or_pos l.length with z | z
      · have z2 := of_decide_eq_false hc
        rw [S_len, z] at z2
        exact absurd rfl z2
      · exact z
    refine ⟨_, rfl, _, rfl, fun Dl nD => lcP walk_str (fun i => some (.bl (decide (l.getD i 0 ∈ [48, 49, 50])))) nD (by show l.length ≤ 1000000; omega) (fun _ _ => trivial) (fun i x H1 H' hi s y Ky Kn hy hn => ?_) (fun H2 s2 e2 => ?_)⟩
    · obtain ⟨rfl, c, ec, rfl⟩ := y
      have ec2 : l[i]? = some c := by simpa using ec
      refine ⟨rfl, yes ⟨_, rfl, .inl ⟨c, _, rfl, rfl, hy _ _ (Same.refl _) ?_⟩⟩⟩
      try dsimp only
      rw [List.getD_eq_getElem?_getD, ec2]
      rfl
    have e3 : H2 Dl = some (.lst ((l.map fun c => decide (c ∈ [48, 49, 50])).map V.bl)) := by
      try dsimp only
      rw [e2, fm_map]
      have := range_map_list l 0 (fun c => V.bl (decide (c ∈ [48, 49, 50])))
      try dsimp only
      rw [List.map_map]
      exact congrArg (fun z => some (HO.lst z)) this
    refine ⟨Dl, _, rfl, lst_of e3, _, rfl, ite_b (fun hc2 => ?_) (fun hc2 => ?_)⟩
    · have hb : (l.all fun c => decide (c ∈ [48, 49, 50])) = false := by
        rw [List.all_map] at hc2
        simpa using hc2
      have e : isPat l = false := by
        unfold isPat
        try dsimp only
        rw [hb, Bool.false_and, Bool.and_false]
      have := q H2 (s2)
      rw [e] at this
      exact this
    have hb : (l.all fun c => decide (c ∈ [48, 49, 50])) = true := by
      rw [List.all_map] at hc2
      simpa using hc2
    refine ⟨_, rfl, l, rfl, h0, hl, _, rfl, .inl ⟨rfl, ?_⟩⟩
    try dsimp only
    rw [W_dec]
    have := q H2 s2
    unfold isPat at this
    rw [hb, beq_eq_false_iff_ne.mpr (show l.length ≠ 0 by omega)] at this
    exact this

theorem ok_pattern_sign (T : Txt K mg) : Cl P w K mg base 1 "pattern_sign" s_pattern_sign ["pattern", "place"] sp_pattern_sign := by
  have nd := sc_pattern_sign.nd
  refine Cl.mk' T.d_pattern_sign sc_pattern_sign (fun vs H Q E h => ?_) (fun f cdv A outer s H vs Q E hr h => ?_)
  · obtain ⟨_, _, rfl, _⟩ := h
    rfl
  · obtain ⟨l, k, rfl, h0, h1, q⟩ := h
    refine ⟨_, (pss_one (ps_ret (pe_ix (r := rIx K) ix_seq (pv 0) (pe_op op_mod (pv 1) (pe_callB (r := rLenU K) cr_lenU (by rfl) T.n_len (by decide +kernel) (pa_cons (pv 0) pa_nil))) (fun _ _ => rfl)))), ?_⟩
    refine ⟨_, rfl, _, rfl, _, rfl, .inl ⟨_, rfl, S_small (n := 0) (by omega), _, _, rfl, rfl, by rw [S_len]; omega, .inr (.inr ⟨_, _, M19.om l k, rfl, rfl, S_small (n := 0) (by omega), ?_, q⟩)⟩⟩
    try dsimp only
    rw [S_len, mod_nat]
    exact S_at (Nat.mod_lt _ h0)

theorem ok_turned (T : Txt K mg) : Cl P w K mg base 1 "turned" s_turned ["pattern", "by"] sp_turned := by
  have nd := sc_turned.nd
  refine Cl.mk' T.d_turned sc_turned (fun vs H Q E h => ?_) (fun f cdv A outer s H vs Q E hr h => ?_)
  · obtain ⟨_, _, rfl, _⟩ := h
    rfl
  · obtain ⟨l, k, rfl, h0, h1, q⟩ := h
    refine ⟨_, (pss_cons (ps_set (i := 2) nd rfl (.inl rfl) (pe_op op_mod (pv 1) (pe_callB (r := rLenU K) cr_lenU (by rfl) T.n_len (by decide +kernel) (pa_cons (pv 0) pa_nil))))
      (pss_one (ps_ret (pe_op (r := rAddU K) op_addU (pe_slice (r := rSlU K) sl_U (pv 0) (po_some (pv 2)) po_none) (pe_slice (r := rSlU K) sl_U (pv 0) po_none (po_some (pv 2))))))), ?_⟩
    refine ⟨_, rfl, _, rfl, .inl ⟨_, rfl, S_small (n := 0) (by omega), _, _, rfl, rfl, by rw [S_len]; omega, ?_⟩⟩
    try dsimp only
    rw [S_len, mod_nat]
    refine ⟨_, rfl, _, rfl, _, rfl, .inl ⟨_, rfl, S_small (n := 0) (by omega), _, rfl, _, rfl, _, rfl, .inl ⟨_, rfl, S_small (n := 0) (by omega), .inr (.inl ⟨_, _, rfl, rfl, ?_, ?_⟩)⟩⟩⟩
    · try dsimp only
      rw [S_from, S_to, S_len, S_len, List.length_drop, List.length_take]
      exact small1m (by omega)
    · try dsimp only
      rw [S_from, S_to, S_app]
      exact q

theorem ok_common_run (T : Txt K mg) (c_common_multiple : Cl P w K mg base 2 "common_multiple" s_common_multiple ["one", "other"] sp_common_multiple) (c_pattern_sign : Cl P w K mg base 1 "pattern_sign" s_pattern_sign ["pattern", "place"] sp_pattern_sign) : Cl P w K mg base 3 "common_run" s_common_run ["one", "other"] sp_common_run := by
  have nd := sc_common_run.nd
  refine Cl.mk' T.d_common_run sc_common_run (fun vs H Q E h => ?_) (fun f cdv A outer s H vs Q E hr h => ?_)
  · obtain ⟨_, _, rfl, _⟩ := h
    rfl
  · obtain ⟨a, b, rfl, ha0, ha1, hb0, hb1, q1, q2⟩ := h
    refine ⟨_, (pss_cons (ps_if (pt_cmpR (r := rEqU K) (op_eqU hr.units) (pv 0) (pv 1) (nomark _)) (pss_one (ps_ret pe_non)) pss_nil)
      (pss_cons (ps_set (i := 2) nd rfl (.inl rfl) (pe_f c_common_multiple b_common_multiple hr (by decide) (by rfl) (pa_cons (pe_callB (r := rLenU K) cr_lenU (by rfl) T.n_len (by decide +kernel) (pa_cons (pv 0) pa_nil)) (pa_cons (pe_callB (r := rLenU K) cr_lenU (by rfl) T.n_len (by decide +kernel) (pa_cons (pv 1) pa_nil)) pa_nil))))
      (pss_cons (ps_setLc (i := 3) (own := [("place", 4)]) (g := (gName 4)) rfl nd rfl rfl (sw_true rfl rfl rfl (by decide +kernel)) (pi_range1 (by rfl) T.n_range (pa_cons (pv 2) pa_nil)) (blkOk_by (by rfl)) (fun _ _ _ _ _ => (pg_name (i := 4) nd rfl (Or.inl rfl))) (fun _ _ _ _ _ => (pts_one (pt_cmpR (r := rNeU K) (op_neU hr.units) (pe_f c_pattern_sign b_pattern_sign hr (by decide) (by rfl) (pa_cons (pv 0) (pa_cons (pv 4) pa_nil))) (pe_f c_pattern_sign b_pattern_sign hr (by decide) (by rfl) (pa_cons (pv 1) (pa_cons (pv 4) pa_nil))) (nomark _)))) (fun _ _ _ _ _ => (pv 4)))
      (pss_cons (ps_set (i := 5) nd rfl (.inl rfl) (pe_op (r := rAddU K) op_addU (pe_slice (r := rSlU K) sl_U (pv 3) (po_some pe_int) po_none) (pe_lstN (pa_cons (pe_op (r := rAddU K) op_addU (pe_ix (r := rIx K) ix_seq (pv 3) pe_int (fun _ _ => rfl)) (pv 2)) pa_nil))))
      (pss_one (ps_ret (pe_callB (r := rMax K) (cr_max rfl) (by rfl) T.n_max (by decide +kernel) (pa_cons (pe_lc (own := [("place", 4), ("after", 6)]) (g := (gTup K 2 (gCons (gName 4) (gCons (gName 6) gNil)))) (tt := tYes) rfl nd (pi_zip (by rfl) T.n_zip (pa_cons (pv 3) (pa_cons (pv 5) pa_nil))) (blkOk_by (by rfl)) (fun _ _ _ _ _ => (pg_tup rfl (pgs_cons (pg_name (i := 4) nd rfl (Or.inl rfl)) (pgs_cons (pg_name (i := 6) nd rfl (Or.inl rfl)) pgs_nil)))) (fun _ _ _ _ _ => pts_nil) (fun _ _ _ _ _ => (pe_op op_sub (pe_op op_sub (pv 6) (pv 4)) pe_int))) pa_nil)))))))), ?_⟩
    refine ⟨_, rfl, _, rfl, .inl ⟨rfl, _, rfl, ite_b (fun hc => ?_) (fun hc => ?_)⟩⟩
    · exact q1 (W_inj (of_decide_eq_true hc))
    have hne : a ≠ b := fun e => of_decide_eq_false hc (by rw [e])
    obtain ⟨pa, pb, q⟩ := q2 hne
    have hP : 0 < cm a b := M19.cm_pos ha0 hb0
    have hP2 : cm a b ≤ 10000 := Nat.le_trans (M19.cm_le _ _) (Nat.mul_le_mul ha1 hb1)
    have da : M19.Pd a (cm a b) := M19.pd_of_dvd M19.cm_dvd_l
    have db : M19.Pd b (cm a b) := M19.pd_of_dvd (M19.cm_dvd_r _ _)
    have hpl : M19.pl a b (cm a b) ≠ [] := by
      obtain ⟨k, h1, h2⟩ := M19.parts ha0 hb0 pa pb hne da db hP
      exact List.ne_nil_of_mem (M19.mem_pl.mpr ⟨h1, h2⟩)
    refine ⟨_, rfl, .inl ⟨_, rfl, S_small (n := 0) (by omega), _, rfl, .inl ⟨_, rfl, S_small (n := 0) (by omega), a.length, b.length, rfl, ha0, by omega, by omega, ?_⟩⟩⟩
    -- the places
    refine ⟨_, rfl, _, rfl, by show -(2 ^ 62) ≤ ((cm a b : Nat) : Int); omega, by show ((cm a b : Nat) : Int) < 2 ^ 62; omega, fun Dl nD => lcP (n := cm a b) walk_range (fun i => if M19.agB a b i = true then none else some (.int (i : Int))) nD (by omega) (fun _ _ => trivial) (fun i x H1 H' hi s y Ky Kn hy hn => ?_) (fun H2 s2 e2 => ?_)⟩
    · obtain ⟨rfl, rfl⟩ := y
      try dsimp only
      rw [Int.zero_add]
      refine ⟨rfl, _, rfl, _, rfl, a, i, rfl, ha0, by omega, _, rfl, _, rfl, b, i, rfl, hb0, by omega, .inl ⟨rfl, _, rfl, ite_b (fun hc => ⟨_, rfl, hy _ _ (Same.refl _) ?_⟩) (fun hc => hn _ (Same.refl _) ?_)⟩⟩
      · rw [W1_dec] at hc
        rw [if_neg (by show ¬ (M19.om a i == M19.om b i) = true; intro z; rw [z] at hc; cases hc)]
      · rw [W1_dec] at hc
        rw [if_pos (by show (M19.om a i == M19.om b i) = true; cases z : (M19.om a i == M19.om b i) with | true => rfl | false => (rw [z] at hc; cases hc))]
    have e3 : H2 Dl = some (.lst ((M19.pl a b (cm a b)).map fun k : Nat => V.int (k : Int))) := by
      try dsimp only
      rw [e2, fm_filter]
      rfl
    have hlp : 0 < (M19.pl a b (cm a b)).length := List.length_pos_iff.mpr hpl
    have hln : (M19.pl a b (cm a b)).length ≤ cm a b := by
      have := List.length_filter_le (fun k => !M19.agB a b k) (List.range (cm a b))
      rw [List.length_range] at this
      exact this
    -- the later ones
    refine ⟨_, rfl, _, rfl, .inr (.inl ⟨Dl, _, rfl, lst_of e3, fun p1 G1 np1 t1 g1 => ?_⟩)⟩
    refine ⟨_, rfl, .inl ⟨Dl, _, 0, .int (((M19.pl a b (cm a b)).getD 0 0 : Nat) : Int), rfl, rfl, lst_of (t1 _ _ e3), ?_, _, rfl, .inl ⟨_, _, rfl, rfl, small1m (by show 1 ≤ 1000000; decide), fun p2 G2 np2 t2 g2 => ?_⟩⟩⟩
    · refine atI_nat (j := 0) ?_
      try dsimp only
      rw [List.getElem?_map, List.getD_eq_getElem?_getD, List.getElem?_eq_getElem hlp]
      rfl
    refine .inr (.inr (.inl ⟨p1, p2, _, _, rfl, rfl, t2 _ _ g1, g2, ?_, fun p3 G3 np3 t3 g3 => ?_⟩))
    · try dsimp only
      rw [show (some 1 : Option Int) = some ((1 : Nat) : Int) from rfl, cutV_from]
      exact small1m (by simp; omega)
    have tt := ((s2.trans t1).trans t2).trans t3
    have e4 := t3 _ _ (t2 _ _ (t1 _ _ e3))
    have el : cutV ((M19.pl a b (cm a b)).map fun k : Nat => V.int (k : Int)) (some 1) none ++ [V.int ((((M19.pl a b (cm a b)).getD 0 0 : Nat) : Int) + ((cm a b : Nat) : Int))] = (M19.lat a b (cm a b)).map fun k : Nat => V.int (k : Int) := by
      try dsimp only
      rw [show (some 1 : Option Int) = some ((1 : Nat) : Int) from rfl, cutV_from]
      unfold M19.lat
      try dsimp only
      rw [List.map_append, List.map_drop, List.map_singleton, Int.natCast_add]
    have e4b : G3 p3 = some (.lst ((M19.lat a b (cm a b)).map fun k : Nat => V.int (k : Int))) := by
      try dsimp only
      rw [← el]
      exact g3
    have hll := M19.lat_len (a := a) (b := b) hpl
    have hgl : (M19.gaps a b (cm a b)).length = (M19.pl a b (cm a b)).length := by
      unfold M19.gaps
      try dsimp only
      rw [List.length_map, List.length_zip, hll, Nat.min_self]
    -- the greatest gap
    refine ⟨_, rfl, _, rfl, Dl, p3, _, (M19.lat a b (cm a b)).map fun k : Nat => V.int (k : Int), rfl, lst_of e4, lst_of e4b, fun D2 nD2 => lcP (walk_zip (n := (M19.gaps a b (cm a b)).length) (by rw [List.length_map, List.length_map, hll, hgl, Nat.min_self])) (fun i => ((M19.gaps a b (cm a b)).map V.int)[i]?) nD2 (by omega) (fun H s => ⟨lst_of (s _ _ e4), lst_of (s _ _ e4b)⟩) (fun i x H1 H' hi s y Ky Kn hy hn => ?_) (fun H3 s3 e5 => ?_)⟩
    · obtain ⟨T0, x1, x2, rfl, nT, rfl, f1, f2⟩ := y
      dsimp only at f1 f2
      rw [List.getElem?_map] at f1 f2
      obtain ⟨k1, g1, rfl⟩ := Option.map_eq_some_iff.mp f1
      obtain ⟨k2, g2, rfl⟩ := Option.map_eq_some_iff.mp f2
      refine ⟨T0, [.int (k1 : Int), .int (k2 : Int)], rfl, tup_of upd_same, rfl, _, _, rfl, _, _, rfl, rfl, rfl, yes ⟨_, rfl, _, rfl, _, _, rfl, rfl, _, _, rfl, rfl, hy _ _ (same_new nT) ?_⟩⟩
      try dsimp only
      rw [List.getElem?_map]
      unfold M19.gaps
      try dsimp only
      rw [List.getElem?_map, (List.getElem?_zip_eq_some (z := (k1, k2))).mpr ⟨g1, g2⟩]
      rfl
    have e6 : H3 D2 = some (.lst ((M19.gaps a b (cm a b)).map V.int)) := by
      have := fm_self ((M19.gaps a b (cm a b)).map V.int)
      rw [List.length_map] at this
      try dsimp only
      rw [e5, this]
    exact ⟨D2, _, rfl, lst_of e6, by omega, fun m hm hR => q _ m (tt.trans s3) hm hR⟩

theorem ok_law_box (T : Txt K mg) : Cl P w K mg base 1 "_law_box" s_law_box ["_law_script", "_law_k"] (sp_law_box K) := by
  have nd := sc_law_box.nd
  refine Cl.mk' T.d_law_box sc_law_box (fun vs H Q E h => ?_) (fun f cdv A outer s H vs Q E hr h => ?_)
  · obtain ⟨_, _, _, rfl, _⟩ := h
    rfl
  · obtain ⟨s1, ns, k, rfl, hs, hk, q⟩ := h
    refine ⟨_, (pss_cons (ps_set (i := 2) nd rfl (.inl rfl) (pe_op (r := rAddU K) op_addU (pe_op op_mulU pe_int (pv 1)) pe_int))
      (Evl.pss_cut (ps_if (pt_cmpR op_lt (pv 1) (pe_callB (r := rLenU K) cr_lenU (by rfl) T.n_len (by decide +kernel) (pa_cons (pv 0) pa_nil)) (nomark _)) (pss_one (ps_set (i := 2) nd rfl (.inl rfl) (pe_callB call_abs (by rfl) T.n_abs (by decide +kernel) (pa_cons (pe_callTy call_int1 (by rfl) T.n_int (by decide +kernel) (pa_cons (pe_ix (r := rIx K) ix_seq (pv 0) (pv 1) (fun _ _ => rfl)) pa_nil)) pa_nil)))) (pss_one (ps_if (pt_cmpR op_gt (pe_callB (r := rLenU K) cr_lenU (by rfl) T.n_len (by decide +kernel) (pa_cons (pv 0) pa_nil)) pe_int (nomark _)) (pss_one (ps_set (i := 2) nd rfl (.inl rfl) (pe_op (r := rAddU K) op_addU (pv 2) (pe_op op_mulU (pe_op op_mod (pe_callTy call_int1 (by rfl) T.n_int (by decide +kernel) (pa_cons (pe_callB call_abs (by rfl) T.n_abs (by decide +kernel) (pa_cons (pe_callTy call_int1 (by rfl) T.n_int (by decide +kernel) (pa_cons (pe_ix (r := rIx K) ix_seq (pv 0) (pe_op op_mod (pe_callTy call_int1 (by rfl) T.n_int (by decide +kernel) (pa_cons (pv 1) pa_nil)) (pe_callB (r := rLenU K) cr_lenU (by rfl) T.n_len (by decide +kernel) (pa_cons (pv 0) pa_nil))) (fun _ _ => rfl)) pa_nil)) pa_nil)) pa_nil)) pe_int) pe_int)))) pss_nil)))
      (pss_cons (ps_set (i := 3) nd rfl (.inl rfl) (pe_ifExp (pt_cmpR op_ge (pv 2) (pe_op op_pow pe_int pe_int) (nomark _)) (pv 2) pe_int))
      (pss_one (ps_ret (pe_lstN (pa_cons (pv 3) (pa_cons (pe_op (r := rAddU K) op_addU (pe_op op_mod (pe_callTy call_int1 (by rfl) T.n_int (by decide +kernel) (pa_cons (pe_op (r := rAddU K) op_addU (pe_op op_mulU (pe_op op_mod (pe_callTy call_int1 (by rfl) T.n_int (by decide +kernel) (pa_cons (pv 2) pa_nil)) pe_int) pe_int) (pe_op op_mulU pe_int (pv 1))) pa_nil)) pe_int) pe_int) pa_nil)))))))), ?_⟩
    refine ⟨_, rfl, .inl ⟨_, _, rfl, rfl, mulOk_l (by omega), .inl ⟨_, _, rfl, rfl, ?_⟩⟩⟩
    refine ⟨fun σ' H' => ∃ c : Int, 0 ≤ c ∧ σ' = [some (.ref s1), some (.int (k : Int)), some (.int c), none] ∧ H' = H, ?_, fun σ' H' hM => ?_⟩
    · refine ⟨_, rfl, _, rfl, .inr ⟨s1, _, rfl, .inl hs, _, _, rfl, rfl, _, rfl, ite_b (fun hc => ?_) (fun hc => ?_)⟩⟩
      · have hlt : k < ns.length := by
          have := of_decide_eq_true hc
          rw [List.length_map] at this
          omega
        refine ⟨_, rfl, _, rfl, .inl ⟨s1, _, _, .int ns[k], rfl, rfl, hs, ?_, .inl ⟨_, rfl, _, rfl, _, ?_, rfl, rfl⟩⟩⟩
        · refine atI_nat ?_
          try dsimp only
          rw [List.getElem?_map, List.getElem?_eq_getElem hlt]
          rfl
        · split <;> omega
      · refine ⟨_, rfl, .inr ⟨s1, _, rfl, .inl hs, _, _, rfl, rfl, _, rfl, ite_b (fun hc2 => ?_) (fun hc2 => ?_)⟩⟩
        · have h0 : 0 < ns.length := by
            have := of_decide_eq_true hc2
            rw [List.length_map] at this
            omega
          have hm : k % ns.length < ns.length := Nat.mod_lt _ h0
          refine ⟨_, rfl, _, rfl, _, rfl, .inl ⟨_, rfl, _, rfl, .inr ⟨s1, _, rfl, .inl hs, _, _, rfl, rfl, by rw [List.length_map]; omega, .inl ⟨s1, _, _, .int ns[k % ns.length], rfl, rfl, hs, ?_, .inl ⟨_, rfl, _, rfl, .inl ⟨_, rfl, _, _, rfl, rfl, (by first | decide | (dsimp only; decide)), .inl ⟨_, _, rfl, rfl, mulOk_l ?_, .inl ⟨_, _, rfl, rfl, _, ?_, rfl, rfl⟩⟩⟩⟩⟩⟩⟩⟩
          · try dsimp only
            rw [List.length_map, mod_nat]
            refine atI_nat ?_
            try dsimp only
            rw [List.getElem?_map, List.getElem?_eq_getElem hm]
            rfl
          · have h1 := Int.emod_nonneg (if ns[k % ns.length] < 0 then -ns[k % ns.length] else ns[k % ns.length]) (show (2147483587 : Int) ≠ 0 by decide)
            have h2 := Int.emod_lt_of_pos (if ns[k % ns.length] < 0 then -ns[k % ns.length] else ns[k % ns.length]) (show (0 : Int) < 2147483587 by decide)
            omega
          · have h1 := Int.emod_nonneg (if ns[k % ns.length] < 0 then -ns[k % ns.length] else ns[k % ns.length]) (show (2147483587 : Int) ≠ 0 by decide)
            omega
        · exact ⟨_, by omega, rfl, rfl⟩
    obtain ⟨c, hc0, rfl, rfl⟩ := hM
    refine ⟨_, rfl, _, _, rfl, rfl, ⟨by decide, by decide, by decide⟩, _, _, rfl, rfl, _, rfl, ?_⟩
    have key : ∀ g0 : Int, 0 ≤ g0 → tRet (tLstN (tCons (tVar 3) (tCons (tOp (rAddU K) (tOp (rI (fun _ j => 0 < j) fun i j => .int (i % j)) (tCB (fun xs H Q => (∃ i, xs = [.int i] ∧ Q (.int i) H) ∨ ∃ k, xs = [.bl k] ∧ Q (.int (if k then 1 else 0)) H) (tCons (tOp (rAddU K) (tOp rMulU (tOp (rI (fun _ j => 0 < j) fun i j => .int (i % j)) (tCB (fun xs H Q => (∃ i, xs = [.int i] ∧ Q (.int i) H) ∨ ∃ k, xs = [.bl k] ∧ Q (.int (if k then 1 else 0)) H) (tCons (tVar 2) tNil)) (tC (.int 2147483587))) (tC (.int 69091))) (tOp rMulU (tC (.int 739)) (tVar 1))) tNil)) (tC (.int 2147483587))) (tC (.int 1))) tNil))) { nx := fun _ H' => Q .non H', rt := Q } [some (.ref s1), some (.int (k : Int)), some (.int c), some (.int g0)] H' := fun g0 hg => by
      have h1 := Int.emod_nonneg c (show (2147483587 : Int) ≠ 0 by decide)
      have h2 := Int.emod_lt_of_pos c (show (0 : Int) < 2147483587 by decide)
      have h3 := Int.emod_nonneg (c % 2147483587 * 69091 + 739 * (k : Int)) (show (2147483587 : Int) ≠ 0 by decide)
      have h4 := Int.emod_lt_of_pos (c % 2147483587 * 69091 + 739 * (k : Int)) (show (0 : Int) < 2147483587 by decide)
      refine ⟨_, rfl, _, rfl, .inl ⟨_, rfl, _, _, rfl, rfl, (by first | decide | (dsimp only; decide)), .inl ⟨_, _, rfl, rfl, mulOk_l (by omega), _, rfl, .inl ⟨_, _, rfl, rfl, mulOk_l (by omega), .inl ⟨_, _, rfl, rfl, .inl ⟨_, rfl, _, _, rfl, rfl, (by first | decide | (dsimp only; decide)), .inl ⟨_, _, rfl, rfl, small1m (by show 2 ≤ 1000000; decide), fun p G1 np t1 g1 => q _ p t1 np ⟨g0, _, g1, hg, ?_, ?_⟩⟩⟩⟩⟩⟩⟩⟩
      · omega
      · omega
    exact ite_b (fun hc => ⟨_, rfl, key c hc0⟩) (fun hc => key 0 (by decide))

theorem ok_law_take (T : Txt K mg) : Cl P w K mg base 1 "_law_take" s_law_take ["_law_box_here", "_law_many"] sp_law_take := by
  have nd := sc_law_take.nd
  refine Cl.mk' T.d_law_take sc_law_take (fun vs H Q E h => ?_) (fun f cdv A outer s H vs Q E hr h => ?_)
  · obtain ⟨_, _, rfl, _⟩ := h
    rfl
  · obtain ⟨b, m, rfl, hm0, hm1, ⟨g0, s0, eb, hg, hs0, hs1⟩, q⟩ := h
    refine ⟨_, (pss_cons (ps_if (pt_cmpR op_gt (pe_ix (r := rIx K) ix_seq (pv 0) pe_int (fun _ _ => rfl)) pe_int (nomark _)) (pss_cons (ps_set (i := 2) nd rfl (.inl rfl) (pe_op op_mod (pe_callTy call_int1 (by rfl) T.n_int (by decide +kernel) (pa_cons (pe_ix (r := rIx K) ix_seq (pv 0) pe_int (fun _ _ => rfl)) pa_nil)) (pv 1)))
      (pss_cons (ps_asg (pe_op op_fdivW (pe_ix (r := rIx K) ix_seq (pv 0) pe_int (fun _ _ => rfl)) (pv 1)) (pg_sub (pv 0) pe_int set_list))
      (pss_one (ps_ret (pv 2))))) pss_nil)
      (pss_cons (ps_set (i := 3) nd rfl (.inl rfl) (pe_op op_mod (pe_callTy call_int1 (by rfl) T.n_int (by decide +kernel) (pa_cons (pe_op (r := rAddU K) op_addU (pe_op op_mulU (pe_ix (r := rIx K) ix_seq (pv 0) pe_int (fun _ _ => rfl)) pe_int) pe_int) pa_nil)) pe_int))
      (pss_cons (ps_asg (pe_op (r := rAddU K) op_addU (pe_op op_mod (pe_callTy call_int1 (by rfl) T.n_int (by decide +kernel) (pa_cons (pe_op (r := rAddU K) op_addU (pe_op op_mulU (pv 3) pe_int) pe_int) pa_nil)) pe_int) pe_int) (pg_sub (pv 0) pe_int set_list))
      (pss_one (ps_ret (pe_op op_mod (pe_callTy call_int1 (by rfl) T.n_int (by decide +kernel) (pa_cons (pe_op op_fdivW (pe_op (r := rAddU K) op_addU (pe_op op_mulU (pv 3) pe_int) (pe_ix (r := rIx K) ix_seq (pv 0) pe_int (fun _ _ => rfl))) pe_int) pa_nil)) (pv 1))))))), ?_⟩
    refine ⟨_, rfl, .inl ⟨b, _, 0, _, rfl, rfl, lst_of eb, rfl, _, _, rfl, rfl, _, rfl, ite_b (fun hc => ?_) (fun hc => ?_)⟩⟩
    · have h1 := Int.emod_nonneg g0 (show m ≠ 0 by omega)
      have h2 := Int.emod_lt_of_pos g0 hm0
      have h3 : 0 ≤ g0 / m := Int.ediv_nonneg hg (by omega)
      exact ⟨_, rfl, .inl ⟨b, _, 0, _, rfl, rfl, lst_of eb, rfl, .inl ⟨_, rfl, _, rfl, _, _, rfl, rfl, hm0, _, rfl, .inl ⟨b, _, 0, _, rfl, rfl, lst_of eb, rfl, _, rfl, _, _, rfl, rfl, divW hm0 hm1, _, rfl, b, _, 0, 0, rfl, rfl, eb, rfl, _, rfl, q _ _ ⟨SameB.put, _, _, upd_same, h3, hs0, hs1⟩ h1 h2⟩⟩⟩⟩
    have r1 := Int.emod_nonneg (s0 * 40692 + 101) (show (2147483399 : Int) ≠ 0 by decide)
    have r2 := Int.emod_lt_of_pos (s0 * 40692 + 101) (show (0 : Int) < 2147483399 by decide)
    refine ⟨_, rfl, .inl ⟨b, _, 1, _, rfl, rfl, lst_of eb, rfl, .inl ⟨_, _, rfl, rfl, mulOk_l (by omega), .inl ⟨_, _, rfl, rfl, .inl ⟨_, rfl, _, _, rfl, rfl, (by first | decide | (dsimp only; decide)), ?_⟩⟩⟩⟩⟩
    have r3 := Int.emod_nonneg (((s0 * 40692 + 101) % 2147483399) * 40014 + 11) (show (2147483587 : Int) ≠ 0 by decide)
    have r4 := Int.emod_lt_of_pos (((s0 * 40692 + 101) % 2147483399) * 40014 + 11) (show (0 : Int) < 2147483587 by decide)
    refine ⟨_, rfl, .inl ⟨_, _, rfl, rfl, mulOk_l (by omega), .inl ⟨_, _, rfl, rfl, .inl ⟨_, rfl, _, _, rfl, rfl, (by first | decide | (dsimp only; decide)), .inl ⟨_, _, rfl, rfl, _, rfl, b, _, 1, 1, rfl, rfl, eb, rfl, ?_⟩⟩⟩⟩⟩
    have h1 := Int.emod_nonneg ((((s0 * 40692 + 101) % 2147483399) * 2147483629 + ((((s0 * 40692 + 101) % 2147483399) * 40014 + 11) % 2147483587 + 1)) / 8209) (show m ≠ 0 by omega)
    have h2 := Int.emod_lt_of_pos ((((s0 * 40692 + 101) % 2147483399) * 2147483629 + ((((s0 * 40692 + 101) % 2147483399) * 40014 + 11) % 2147483587 + 1)) / 8209) hm0
    exact ⟨_, rfl, .inl ⟨_, _, rfl, rfl, mulOk_l (by omega), _, rfl, .inl ⟨b, _, 1, _, rfl, rfl, lst_of upd_same, rfl, .inl ⟨_, _, rfl, rfl, _, _, rfl, rfl, divW (by decide) (by decide), .inl ⟨_, rfl, _, rfl, _, _, rfl, rfl, hm0, q _ _ ⟨SameB.put, _, _, upd_same, hg, by omega, by omega⟩ h1 h2⟩⟩⟩⟩⟩

theorem ok_law_pick (T : Txt K mg) (c_law_take : Cl P w K mg base 1 "_law_take" s_law_take ["_law_box_here", "_law_many"] sp_law_take) : Cl P w K mg base 2 "_law_pick" s_law_pick ["_law_box_here", "_law_some"] (sp_law_pick K) := by
  have nd := sc_law_pick.nd
  refine Cl.mk' T.d_law_pick sc_law_pick (fun vs H Q E h => ?_) (fun f cdv A outer s H vs Q E hr h => ?_)
  · obtain ⟨_, _, _, rfl, _⟩ := h
    rfl
  · obtain ⟨b, l, xs, rfl, hne, hl, h0, h1, hb, q⟩ := h
    refine ⟨_, (pss_one (ps_ret (pe_ix (r := rIx K) ix_seq (pv 1) (pe_f c_law_take b_law_take hr (by decide) (by rfl) (pa_cons (pv 0) (pa_cons (pe_callB (r := rLenU K) cr_lenU (by rfl) T.n_len (by decide +kernel) (pa_cons (pv 1) pa_nil)) pa_nil))) (fun _ _ => rfl)))), ?_⟩
    refine ⟨_, rfl, _, rfl, _, rfl, .inr ⟨l, xs, rfl, .inl hl, b, _, rfl, by omega, by omega, hb, fun H1 r d r0 r1 => .inl ⟨l, xs, r, xs[r.toNat], rfl, rfl, d.seq hne hl, ?_, q _ _ d (List.getElem_mem _)⟩⟩⟩
    exact at_of (j := r.toNat) (by omega) (List.getElem?_eq_getElem (by omega))

theorem ok_law_word (T : Txt K mg) (c_law_pick : Cl P w K mg base 2 "_law_pick" s_law_pick ["_law_box_here", "_law_some"] (sp_law_pick K)) (c_law_take : Cl P w K mg base 1 "_law_take" s_law_take ["_law_box_here", "_law_many"] sp_law_take) : Cl P w K mg base 3 "_law_word" s_law_word ["_law_box_here"] sp_law_word := by
  have nd := sc_law_word.nd
  refine Cl.mk' T.d_law_word sc_law_word (fun vs H Q E h => ?_) (fun f cdv A outer s H vs Q E hr h => ?_)
  · obtain ⟨_, rfl, _⟩ := h
    rfl
  · obtain ⟨b, rfl, hb, q⟩ := h
    refine ⟨_, (pss_cons (ps_set (i := 1) nd rfl (.inl rfl) (pe_f c_law_pick b_law_pick hr (by decide) (by rfl) (pa_cons (pv 0) (pa_cons (pe_lstN (pa_cons pe_int (pa_cons pe_int (pa_cons pe_int (pa_cons pe_int (pa_cons pe_int (pa_cons pe_int (pa_cons pe_int (pa_cons pe_int pa_nil))))))))) pa_nil))))
      (pss_cons (ps_set (i := 2) nd rfl (.inl rfl) (pe_join pe_str (pe_lc (own := [("_law_k", 3)]) (g := (gName 3)) (tt := tYes) rfl nd (pi_range1 (by rfl) T.n_range (pa_cons (pv 1) pa_nil)) (blkOk_by (by rfl)) (fun _ _ _ _ _ => (pg_name (i := 3) nd rfl (Or.inl rfl))) (fun _ _ _ _ _ => pts_nil) (fun _ _ _ _ _ => (pe_f c_law_pick b_law_pick hr (by decide) (by rfl) (pa_cons (pv 0) (pa_cons (pe_lstN (pa_cons pe_str (pa_cons pe_str (pa_cons pe_str (pa_cons pe_str (pa_cons pe_str pa_nil)))))) pa_nil)))))))
      (pss_one (ps_ret (pe_ifExp (pt_cmpR (r := rEqU K) (op_eqU hr.units) (pe_f c_law_take b_law_take hr (by decide) (by rfl) (pa_cons (pv 0) (pa_cons pe_int pa_nil))) pe_int (nomark _)) (pe_slice (r := rSlU K) sl_U (pe_op op_mulU (pv 2) (pe_f c_law_pick b_law_pick hr (by decide) (by rfl) (pa_cons (pv 0) (pa_cons (pe_lstN (pa_cons pe_int (pa_cons pe_int (pa_cons pe_int (pa_cons pe_int (pa_cons pe_int pa_nil)))))) pa_nil)))) po_none (po_some pe_int)) (pv 2)))))), ?_⟩
    refine ⟨_, rfl, small1m (by decide), fun p G1 np t1 g1 => ⟨b, p, _, rfl, hb.ne np, lst_of g1, by decide, by decide, hb.same t1, fun H1 x d hx => ?_⟩⟩
    have d1 : Dr b H H1 := (Dr.of hb t1).trans d
    obtain ⟨n, rfl, n1, n6⟩ : ∃ n : Nat, x = .int (n : Int) ∧ 1 ≤ n ∧ n ≤ 6 := by
      simp only [List.mem_cons, List.not_mem_nil, or_false] at hx
      rcases hx with h | h | h | h | h | h | h | h <;> subst h
      · exact ⟨1, rfl, by decide, by decide⟩
      · exact ⟨2, rfl, by decide, by decide⟩
      · exact ⟨3, rfl, by decide, by decide⟩
      · exact ⟨2, rfl, by decide, by decide⟩
      · exact ⟨4, rfl, by decide, by decide⟩
      · exact ⟨1, rfl, by decide, by decide⟩
      · exact ⟨5, rfl, by decide, by decide⟩
      · exact ⟨6, rfl, by decide, by decide⟩
    -- the signs
    refine ⟨⟨_, rfl⟩, _, rfl, _, rfl, by omega, by omega, fun Dl nD => lc_it (n := n) walk_range (fun i H' => (Dr b H1 H' ∧ Dl ≠ b) ∧ ∃ ls : List (List Nat), H' Dl = some (.lst ((ls.map S).map V.str)) ∧ ls.length = i ∧ ∀ z ∈ ls, ∃ c, z = [c] ∧ c ∈ [48, 49, 50]) ?_ (fun _ _ _ _ => trivial) (fun i x H2 H' hi p y => ?_) (fun H2 p => ?_)⟩
    · have hne : Dl ≠ b := d1.2.ne nD
      exact ⟨⟨Dr.of d1.2 (same_new nD), hne⟩, [], upd_same, rfl, fun z hz => by cases hz⟩
    · obtain ⟨rfl, rfl⟩ := y
      obtain ⟨⟨d2, hne⟩, ls, e1, e2, e3⟩ := p
      refine ⟨rfl, yes ⟨_, rfl, small1m (by decide), fun p2 G2 np2 t2 g2 => ⟨b, p2, _, rfl, d2.2.ne np2, lst_of g2, by decide, by decide, d2.2.same t2, fun H3 x d3 hx => ?_⟩⟩⟩
      have d4 : Dr b H' H3 := (Dr.of d2.2 t2).trans d3
      obtain ⟨c, rfl, hc⟩ : ∃ c, x = W [c] ∧ c ∈ [48, 49, 50] := by
        rw [str0, str1, str2] at hx
        simp only [List.mem_cons, List.not_mem_nil, or_false] at hx
        exact one_sign (by rcases hx with h | h | h | h | h <;> simp [h])
      have e4 := d4.1 _ _ hne e1
      refine ⟨_, e4, Nat.lt_of_lt_of_le (show _ < 1000 by rw [List.length_map, List.length_map]; omega) (by decide), ⟨⟨?_, ?_⟩, hne⟩, ls ++ [[c]], ?_, by rw [List.length_append, e2]; rfl, fun z hz => ?_⟩
      · exact fun a o n e => by
          by_cases ha : a = Dl
          · subst ha
            rw [nD] at e
            cases e
          · try dsimp only
            rw [upd_ne ha]
            exact d4.1 _ _ n (d2.1 _ _ n e)
      · obtain ⟨g1, s1, e5, r⟩ := d4.2
        exact ⟨g1, s1, by rw [upd_ne hne.symm]; exact e5, r⟩
      · try dsimp only
        rw [upd_same, List.map_append, List.map_append]
        rfl
      · rcases List.mem_append.mp hz with z1 | z1
        · exact e3 z z1
        · exact ⟨c, List.mem_singleton.mp z1, hc⟩
    obtain ⟨⟨d2, hne⟩, ls, e1, e2, e3⟩ := p
    have d3 : Dr b H H2 := d1.trans d2
    have hsz : ((ls.map S).map fun z => z.length).sum = ls.length := by
      try dsimp only
      rw [List.map_map]
      have : ∀ l : List (List Nat), (∀ z ∈ l, ∃ c, z = [c] ∧ c ∈ [48, 49, 50]) → (l.map ((fun z : Str => z.length) ∘ S)).sum = l.length := fun l => by
        induction l with
        | nil => exact fun _ => rfl
        | cons a r ih =>
          intro h
          obtain ⟨c, rfl, _⟩ := h a List.mem_cons_self
          try dsimp only
          rw [List.map_cons, List.sum_cons, ih fun z hz => h z (List.mem_cons_of_mem _ hz), List.length_cons, Nat.add_comm]
          rfl
      exact this ls e3
    have hfl : OkW 6 ls.flatten := by
      have : ∀ l : List (List Nat), (∀ z ∈ l, ∃ c, z = [c] ∧ c ∈ [48, 49, 50]) → l.flatten.length = l.length ∧ ∀ c ∈ l.flatten, c ∈ [48, 49, 50] := fun l => by
        induction l with
        | nil => exact fun _ => ⟨rfl, fun c hc => by cases hc⟩
        | cons a r ih =>
          intro h
          obtain ⟨c, rfl, hc⟩ := h a List.mem_cons_self
          have := ih fun z hz => h z (List.mem_cons_of_mem _ hz)
          refine ⟨by rw [List.flatten_cons, List.length_append, this.1, List.length_cons, Nat.add_comm]; rfl, fun x hx => ?_⟩
          rcases List.mem_append.mp hx with z | z
          · exact List.mem_singleton.mp z ▸ hc
          · exact this.2 x z
      have h := this ls e3
      exact ⟨by omega, by omega, h.2⟩
    refine ⟨_, Dl, ls.map S, rfl, rfl, .inl (lst_of e1), ?_, ?_⟩
    · try dsimp only
      rw [hsz]
      show ls.length + (ls.map S).length * 0 ≤ 16777216
      omega
    try dsimp only
    rw [strE, join_codes]
    -- said again or not
    refine ⟨_, rfl, b, 2, rfl, by decide, by decide, d3.2, fun H3 r d4 r0 r1 => .inl ⟨rfl, _, rfl, ite_b (fun hc => ?_) (fun hc => ⟨_, rfl, q _ _ (d3.trans d4) hfl⟩)⟩⟩
    refine ⟨_, rfl, _, rfl, small1m (by decide), fun p2 G2 np2 t2 g2 => ⟨b, p2, _, rfl, d4.2.ne np2, lst_of g2, by decide, by decide, d4.2.same t2, fun H4 x d5 hx => ?_⟩⟩
    obtain ⟨k, rfl, k1, k6⟩ : ∃ k : Nat, x = .int (k : Int) ∧ 1 ≤ k ∧ k ≤ 6 := by
      simp only [List.mem_cons, List.not_mem_nil, or_false] at hx
      rcases hx with h | h | h | h | h <;> subst h
      · exact ⟨1, rfl, by decide, by decide⟩
      · exact ⟨1, rfl, by decide, by decide⟩
      · exact ⟨2, rfl, by decide, by decide⟩
      · exact ⟨3, rfl, by decide, by decide⟩
      · exact ⟨6, rfl, by decide, by decide⟩
    have hl6 := hfl.2.1
    have hm : ls.flatten.length * k ≤ 6 * 6 := Nat.mul_le_mul hl6 k6
    refine .inr (.inl ⟨S ls.flatten, k, rfl, rfl, by rw [S_len]; omega, by omega, _, rfl, .inl ⟨_, rfl, ?_, ?_⟩⟩)
    · try dsimp only
      rw [S_mul]
      exact S_small (n := 0) (by rw [M19.rep_len, Nat.mul_comm]; omega)
    try dsimp only
    rw [S_mul, show (some 6 : Option Int) = some ((6 : Nat) : Int) from rfl, S_to]
    exact q _ _ ((d3.trans d4).trans ((Dr.of d4.2 t2).trans d5)) ((hfl.rep (by omega)).take (by decide))

theorem ok_law_least (T : Txt K mg) : Cl P w K mg base 1 "_law_least" s_law_least ["_law_word_here"] sp_law_least := by
  have nd := sc_law_least.nd
  refine Cl.mk' T.d_law_least sc_law_least (fun vs H Q E h => ?_) (fun f cdv A outer s H vs Q E hr h => ?_)
  · obtain ⟨_, rfl, _⟩ := h
    rfl
  · obtain ⟨l, rfl, h0, h1, q⟩ := h
    refine ⟨_, (pss_cons (ps_for PassesOwn.never rfl (pi_range2 (by rfl) T.n_range (pa_cons pe_int (pa_cons (pe_callB (r := rLenU K) cr_lenU (by rfl) T.n_len (by decide +kernel) (pa_cons (pv 0) pa_nil)) pa_nil))) (pg_name (i := 1) nd rfl (.inl rfl)) (pss_one (ps_if (PW.pt (pw_and (pt_cmpR (r := rEqU K) (op_eqU hr.units) (pe_op op_mod (pe_callTy call_int1 (by rfl) T.n_int (by decide +kernel) (pa_cons (pe_callB (r := rLenU K) cr_lenU (by rfl) T.n_len (by decide +kernel) (pa_cons (pv 0) pa_nil)) pa_nil)) (pv 1)) pe_int (nomark _)) (pw_and1 (pt_cmpR (r := rEqU K) (op_eqU hr.units) (pe_slice (r := rSlU K) sl_U (pe_op op_mulU (pe_slice (r := rSlU K) sl_U (pv 0) po_none (po_some (pv 1))) (pe_callB (r := rLenU K) cr_lenU (by rfl) T.n_len (by decide +kernel) (pa_cons (pv 0) pa_nil))) po_none (po_some (pe_callB (r := rLenU K) cr_lenU (by rfl) T.n_len (by decide +kernel) (pa_cons (pv 0) pa_nil)))) (pv 0) (nomark _))))) (pss_one (ps_ret (pe_slice (r := rSlU K) sl_U (pv 0) po_none (po_some (pv 1))))) pss_nil)))
      (pss_one (ps_ret (pv 0)))), ?_⟩
    refine ⟨_, rfl, .inl ⟨_, rfl, S_small (n := 0) (by omega), 1, (l.length : Int), rfl, ⟨by decide, by decide, by omega, by omega⟩, ?_⟩⟩
    have en : ((l.length : Int) - 1).toNat = l.length - 1 := by omega
    try dsimp only
    rw [en]
    refine for_range (lo := 1) (n := l.length - 1) (D := { nx := tRet (tVar 0) { nx := fun _ H' => Q .non H', rt := Q }, rt := Q }) (fun i σ' H' => H' = H ∧ (∃ y, σ' = [some (W l), y]) ∧ ∀ s, 1 ≤ s → s < i + 1 → M19.hitB l s = false) ⟨rfl, ⟨none, rfl⟩, fun s a b => by omega⟩ (fun i σ' H' hi p => ?_) (fun σ' H' p => ?_)
    · obtain ⟨rfl, ⟨y, rfl⟩, hb⟩ := p
      have es : (1 : Int) + (i : Int) = ((i + 1 : Nat) : Int) := by omega
      try dsimp only
      rw [es]
      have key : ∀ b1 b2 : Bool, b1 = (l.length % (i + 1) == 0) → b2 = ((List.replicate l.length (l.take (i + 1))).flatten.take l.length == l) → (b1 && b2) = M19.hitB l (i + 1) := fun b1 b2 e1 e2 => by rw [e1, e2]; rfl
      refine ⟨_, rfl, .inl ⟨_, rfl, S_small (n := 0) (by omega), .inl ⟨_, rfl, _, rfl, _, _, rfl, rfl, by omega, .inl ⟨rfl, _, rfl, ite_b (fun hc => ?_) (fun hc => ?_)⟩⟩⟩⟩
      · have e1 : (l.length % (i + 1) == 0) = true := by
          have := V.int.inj (of_decide_eq_true hc)
          rw [S_len, mod_nat] at this
          exact beq_iff_eq.mpr (by omega)
        have hsz : (l.take (i + 1)).length * l.length ≤ 1000 * 1000 := Nat.mul_le_mul (by rw [List.length_take]; omega) h1
        refine ⟨_, rfl, _, rfl, _, rfl, .inl ⟨_, rfl, S_small (n := 0) (by omega), _, rfl, .inl ⟨_, rfl, S_small (n := 0) (by omega), ?_⟩⟩⟩
        try dsimp only
        rw [S_to]
        refine .inr (.inl ⟨S (l.take (i + 1)), l.length, rfl, rfl, by rw [S_len]; omega, by omega, _, rfl, .inl ⟨_, rfl, S_small (n := 0) (by omega), _, rfl, .inl ⟨_, rfl, ?_, ?_⟩⟩⟩)
        · try dsimp only
          rw [S_mul]
          exact S_small (n := 0) (by rw [M19.rep_len, Nat.mul_comm]; omega)
        try dsimp only
        rw [S_mul, S_to]
        refine ⟨_, rfl, .inl ⟨rfl, _, rfl, ite_b (fun hc2 => ?_) (fun hc2 => ?_)⟩⟩
        · rw [W_dec] at hc2
          have hh : M19.hitB l (i + 1) = true := by
            try dsimp only
            rw [← key true true e1.symm hc2.symm]
            rfl
          have ep := M19.first_hit h0 (by omega) hh fun q a b => hb q a b
          refine ⟨_, rfl, _, rfl, _, rfl, .inl ⟨_, rfl, S_small (n := 0) (by omega), ?_⟩⟩
          try dsimp only
          rw [S_to, ep]
          exact q
        · rw [W_dec] at hc2
          refine ⟨rfl, ⟨_, rfl⟩, fun s a b => ?_⟩
          by_cases z : s = i + 1
          · subst z
            try dsimp only
            rw [← key true false e1.symm hc2.symm]
            rfl
          · exact hb s a (by omega)
      · have e1 : (l.length % (i + 1) == 0) = false := by
          have := of_decide_eq_false hc
          dsimp only at this
          rw [S_len, mod_nat] at this
          refine beq_eq_false_iff_ne.mpr fun z => this ?_
          try dsimp only
          rw [z]
          rfl
        refine ⟨rfl, ⟨_, rfl⟩, fun s a b => ?_⟩
        by_cases z : s = i + 1
        · subst z
          unfold M19.hitB
          try dsimp only
          rw [e1, Bool.false_and]
        · exact hb s a (by omega)
    · obtain ⟨rfl, ⟨y, rfl⟩, hb⟩ := p
      have ep : M19.per l = l.length := by
        have h2 := M19.per_le h0
        rcases Nat.lt_or_ge (M19.per l) l.length with z | z
        · have := hb _ (M19.per_pos h0) (by omega)
          rw [M19.hit_per h0] at this
          cases this
        · omega
      refine ⟨_, rfl, ?_⟩
      unfold M19.lt at q
      rw [ep, List.take_length] at q
      exact q

theorem ok_law_long (T : Txt K mg) : Cl P w K mg base 1 "_law_long" s_law_long ["_law_text", "_law_many"] sp_law_long := by
  have nd := sc_law_long.nd
  refine Cl.mk' T.d_law_long sc_law_long (fun vs H Q E h => ?_) (fun f cdv A outer s H vs Q E hr h => ?_)
  · obtain ⟨_, _, rfl, _⟩ := h
    rfl
  · obtain ⟨l, n, rfl, h0, h1, q⟩ := h
    refine ⟨_, (pss_one (ps_ret (pe_slice (r := rSlU K) sl_U (pe_op op_mulU (pv 0) (pv 1)) po_none (po_some (pv 1))))), ?_⟩
    have hm : l.length * n ≤ 100 * 10000 := Nat.mul_le_mul h0 h1
    refine ⟨_, rfl, _, rfl, .inr (.inl ⟨S l, n, rfl, rfl, by rw [S_len]; omega, by omega, _, rfl, _, rfl, .inl ⟨_, rfl, ?_, ?_⟩⟩)⟩
    · try dsimp only
      rw [S_mul]
      exact S_small (n := 0) (by rw [M19.rep_len, Nat.mul_comm]; omega)
    try dsimp only
    rw [S_mul, S_to]
    exact q

theorem ok_law_run (T : Txt K mg) : Cl P w K mg base 1 "_law_run" s_law_run ["_law_one", "_law_other"] sp_law_run := by
  have nd := sc_law_run.nd
  refine Cl.mk' T.d_law_run sc_law_run (fun vs H Q E h => ?_) (fun f cdv A outer s H vs Q E hr h => ?_)
  · obtain ⟨_, _, rfl, _⟩ := h
    rfl
  · obtain ⟨a, b, rfl, hab, hl, q⟩ := h
    refine ⟨_, (pss_cons (ps_asg (pe_tupN (pa_cons pe_int (pa_cons pe_int pa_nil))) (pg_tup rfl (pgs_cons (pg_name (i := 2) nd rfl (.inl rfl)) (pgs_cons (pg_name (i := 3) nd rfl (.inl rfl)) pgs_nil))))
      (pss_cons (ps_for PassesOwn.never rfl (pi_range1 (by rfl) T.n_range (pa_cons (pe_callB (r := rLenU K) cr_lenU (by rfl) T.n_len (by decide +kernel) (pa_cons (pv 0) pa_nil)) pa_nil)) (pg_name (i := 4) nd rfl (.inl rfl)) (pss_cons (ps_set (i := 3) nd rfl (.inl rfl) (pe_ifExp (pt_cmpR (r := rEqU K) (op_eqU hr.units) (pe_ix (r := rIx K) ix_seq (pv 0) (pv 4) (fun _ _ => rfl)) (pe_ix (r := rIx K) ix_seq (pv 1) (pv 4) (fun _ _ => rfl)) (nomark _)) (pe_op (r := rAddU K) op_addU (pv 3) pe_int) pe_int))
      (pss_one (ps_set (i := 2) nd rfl (.inl rfl) (pe_callB (call_max2 rfl) (by rfl) T.n_max (by decide +kernel) (pa_cons (pv 2) (pa_cons (pv 3) pa_nil)))))))
      (pss_one (ps_ret (pv 2))))), ?_⟩
    refine ⟨small1m (by decide), fun p1 G1 np1 t1 g1 => ⟨p1, _, rfl, tup_of g1, rfl, _, _, rfl, _, _, rfl, rfl, ?_⟩⟩
    refine ⟨_, rfl, .inl ⟨_, rfl, S_small (n := 0) (by omega), _, rfl, by rw [S_len]; omega, by rw [S_len]; omega, ?_⟩⟩
    refine for_range (n := a.length) (fun i σ' H' => H' = G1 ∧ ∃ y, σ' = [some (W a), some (W b), some (.int ((M19.runS (fun k => a.getD k 0 == b.getD k 0) i).1 : Int)), some (.int ((M19.runS (fun k => a.getD k 0 == b.getD k 0) i).2 : Int)), y]) ⟨rfl, none, rfl⟩ (fun i σ' H' hi p => ?_) (fun σ' H' p => ?_)
    · obtain ⟨rfl, y, rfl⟩ := p
      try dsimp only
      rw [Int.zero_add]
      refine ⟨_, rfl, _, rfl, .inr (.inr ⟨_, _, _, rfl, rfl, S_small (n := 0) (by omega), S_at hi, _, rfl, _, rfl, .inr (.inr ⟨_, _, _, rfl, rfl, S_small (n := 0) (by omega), S_at (by omega), .inl ⟨rfl, _, rfl, ?_⟩⟩)⟩)⟩
      have e1 : ∀ x y : Nat, decide (V.str ⟨#[x]⟩ = V.str ⟨#[y]⟩) = (x == y) := W1_dec
      try dsimp only
      rw [e1]
      generalize hr : M19.runS (fun k => a.getD k 0 == b.getD k 0) i = r
      have er : M19.runS (fun k => a.getD k 0 == b.getD k 0) (i + 1) = (if (if (a.getD i 0 == b.getD i 0) = true then r.2 + 1 else 0) > r.1 then (if (a.getD i 0 == b.getD i 0) = true then r.2 + 1 else 0) else r.1, if (a.getD i 0 == b.getD i 0) = true then r.2 + 1 else 0) := by
        show (let now := if (a.getD i 0 == b.getD i 0) = true then (M19.runS (fun k => a.getD k 0 == b.getD k 0) i).2 + 1 else 0; (if now > (M19.runS (fun k => a.getD k 0 == b.getD k 0) i).1 then now else (M19.runS (fun k => a.getD k 0 == b.getD k 0) i).1, now)) = _
        try dsimp only
        rw [hr]
      try dsimp only
      rw [er]
      cases hc : (a.getD i 0 == b.getD i 0) with
      | true =>
        refine iteT ⟨_, rfl, .inl ⟨_, _, rfl, rfl, ?_⟩⟩
        refine ⟨_, rfl, _, rfl, _, _, rfl, rfl, some (.int (i : Int)), ?_⟩
        simp only [if_true]
        by_cases h : r.2 + 1 > r.1
        · try dsimp only
          rw [if_pos h, if_pos (show ((r.2 : Int) + 1 > (r.1 : Int)) by omega)]
          rfl
        · try dsimp only
          rw [if_neg h, if_neg (show ¬ ((r.2 : Int) + 1 > (r.1 : Int)) by omega)]
          rfl
      | false =>
        refine iteF ?_
        refine ⟨_, rfl, _, rfl, _, _, rfl, rfl, some (.int (i : Int)), ?_⟩
        simp only [Bool.false_eq_true, if_false]
        by_cases h : 0 > r.1
        · omega
        · try dsimp only
          rw [if_neg h, if_neg (show ¬ ((0 : Int) > (r.1 : Int)) by omega)]
          rfl
    · obtain ⟨rfl, y, rfl⟩ := p
      exact ⟨_, rfl, q _ t1⟩

theorem ok_law_is (T : Txt K mg) (c_law_least : Cl P w K mg base 1 "_law_least" s_law_least ["_law_word_here"] sp_law_least) (c_law_pick : Cl P w K mg base 2 "_law_pick" s_law_pick ["_law_box_here", "_law_some"] (sp_law_pick K)) (c_is_pattern : Cl P w K mg base 2 "is_pattern" s_is_pattern ["value"] (sp_is_pattern K)) : Cl P w K mg base 3 "_law_is" s_law_is ["_law_box_here", "_law_word_here"] sp_law_is := by
  have nd := sc_law_is.nd
  refine Cl.mk' T.d_law_is sc_law_is (fun vs H Q E h => ?_) (fun f cdv A outer s H vs Q E hr h => ?_)
  · obtain ⟨_, _, rfl, _⟩ := h
    rfl
  · obtain ⟨b, l, rfl, hb, hl, q⟩ := h
    refine ⟨_, (pss_cons (ps_set (i := 2) nd rfl (.inl rfl) (pe_cmpR (r := rEqU K) (op_eqU hr.units) (pe_f c_law_least b_law_least hr (by decide) (by rfl) (pa_cons (pv 1) pa_nil)) (pv 1) (nomark _)))
      (pss_cons (ps_set (i := 3) nd rfl (.inl rfl) (pe_f c_law_pick b_law_pick hr (by decide) (by rfl) (pa_cons (pv 0) (pa_cons (pe_lstN (pa_cons pe_str (pa_cons pe_int (pa_cons pe_non (pa_cons pe_bl (pa_cons (pe_lstN (pa_cons pe_str pa_nil)) (pa_cons (pe_tupN (pa_cons pe_str pa_nil)) (pa_cons pe_str (pa_cons pe_str (pa_cons (pe_op (r := rAddU K) op_addU (pv 1) pe_str) (pa_cons (pe_op (r := rAddU K) op_addU (pv 1) pe_str) (pa_cons pe_str pa_nil)))))))))))) pa_nil))))
      (pss_one (ps_ret (pe_and (pe_cmpR op_isU (pe_f0 (ks := ["value"]) (g := pick [0]) (gV := pick [0]) c_is_pattern (fun _ _ _ _ _ _ us ws h1 h2 => match us, ws, h1, h2 with | [], [_], _, _ => rfl) (pick_rel _) hr (by decide) (by rfl) (pk_cons (pv 3) pk_nil)) pe_bl (nomark _)) (pe_one (pe_cmpR (r := rEqU K) (op_eqU hr.units) (pe_lstN (pa_cons (pe_cmpR op_isU (pe_f c_is_pattern b_is_pattern hr (by decide) (by rfl) (pa_cons (pv 1) pa_nil)) pe_bl (nomark _)) (pa_cons (pe_cmpR op_isU (pe_f c_is_pattern b_is_pattern hr (by decide) (by rfl) (pa_cons (pv 1) pa_nil)) pe_bl (nomark _)) pa_nil))) (pe_lstN (pa_cons (pv 2) (pa_cons (pe_not (pv 2)) pa_nil))) (nomark _)))))))), ?_⟩
    have h0 := hl.1
    have h1 := hl.2.1
    refine ⟨_, rfl, l, rfl, h0, by omega, _, rfl, .inl ⟨rfl, ?_⟩⟩
    try dsimp only
    rw [W_dec]
    -- the values
    refine ⟨_, rfl, small1m (by decide), fun p1 G1 np1 t1 g1 => ⟨small1m (by decide), fun p2 G2 np2 t2 g2 => ?_⟩⟩
    refine ⟨_, rfl, .inr (.inl ⟨_, _, rfl, rfl, small1m (by rw [S_len, strSp, S_len]; show _ + 1 ≤ _; omega), _, rfl, .inr (.inl ⟨_, _, rfl, rfl, small1m (by rw [S_len, str3, S_len]; show _ + 1 ≤ _; omega), small1m (by show 11 ≤ 1000000; decide), fun p3 G3 np3 t3 g3 => ?_⟩)⟩)⟩
    have t4 := (t1.trans t2).trans t3
    refine ⟨b, p3, _, rfl, (hb.same (t1.trans t2)).ne np3, lst_of g3, by show 0 < 11; decide, by show 11 ≤ 1000; decide, hb.same t4, fun H4 x d4 hx => ?_⟩
    have e1 : H4 p1 = some (.lst [.str (Str.ofString "0")]) := d4.1 _ _ (hb.ne np1) (t3 _ _ (t2 _ _ g1))
    have e2 : H4 p2 = some (.tup [.str (Str.ofString "01")]) := d4.1 _ _ ((hb.same t1).ne np2) (t3 _ _ g2)
    have d0 : Dr b H H4 := (Dr.of hb t4).trans d4
    -- what is none is none
    have hx2 : (∃ t : String, TyX K H4 x (.type t) ∧ kitB t "str" = some false) ∨ ∃ m : List Nat, x = W m ∧ m.length ≤ 1000 ∧ isPat m = false := by
      rw [strE, str3, str0a, strSp, str01x, S_app, S_app] at hx
      simp only [List.mem_cons, List.not_mem_nil, or_false] at hx
      rcases hx with h | h | h | h | h | h | h | h | h | h | h <;> subst h
      · exact .inr ⟨[], rfl, by decide, by decide⟩
      · exact .inl ⟨"int", .base (.int _), by decide +kernel⟩
      · exact .inl ⟨"NoneType", .base .non, by decide +kernel⟩
      · exact .inl ⟨"bool", .base (.bl _), by decide +kernel⟩
      · exact .inl ⟨"list", .base (.lst e1), by decide +kernel⟩
      · exact .inl ⟨"tuple", .base (.tup e2), by decide +kernel⟩
      · exact .inr ⟨_, rfl, by decide, isPat_no (c := 51) (by decide) (by decide)⟩
      · exact .inr ⟨_, rfl, by decide, isPat_no (c := 97) (by decide) (by decide)⟩
      · exact .inr ⟨_, rfl, by rw [List.length_append]; show _ + 1 ≤ _; omega, isPat_no (c := 32) (List.mem_append_right _ (by decide)) (by decide)⟩
      · exact .inr ⟨_, rfl, by rw [List.length_append]; show _ + 1 ≤ _; omega, isPat_no (c := 51) (List.mem_append_right _ (by decide)) (by decide)⟩
      · exact .inr ⟨_, rfl, by decide, isPat_no (c := 120) (by decide) (by decide)⟩
    have go : ∀ H5, Same H4 H5 → tAndV (tOp rIsU (tC (.bl false)) (tC (.bl false))) (tOp (rEqU K) (tLstN (tCons (tOp rIsU (tCall (sp_is_pattern K) [] E0 (tCons (tVar 1) tNil)) (tC (.bl true))) (tCons (tOp rIsU (tCall (sp_is_pattern K) [] E0 (tCons (tVar 1) tNil)) (tC (.bl false))) tNil))) (tLstN (tCons (tVar 2) (tCons (tNotV (tVar 2)) tNil)))) [some (.ref b), some (W l), some (.bl (M19.lt l == l)), some x] H5 Q := fun H5 s5 => by
      refine .inr ⟨_, _, rfl, rfl, _, rfl, iteT ?_⟩
      refine ⟨_, rfl, W l, rfl, .inr ⟨l, rfl, by omega, fun H6 s6 => .inr ⟨_, _, rfl, rfl, _, rfl, W l, rfl, .inr ⟨l, rfl, by omega, fun H7 s7 => .inr ⟨_, _, rfl, rfl, small1m (by show 2 ≤ 1000000; decide), fun p5 G5 np5 t5 g5 => ⟨_, rfl, _, rfl, _, rfl, small1m (by show 2 ≤ 1000000; decide), fun p6 G6 np6 t6 g6 => ?_⟩⟩⟩⟩⟩⟩
      have s8 := ((s5.trans s6).trans s7).trans (t5.trans t6)
      refine .inr ⟨.list [.bool (decide (isPat l = true)), .bool (decide (isPat l = false))], .list [.bool (M19.lt l == l), .bool (!(M19.lt l == l))], ?_, ?_, rfl, rfl, ?_⟩
      · exact .lst (lst_of (t6 _ _ g5)) (.cons (.bl _) (.cons (.bl _) .nil))
      · exact .lst (lst_of g6) (.cons (.bl _) (.cons (.bl _) .nil))
      have e := isPat_ok hl
      try dsimp only
      rw [e]
      have e2 : PyData.eqv (.list [.bool (decide ((M19.lt l == l) = true)), .bool (decide ((M19.lt l == l) = false))]) (.list [.bool (M19.lt l == l), .bool (!(M19.lt l == l))]) = true := by
        cases (M19.lt l == l) <;> decide +kernel
      try dsimp only
      rw [e2]
      exact q _ (d0.then s8)
    rcases hx2 with ⟨t, ht, hk⟩ | ⟨m, rfl, hm, hp⟩
    · exact ⟨_, rfl, rfl, rfl, x, rfl, .inl ⟨t, ht, hk, go H4 (Same.refl _)⟩⟩
    · exact ⟨_, rfl, rfl, rfl, _, rfl, .inr ⟨m, rfl, hm, fun H5 s5 => by rw [hp]; exact go H5 s5⟩⟩

theorem ok_law_pair_right (T : Txt K mg) (c_common_run : Cl P w K mg base 3 "common_run" s_common_run ["one", "other"] sp_common_run) (c_law_run : Cl P w K mg base 1 "_law_run" s_law_run ["_law_one", "_law_other"] sp_law_run) (c_law_long : Cl P w K mg base 1 "_law_long" s_law_long ["_law_text", "_law_many"] sp_law_long) : Cl P w K mg base 4 "_law_pair_right" s_law_pair_right ["_law_one", "_law_other"] sp_law_pair_right := by
  have nd := sc_law_pair_right.nd
  refine Cl.mk' T.d_law_pair_right sc_law_pair_right (fun vs H Q E h => ?_) (fun f cdv A outer s H vs Q E hr h => ?_)
  · obtain ⟨_, _, rfl, _⟩ := h
    rfl
  · obtain ⟨a, b, rfl, ha0, ha1, hb0, hb1, pa, pb, q⟩ := h
    refine ⟨_, (pss_cons (ps_set (i := 2) nd rfl (.inl rfl) (pe_f c_common_run b_common_run hr (by decide) (by rfl) (pa_cons (pv 0) (pa_cons (pv 1) pa_nil))))
      (pss_cons (ps_if (pt_cmpR (r := rEqU K) (op_eqU hr.units) (pv 0) (pv 1) (nomark _)) (pss_one (ps_ret (pe_and (pe_cmpR op_isU (pv 2) pe_non (nomark _)) (pe_one (pe_cmpR op_isU (pe_f0 (ks := ["other", "one"]) (g := pick [1, 0]) (gV := pick [1, 0]) c_common_run (fun _ _ _ _ _ _ us ws h1 h2 => match us, ws, h1, h2 with | [], [_, _], _, _ => rfl) (pick_rel _) hr (by decide) (by rfl) (pk_cons (pv 0) (pk_cons (pv 1) pk_nil))) pe_non (nomark _)))))) pss_nil)
      (pss_cons (ps_set (i := 3) nd rfl (.inl rfl) (pe_op op_mulU (pe_op op_mulU pe_int (pe_callB (r := rLenU K) cr_lenU (by rfl) T.n_len (by decide +kernel) (pa_cons (pv 0) pa_nil))) (pe_callB (r := rLenU K) cr_lenU (by rfl) T.n_len (by decide +kernel) (pa_cons (pv 1) pa_nil))))
      (pss_one (ps_ret (pe_and (pe_cmpR (r := rEqU K) (op_eqU hr.units) (pv 2) (pe_f c_law_run b_law_run hr (by decide) (by rfl) (pa_cons (pe_f c_law_long b_law_long hr (by decide) (by rfl) (pa_cons (pv 0) (pa_cons (pv 3) pa_nil))) (pa_cons (pe_f c_law_long b_law_long hr (by decide) (by rfl) (pa_cons (pv 1) (pa_cons (pv 3) pa_nil))) pa_nil))) (nomark _)) (pe_one (pe_not (pe_callB (r := rIsi K) call_isi (by rfl) T.n_isinstance (by decide +kernel) (pa_cons (pv 2) (pa_cons (pe_bltn (v := .ty "bool") (by rfl) T.n_bool (by decide +kernel) rfl) pa_nil))))))))))), ?_⟩
    refine ⟨_, rfl, _, rfl, a, b, rfl, ha0, by omega, hb0, by omega, fun e => ?_, fun hne => ⟨pa, pb, fun H1 R s1 hm hR => ?_⟩⟩
    · -- alike
      refine ⟨_, rfl, _, rfl, .inl ⟨rfl, _, rfl, ite_b (fun hc => ?_) (fun hc => absurd (by rw [e]) (of_decide_eq_false hc))⟩⟩
      refine ⟨_, rfl, .inl ⟨rfl, _, rfl, iteT ?_⟩⟩
      exact ⟨_, rfl, _, rfl, rfl, rfl, b, a, rfl, hb0, by omega, ha0, by omega, fun _ => .inl ⟨rfl, q H (Same.refl _)⟩, fun z => absurd e.symm z⟩
    refine ⟨_, rfl, _, rfl, .inl ⟨rfl, _, rfl, ite_b (fun hc => absurd (W_inj (of_decide_eq_true hc)) hne) (fun _ => ?_)⟩⟩
    have hN : 3 * a.length * b.length ≤ 3 * 50 * 50 := Nat.mul_le_mul (Nat.mul_le_mul_left 3 ha1) hb1
    have ea : (3 : Int) * (((S a).length : Nat) : Int) * (((S b).length : Nat) : Int) = ((3 * a.length * b.length : Nat) : Int) := by
      try dsimp only
      rw [S_len, S_len, Int.natCast_mul, Int.natCast_mul]
      rfl
    refine ⟨_, rfl, .inl ⟨_, rfl, S_small (n := 0) (by omega), .inl ⟨_, _, rfl, rfl, mulOk_l (by decide), _, rfl, .inl ⟨_, rfl, S_small (n := 0) (by omega), .inl ⟨_, _, rfl, rfl, mulOk_l (by rw [S_len]; omega), ?_⟩⟩⟩⟩⟩
    try dsimp only
    rw [ea]
    have la : ((List.replicate (3 * a.length * b.length) a).flatten.take (3 * a.length * b.length)).length = 3 * a.length * b.length := by
      try dsimp only
      rw [List.length_take, M19.rep_len]
      exact Nat.min_eq_left (Nat.le_mul_of_pos_right _ ha0)
    have lb : ((List.replicate (3 * a.length * b.length) b).flatten.take (3 * a.length * b.length)).length = 3 * a.length * b.length := by
      try dsimp only
      rw [List.length_take, M19.rep_len]
      exact Nat.min_eq_left (Nat.le_mul_of_pos_right _ hb0)
    refine ⟨_, rfl, _, rfl, _, rfl, a, _, rfl, by omega, by omega, _, rfl, _, rfl, b, _, rfl, by omega, by omega, _, _, rfl, la.trans lb.symm, by omega, fun H2 s2 => .inl ⟨rfl, ?_⟩⟩
    have hP : 0 < cm a b := M19.cm_pos ha0 hb0
    have da : M19.Pd a (cm a b) := M19.pd_of_dvd M19.cm_dvd_l
    have db : M19.Pd b (cm a b) := M19.pd_of_dvd (M19.cm_dvd_r _ _)
    have hpl : M19.pl a b (cm a b) ≠ [] := by
      obtain ⟨k, h1, h2⟩ := M19.parts ha0 hb0 pa pb hne da db hP
      exact List.ne_nil_of_mem (M19.mem_pl.mpr ⟨h1, h2⟩)
    have hc : cm a b ≤ a.length * b.length := M19.cm_le _ _
    have eR := M19.run_is da db hP hpl hm hR (N := 3 * a.length * b.length) (by
      try dsimp only
      rw [Nat.mul_assoc]
      omega)
    have ec : M19.runS (fun k => ((List.replicate (3 * a.length * b.length) a).flatten.take (3 * a.length * b.length)).getD k 0 == ((List.replicate (3 * a.length * b.length) b).flatten.take (3 * a.length * b.length)).getD k 0) (3 * a.length * b.length) = M19.runS (M19.agB a b) (3 * a.length * b.length) := runS_congr _ fun k hk => by
      have h1 : k < 3 * a.length * b.length * a.length := Nat.lt_of_lt_of_le hk (Nat.le_mul_of_pos_right _ ha0)
      have h2 : k < 3 * a.length * b.length * b.length := Nat.lt_of_lt_of_le hk (Nat.le_mul_of_pos_right _ hb0)
      try dsimp only
      rw [M19.getD_take hk, M19.getD_take hk, M19.rep_getD _ _ _ h1, M19.rep_getD _ _ _ h2]
      rfl
    try dsimp only
    rw [la, ec, ← eR, decide_eq_true rfl]
    exact ⟨_, rfl, iteT ⟨_, rfl, .int R, .ty "bool", .type "int", .type "bool", false, rfl, .ty _, .base (.int _), kit_ty (by decide +kernel), _, rfl, q _ (s1.trans s2)⟩⟩

theorem ok_law (T : Txt K mg) (c_law_box : Cl P w K mg base 1 "_law_box" s_law_box ["_law_script", "_law_k"] (sp_law_box K)) (c_law_word : Cl P w K mg base 3 "_law_word" s_law_word ["_law_box_here"] sp_law_word) (c_least_text : Cl P w K mg base 1 "least_text" s_least_text ["word"] sp_least_text) (c_law_least : Cl P w K mg base 1 "_law_least" s_law_least ["_law_word_here"] sp_law_least) (c_law_pick : Cl P w K mg base 2 "_law_pick" s_law_pick ["_law_box_here", "_law_some"] (sp_law_pick K)) (c_law_take : Cl P w K mg base 1 "_law_take" s_law_take ["_law_box_here", "_law_many"] sp_law_take) (c_pattern_sign : Cl P w K mg base 1 "pattern_sign" s_pattern_sign ["pattern", "place"] sp_pattern_sign) (c_turned : Cl P w K mg base 1 "turned" s_turned ["pattern", "by"] sp_turned) (c_law_is : Cl P w K mg base 3 "_law_is" s_law_is ["_law_box_here", "_law_word_here"] sp_law_is) (c_law_pair_right : Cl P w K mg base 4 "_law_pair_right" s_law_pair_right ["_law_one", "_law_other"] sp_law_pair_right) : Cl P w K mg base 5 "law" s_law ["_law_script"] (sp_law K) := by
  have nd := sc_law.nd
  refine Cl.mk' T.d_law sc_law (fun vs H Q E h => ?_) (fun f cdv A outer s H vs Q E hr h => ?_)
  · obtain ⟨_, _, rfl, _⟩ := h
    rfl
  · obtain ⟨s0, ns, rfl, hs, q⟩ := h
    refine ⟨_, (pss_cons (ps_set (i := 1) nd rfl (.inl rfl) (pe_f c_law_box b_law_box hr (by decide) (by rfl) (pa_cons (pv 0) (pa_cons pe_int pa_nil))))
      (pss_cons (ps_set (i := 2) nd rfl (.inl rfl) (pe_f c_law_word b_law_word hr (by decide) (by rfl) (pa_cons (pv 1) pa_nil)))
      (pss_cons (ps_set (i := 3) nd rfl (.inl rfl) (pe_f c_least_text b_least_text hr (by decide) (by rfl) (pa_cons (pv 2) pa_nil)))
      (pss_cons (ps_if (PW.pt (pw_or (pt_cmpR (r := rNeU K) (op_neU hr.units) (pv 3) (pe_f c_law_least b_law_least hr (by decide) (by rfl) (pa_cons (pv 2) pa_nil)) (nomark _)) (pw_or (pt_not (pt_val (pe_callB (r := rIsi K) call_isi (by rfl) T.n_isinstance (by decide +kernel) (pa_cons (pv 3) (pa_cons (pe_bltn (v := .ty "str") (by rfl) T.n_str (by decide +kernel) rfl) pa_nil))))) (pw_or1 (pt_cmpR (r := rNeU K) (op_neU hr.units) (pe_f0 (ks := ["word"]) (g := pick [0]) (gV := pick [0]) c_least_text (fun _ _ _ _ _ _ us ws h1 h2 => match us, ws, h1, h2 with | [], [_], _, _ => rfl) (pick_rel _) hr (by decide) (by rfl) (pk_cons (pe_op (r := rAddU K) op_addU (pv 2) (pv 2)) pk_nil)) (pv 3) (nomark _)))))) (pss_one (ps_ret pe_bl)) pss_nil)
      (pss_cons (ps_set (i := 4) nd rfl (.inl rfl) (pe_f c_law_box b_law_box hr (by decide) (by rfl) (pa_cons (pv 0) (pa_cons pe_int pa_nil))))
      (pss_cons (ps_set (i := 5) nd rfl (.inl rfl) (pe_op (r := rAddU K) op_addU (pe_slice (r := rSlU K) sl_U (pv 2) po_none (po_some (pe_op op_sub (pe_callB (r := rLenU K) cr_lenU (by rfl) T.n_len (by decide +kernel) (pa_cons (pv 2) pa_nil)) pe_int))) (pe_f c_law_pick b_law_pick hr (by decide) (by rfl) (pa_cons (pv 4) (pa_cons (pe_lstN (pa_cons pe_str (pa_cons pe_str (pa_cons pe_str pa_nil)))) pa_nil)))))
      (pss_cons (ps_set (i := 6) nd rfl (.inl rfl) (pe_f c_least_text b_least_text hr (by decide) (by rfl) (pa_cons (pe_f c_law_pick b_law_pick hr (by decide) (by rfl) (pa_cons (pv 4) (pa_cons (pe_lstN (pa_cons (pe_f c_law_word b_law_word hr (by decide) (by rfl) (pa_cons (pv 4) pa_nil)) (pa_cons (pv 5) (pa_cons (pe_op (r := rAddU K) op_addU (pv 3) (pe_slice (r := rSlU K) sl_U (pv 2) po_none (po_some pe_int))) (pa_cons (pv 2) (pa_cons (pe_op (r := rAddU K) op_addU (pv 5) pe_str) pa_nil)))))) pa_nil))) pa_nil)))
      (pss_cons (ps_set (i := 7) nd rfl (.inl rfl) (pe_f c_law_pick b_law_pick hr (by decide) (by rfl) (pa_cons (pv 4) (pa_cons (pe_lstN (pa_cons pe_int (pa_cons pe_int (pa_cons (pe_f c_law_take b_law_take hr (by decide) (by rfl) (pa_cons (pv 4) (pa_cons pe_int pa_nil))) (pa_cons (pe_f c_law_take b_law_take hr (by decide) (by rfl) (pa_cons (pv 4) (pa_cons (pe_op (r := rAddU K) op_addU (pe_op op_pow pe_int pe_int) pe_int) pa_nil))) pa_nil))))) pa_nil))))
      (pss_cons (ps_set (i := 8) nd rfl (.inl rfl) (pe_ix (r := rIx K) ix_seq (pv 3) (pe_op op_mod (pe_callTy call_int1 (by rfl) T.n_int (by decide +kernel) (pa_cons (pv 7) pa_nil)) (pe_callB (r := rLenU K) cr_lenU (by rfl) T.n_len (by decide +kernel) (pa_cons (pv 3) pa_nil))) (fun _ _ => rfl)))
      (pss_cons (ps_if (PW.pt (pw_or (pt_cmpR (r := rNeU K) (op_neU hr.units) (pe_f c_pattern_sign b_pattern_sign hr (by decide) (by rfl) (pa_cons (pv 3) (pa_cons (pv 7) pa_nil))) (pv 8) (nomark _)) (pw_or1 (pt_cmpR (r := rNeU K) (op_neU hr.units) (pe_f0 (ks := ["place", "pattern"]) (g := pick [1, 0]) (gV := pick [1, 0]) c_pattern_sign (fun _ _ _ _ _ _ us ws h1 h2 => match us, ws, h1, h2 with | [], [_, _], _, _ => rfl) (pick_rel _) hr (by decide) (by rfl) (pk_cons (pv 7) (pk_cons (pv 3) pk_nil))) (pv 8) (nomark _))))) (pss_one (ps_ret pe_bl)) pss_nil)
      (pss_cons (ps_set (i := 9) nd rfl (.inl rfl) (pe_op op_mod (pe_callTy call_int1 (by rfl) T.n_int (by decide +kernel) (pa_cons (pv 7) pa_nil)) (pe_callB (r := rLenU K) cr_lenU (by rfl) T.n_len (by decide +kernel) (pa_cons (pv 3) pa_nil))))
      (pss_cons (ps_if (PW.pt (pw_or (pt_cmpR (r := rNeU K) (op_neU hr.units) (pe_f c_turned b_turned hr (by decide) (by rfl) (pa_cons (pv 3) (pa_cons (pv 7) pa_nil))) (pe_op (r := rAddU K) op_addU (pe_slice (r := rSlU K) sl_U (pv 3) (po_some (pv 9)) po_none) (pe_slice (r := rSlU K) sl_U (pv 3) po_none (po_some (pv 9)))) (nomark _)) (pw_or1 (pt_cmpR (r := rNeU K) (op_neU hr.units) (pe_f0 (ks := ["pattern", "by"]) (g := pick [0, 1]) (gV := pick [0, 1]) c_turned (fun _ _ _ _ _ _ us ws h1 h2 => match us, ws, h1, h2 with | [], [_, _], _, _ => rfl) (pick_rel _) hr (by decide) (by rfl) (pk_cons (pv 3) (pk_cons (pv 9) pk_nil))) (pe_op (r := rAddU K) op_addU (pe_slice (r := rSlU K) sl_U (pv 3) (po_some (pv 9)) po_none) (pe_slice (r := rSlU K) sl_U (pv 3) po_none (po_some (pv 9)))) (nomark _))))) (pss_one (ps_ret pe_bl)) pss_nil)
      (pss_cons (ps_set (i := 10) nd rfl (.inl rfl) (pe_f c_law_box b_law_box hr (by decide) (by rfl) (pa_cons (pv 0) (pa_cons pe_int pa_nil))))
      (pss_cons (ps_if (PW.pt (pw_or (pt_not (pt_val (pe_f c_law_is b_law_is hr (by decide) (by rfl) (pa_cons (pv 10) (pa_cons (pv 2) pa_nil))))) (pw_or1 (pt_not (pt_val (pe_f c_law_is b_law_is hr (by decide) (by rfl) (pa_cons (pv 10) (pa_cons (pv 6) pa_nil)))))))) (pss_one (ps_ret pe_bl)) pss_nil)
      (pss_cons (ps_if (pt_not (PW.pt (pw_and (pt_val (pe_f c_law_pair_right b_law_pair_right hr (by decide) (by rfl) (pa_cons (pv 3) (pa_cons (pv 6) pa_nil)))) (pw_and (pt_val (pe_f c_law_pair_right b_law_pair_right hr (by decide) (by rfl) (pa_cons (pv 6) (pa_cons (pv 3) pa_nil)))) (pw_and1 (pt_cmpR (r := rEqU K) (op_eqU hr.units) (pe_f c_least_text b_least_text hr (by decide) (by rfl) (pa_cons (pv 2) pa_nil)) (pv 3) (nomark _))))))) (pss_one (ps_ret pe_bl)) pss_nil)
      (pss_cons (ps_set (i := 11) nd rfl (.inl rfl) (pe_f c_law_box b_law_box hr (by decide) (by rfl) (pa_cons (pv 0) (pa_cons pe_int pa_nil))))
      (pss_cons (ps_if (pt_cmpR op_gt (pe_f c_law_take b_law_take hr (by decide) (by rfl) (pa_cons (pv 11) (pa_cons pe_int pa_nil))) pe_int (nomark _)) (pss_one (ps_ret pe_bl)) pss_nil)
      (pss_cons (ps_set (i := 12) nd rfl (.inl rfl) (pe_op op_mulU (pe_f c_law_pick b_law_pick hr (by decide) (by rfl) (pa_cons (pv 11) (pa_cons (pe_lstN (pa_cons (pv 2) (pa_cons (pv 6) (pa_cons (pe_op (r := rAddU K) op_addU (pv 2) (pv 6)) (pa_cons (pe_op (r := rAddU K) op_addU (pv 2) pe_str) pa_nil))))) pa_nil))) pe_int))
      (pss_cons (ps_par (i := 13) (j := 14) (by rfl) nd rfl rfl (by decide) rfl rfl (pa_cons (pe_slice (r := rSlU K) sl_U (pv 12) po_none (po_some (pe_op (r := rAddU K) op_addU pe_int (pe_f c_law_take b_law_take hr (by decide) (by rfl) (pa_cons (pv 11) (pa_cons pe_int pa_nil)))))) (pa_cons (pe_op (r := rAddU K) op_addU (pe_slice (r := rSlU K) sl_U (pv 12) po_none (po_some (pe_op (r := rAddU K) op_addU pe_int (pe_f c_law_take b_law_take hr (by decide) (by rfl) (pa_cons (pv 11) (pa_cons pe_int pa_nil)))))) (pe_f c_law_pick b_law_pick hr (by decide) (by rfl) (pa_cons (pv 11) (pa_cons (pe_lstN (pa_cons pe_str (pa_cons pe_str (pa_cons pe_str pa_nil)))) pa_nil)))) pa_nil)) (by rfl))
      (pss_cons (ps_if (PW.pt (pw_or (pt_cmpR (r := rNeU K) (op_neU hr.units) (pe_f c_least_text b_least_text hr (by decide) (by rfl) (pa_cons (pv 13) pa_nil)) (pe_f c_law_least b_law_least hr (by decide) (by rfl) (pa_cons (pv 13) pa_nil)) (nomark _)) (pw_or1 (pt_cmpR (r := rNeU K) (op_neU hr.units) (pe_f c_least_text b_least_text hr (by decide) (by rfl) (pa_cons (pv 14) pa_nil)) (pe_f c_law_least b_law_least hr (by decide) (by rfl) (pa_cons (pv 14) pa_nil)) (nomark _))))) (pss_one (ps_ret pe_bl)) pss_nil)
      (pss_one (ps_ret (pe_f c_law_pair_right b_law_pair_right hr (by decide) (by rfl) (pa_cons (pe_f c_law_least b_law_least hr (by decide) (by rfl) (pa_cons (pv 13) pa_nil)) (pa_cons (pe_f c_law_least b_law_least hr (by decide) (by rfl) (pa_cons (pv 14) pa_nil)) pa_nil))))))))))))))))))))))))), ?_⟩
    -- a word
    refine ⟨_, rfl, s0, ns, 0, rfl, hs, by decide, fun H1 b1 t1 f1 i1 => ?_⟩
    refine ⟨_, rfl, b1, rfl, i1, fun H2 w d2 hw => ?_⟩
    have t2 : Same H H2 := dr_same0 t1 f1 d2
    have w0 := hw.1
    have w1 := hw.2.1
    refine ⟨_, rfl, w, rfl, w0, by omega, ?_⟩
    have lw0 := M19.lt_pos w0
    have lw1 : (M19.lt w).length ≤ 6 := hw.lt.2.1
    refine ⟨_, rfl, _, rfl, w, rfl, w0, by omega, .inl ⟨rfl, _, rfl, ite_b (fun hc => ?_) (fun _ => ?_)⟩⟩
    · rw [decide_eq_true rfl] at hc
      cases hc
    refine ⟨_, rfl, _, .ty "str", .type "str", .type "str", true, rfl, .ty _, .base (.str _), kit_ty (by decide +kernel), true, rfl, iteF ?_⟩
    refine ⟨_, rfl, _, rfl, .inr (.inl ⟨_, _, rfl, rfl, small1m (by rw [S_len]; omega), rfl, rfl, w ++ w, by (try dsimp only); rw [S_app]; rfl, by rw [List.length_append]; omega, by rw [List.length_append]; omega, _, rfl, .inl ⟨rfl, _, rfl, ite_b (fun hc => ?_) (fun _ => ?_)⟩⟩)⟩
    · rw [M19.lt_twice w0, decide_eq_true rfl] at hc
      cases hc
    -- another one
    refine ⟨_, rfl, s0, ns, 1, rfl, t2.seq hs, by decide, fun H3 b2 t3 f3 i3 => ?_⟩
    have t03 := t2.trans t3
    have f03 : H b2 = none := free_of t2 f3
    have ew : (((S w).length : Nat) : Int) - 1 = ((w.length - 1 : Nat) : Int) := by
      try dsimp only
      rw [S_len]
      omega
    -- near
    refine ⟨_, rfl, _, rfl, .inl ⟨_, rfl, S_small (n := 0) (by omega), _, _, rfl, rfl, _, rfl, .inl ⟨_, rfl, S_small (n := 0) (by omega), ?_⟩⟩⟩
    try dsimp only
    rw [ew, S_to]
    refine ⟨_, rfl, small1m (by decide), fun p1 G1 np1 u1 g1 => ⟨b2, p1, _, rfl, i3.ne np1, lst_of g1, by decide, by decide, i3.same u1, fun H4 x d4 hx => ?_⟩⟩
    have d4' : Dr b2 H3 H4 := (Dr.of i3 u1).trans d4
    rw [str0, str1, str2] at hx
    obtain ⟨c, rfl, hc⟩ := one_sign (by simpa using hx)
    refine .inr (.inl ⟨_, _, rfl, rfl, small1m (by rw [S_len, List.length_take]; show _ + 1 ≤ _; omega), ?_⟩)
    try dsimp only
    rw [S_app]
    have hnear : OkW 7 (w.take (w.length - 1) ++ [c]) := by
      refine ⟨by rw [List.length_append]; show 0 < _ + 1; omega, by rw [List.length_append, List.length_take]; show _ + 1 ≤ 7; omega, fun z hz => ?_⟩
      rcases List.mem_append.mp hz with z1 | z1
      · exact hw.2.2 z (List.mem_of_mem_take z1)
      · exact List.mem_singleton.mp z1 ▸ hc
    -- the other
    refine ⟨_, rfl, _, rfl, b2, rfl, d4'.2, fun H5 w2 d5 hw2 => ⟨_, rfl, _, rfl, _, rfl, _, rfl, .inl ⟨_, rfl, S_small (n := 0) (by omega), ?_⟩⟩⟩
    try dsimp only
    rw [show (some 1 : Option Int) = some ((1 : Nat) : Int) from rfl, S_to]
    refine .inr (.inl ⟨_, _, rfl, rfl, small1m (by rw [S_len, S_len, List.length_take]; omega), ?_⟩)
    try dsimp only
    rw [S_app]
    refine ⟨_, rfl, _, rfl, .inr (.inl ⟨_, _, rfl, rfl, small1m (by rw [S_len, str0, S_len]; show _ + 1 ≤ _; have := hnear.2.1; omega), small1m (by show 5 ≤ 1000000; decide), fun p2 G2 np2 u2 g2 => ?_⟩)⟩
    have d5' : Dr b2 H3 H5 := d4'.trans d5
    refine ⟨b2, p2, _, rfl, d5'.2.ne np2, lst_of g2, by show 0 < 5; decide, by show 5 ≤ 1000; decide, d5'.2.same u2, fun H6 x d6 hx2 => ?_⟩
    have d6' : Dr b2 H3 H6 := (d5'.then u2).trans d6
    obtain ⟨o0, rfl, ho0⟩ : ∃ o0, x = W o0 ∧ OkW 8 o0 := by
      rw [str0, S_app] at hx2
      simp only [List.mem_cons, List.not_mem_nil, or_false] at hx2
      rcases hx2 with h | h | h | h | h <;> subst h
      · exact ⟨_, rfl, hw2.mono (by decide)⟩
      · exact ⟨_, rfl, hnear.mono (by decide)⟩
      · exact ⟨_, rfl, (hw.lt.app (m := 1) (by rw [List.length_take]; omega) fun z hz => hw.2.2 z (List.mem_of_mem_take hz)).mono (by decide)⟩
      · exact ⟨_, rfl, hw.mono (by decide)⟩
      · exact ⟨_, rfl, hnear.app (m := 1) (by decide) (by decide)⟩
    have oo0 := ho0.1
    have oo1 := ho0.2.1
    refine ⟨o0, rfl, oo0, by omega, ?_⟩
    have ho := ho0.lt
    have ol0 := ho.1
    have ol1 := ho.2.1
    -- a place
    refine ⟨_, rfl, _, rfl, b2, 50, rfl, by decide, by decide, d6'.2, fun H7 r7 d7 r70 r71 => ⟨_, rfl, ⟨_, _, rfl, rfl, ⟨by decide, by decide, by decide⟩, .inl ⟨_, _, rfl, rfl, b2, _, rfl, by decide, by decide, d7.2, fun H8 r8 d8 r80 r81 => ⟨small1m (by show 4 ≤ 1000000; decide), fun p3 G3 np3 u3 g3 => ?_⟩⟩⟩⟩⟩
    have d8' : Dr b2 H3 H8 := (d6'.trans d7).trans d8
    refine ⟨b2, p3, _, rfl, d8'.2.ne np3, lst_of g3, by show 0 < 4; decide, by show 4 ≤ 1000; decide, d8'.2.same u3, fun H9 x d9 hx3 => ?_⟩
    have d9' : Dr b2 H3 H9 := (d8'.then u3).trans d9
    have t9 : Same H H9 := dr_same0 t03 f03 d9'
    obtain ⟨k, rfl⟩ : ∃ k : Nat, x = .int (k : Int) := by
      simp only [List.mem_cons, List.not_mem_nil, or_false] at hx3
      rcases hx3 with h | h | h | h <;> subst h
      · exact ⟨0, rfl⟩
      · exact ⟨1, rfl⟩
      · exact ⟨r7.toNat, by rw [Int.toNat_of_nonneg r70]⟩
      · exact ⟨r8.toNat, by rw [Int.toNat_of_nonneg r80]⟩
    -- its sign
    refine ⟨_, rfl, _, rfl, .inl ⟨_, rfl, _, rfl, .inl ⟨_, rfl, S_small (n := 0) (by omega), _, _, rfl, rfl, by rw [S_len]; omega, .inr (.inr ⟨_, _, M19.om (M19.lt w) k, rfl, rfl, S_small (n := 0) (by omega), ?_, ?_⟩)⟩⟩⟩
    · try dsimp only
      rw [S_len, mod_nat]
      exact S_at (Nat.mod_lt _ lw0)
    refine ⟨_, rfl, _, rfl, _, k, rfl, lw0, by omega, _, rfl, .inl ⟨rfl, _, rfl, ite_b (fun hc => ?_) (fun _ => ?_)⟩⟩
    · rw [decide_eq_true rfl] at hc
      cases hc
    refine ⟨_, rfl, _, rfl, rfl, rfl, _, k, rfl, lw0, by omega, _, rfl, .inl ⟨rfl, _, rfl, ite_b (fun hc => ?_) (fun _ => ?_)⟩⟩
    · rw [decide_eq_true rfl] at hc
      cases hc
    -- turned
    refine ⟨_, rfl, .inl ⟨_, rfl, _, rfl, .inl ⟨_, rfl, S_small (n := 0) (by omega), _, _, rfl, rfl, by rw [S_len]; omega, ?_⟩⟩⟩
    try dsimp only
    rw [S_len, mod_nat]
    have lcat : ∀ c : Nat, (S ((M19.lt w).drop c)).length + (S ((M19.lt w).take c)).length ≤ sizeLine := fun c => by
      try dsimp only
      rw [S_len, S_len, List.length_drop, List.length_take]
      exact small1m (by omega)
    refine ⟨_, rfl, _, rfl, _, k, rfl, lw0, by omega, _, rfl, _, rfl, _, rfl, .inl ⟨_, rfl, S_small (n := 0) (by omega), _, rfl, _, rfl, _, rfl, .inl ⟨_, rfl, S_small (n := 0) (by omega), ?_⟩⟩⟩
    try dsimp only
    rw [S_from, S_to]
    refine .inr (.inl ⟨_, _, rfl, rfl, lcat _, ?_⟩)
    try dsimp only
    rw [S_app]
    refine .inl ⟨rfl, _, rfl, ite_b (fun hc => ?_) (fun _ => ?_)⟩
    · rw [decide_eq_true rfl] at hc
      cases hc
    refine ⟨_, rfl, _, rfl, rfl, rfl, _, k % (M19.lt w).length, rfl, lw0, by omega, ?_⟩
    try dsimp only
    rw [Nat.mod_mod]
    refine ⟨_, rfl, _, rfl, _, rfl, .inl ⟨_, rfl, S_small (n := 0) (by omega), _, rfl, _, rfl, _, rfl, .inl ⟨_, rfl, S_small (n := 0) (by omega), ?_⟩⟩⟩
    try dsimp only
    rw [S_from, S_to]
    refine .inr (.inl ⟨_, _, rfl, rfl, lcat _, ?_⟩)
    try dsimp only
    rw [S_app]
    refine .inl ⟨rfl, _, rfl, ite_b (fun hc => ?_) (fun _ => ?_)⟩
    · rw [decide_eq_true rfl] at hc
      cases hc
    -- what is none
    refine ⟨_, rfl, s0, ns, 2, rfl, t9.seq hs, by decide, fun H10 b3 t10 f10 i10 => ?_⟩
    have t010 := t9.trans t10
    have f010 : H b3 = none := free_of t9 f10
    refine ⟨_, rfl, _, rfl, b3, w, rfl, i10, hw.mono (by decide), fun H11 d11 => ⟨_, rfl, ?_⟩⟩
    refine ⟨_, rfl, _, rfl, b3, M19.lt o0, rfl, d11.2, ho.mono (by decide), fun H12 d12 => ⟨_, rfl, ?_⟩⟩
    have t12 : Same H H12 := dr_same0 t010 f010 (d11.trans d12)
    -- the pairs
    refine ⟨_, rfl, _, rfl, M19.lt w, M19.lt o0, rfl, lw0, by omega, ol0, by omega, prim_lt w0, prim_lt oo0, fun H13 t13 => ⟨_, rfl, ?_⟩⟩
    refine ⟨_, rfl, _, rfl, M19.lt o0, M19.lt w, rfl, ol0, by omega, lw0, by omega, prim_lt oo0, prim_lt w0, fun H14 t14 => ⟨_, rfl, ?_⟩⟩
    refine ⟨_, rfl, w, rfl, w0, by omega, _, rfl, .inl ⟨rfl, ?_⟩⟩
    try dsimp only
    rw [decide_eq_true rfl]
    refine ⟨_, rfl, ?_⟩
    have t014 := (t12.trans t13).trans t14
    -- longer words
    refine ⟨_, rfl, s0, ns, 3, rfl, t014.seq hs, by decide, fun H15 b4 t15 f15 i15 => ?_⟩
    refine ⟨_, rfl, b4, 12, rfl, by decide, by decide, i15, fun H16 r16 d16 r160 r161 => ⟨_, _, rfl, rfl, _, rfl, ite_b (fun _ => q _) (fun _ => ?_)⟩⟩
    refine ⟨_, rfl, _, rfl, _, rfl, _, rfl, _, rfl, .inr (.inl ⟨_, _, rfl, rfl, small1m (by rw [S_len, S_len]; omega), _, rfl, .inr (.inl ⟨_, _, rfl, rfl, small1m (by rw [S_len, str0, S_len]; show _ + 1 ≤ _; omega), small1m (by show 4 ≤ 1000000; decide), fun p4 G4 np4 u4 g4 => ?_⟩)⟩)⟩
    refine ⟨b4, p4, _, rfl, d16.2.ne np4, lst_of g4, by show 0 < 4; decide, by show 4 ≤ 1000; decide, d16.2.same u4, fun H17 x d17 hx4 => ?_⟩
    have d17' : Dr b4 H15 H17 := (d16.then u4).trans d17
    obtain ⟨b0, rfl, hb0⟩ : ∃ b0, x = W b0 ∧ OkW 14 b0 := by
      rw [str0, S_app, S_app] at hx4
      simp only [List.mem_cons, List.not_mem_nil, or_false] at hx4
      rcases hx4 with h | h | h | h <;> subst h
      · exact ⟨_, rfl, hw.mono (by decide)⟩
      · exact ⟨_, rfl, ho.mono (by decide)⟩
      · exact ⟨_, rfl, hw.app ol1 ho.2.2⟩
      · exact ⟨_, rfl, (hw.app (m := 1) (by decide) (by decide)).mono (by decide)⟩
    have hb1 := hb0.2.1
    refine .inr (.inl ⟨S b0, 13, rfl, rfl, by rw [S_len]; omega, by decide, ?_⟩)
    try dsimp only
    rw [S_mul]
    have hrep := hb0.rep (k := 13) (by decide)
    have hrl := hrep.2.1
    -- one, two
    refine ⟨_, rfl, _, rfl, b4, 6, rfl, by decide, by decide, d17'.2, fun H18 r18 d18 r180 r181 => .inl ⟨_, _, rfl, rfl, _, rfl, .inl ⟨_, rfl, S_small (n := 0) (by omega), ?_⟩⟩⟩
    have e18 : (7 : Int) + r18 = ((7 + r18.toNat : Nat) : Int) := by omega
    try dsimp only
    rw [e18, S_to]
    refine ⟨_, rfl, _, rfl, b4, 6, rfl, by decide, by decide, d18.2, fun H19 r19 d19 r190 r191 => .inl ⟨_, _, rfl, rfl, _, rfl, .inl ⟨_, rfl, S_small (n := 0) (by omega), ?_⟩⟩⟩
    have e19 : (6 : Int) + r19 = ((6 + r19.toNat : Nat) : Int) := by omega
    try dsimp only
    rw [e19, S_to]
    refine ⟨_, rfl, small1m (by decide), fun p5 G5 np5 u5 g5 => ⟨b4, p5, _, rfl, d19.2.ne np5, lst_of g5, by decide, by decide, d19.2.same u5, fun H20 x d20 hx5 => ?_⟩⟩
    rw [str0, str1, str2] at hx5
    obtain ⟨c5, rfl, hc5⟩ := one_sign (by simpa using hx5)
    have h1 : OkW 100 ((List.replicate 13 b0).flatten.take (7 + r18.toNat)) := (hrep.take (by omega)).mono (by omega)
    have h2 : OkW 100 ((List.replicate 13 b0).flatten.take (6 + r19.toNat) ++ [c5]) := ((hrep.take (by omega)).app (m := 1) (k := [c5]) (Nat.le_refl 1) (fun z hz => List.mem_singleton.mp hz ▸ hc5)).mono (by omega)
    have h1l : ((List.replicate 13 b0).flatten.take (7 + r18.toNat)).length ≤ 20 := by rw [List.length_take]; omega
    have h2l : ((List.replicate 13 b0).flatten.take (6 + r19.toNat) ++ [c5]).length ≤ 20 := by rw [List.length_append, List.length_take]; show _ + 1 ≤ 20; omega
    refine .inr (.inl ⟨_, _, rfl, rfl, small1m (by rw [S_len, List.length_take]; show _ + 1 ≤ _; omega), ?_⟩)
    try dsimp only
    rw [S_app]
    generalize hone : (List.replicate 13 b0).flatten.take (7 + r18.toNat) = one at h1 h1l
    generalize htwo : (List.replicate 13 b0).flatten.take (6 + r19.toNat) ++ [c5] = two at h2 h2l
    refine ⟨_, _, rfl, ?_⟩
    refine ⟨_, rfl, one, rfl, h1.1, by omega, _, rfl, one, rfl, h1.1, by omega, .inl ⟨rfl, _, rfl, ite_b (fun hc => ?_) (fun _ => ?_)⟩⟩
    · rw [decide_eq_true rfl] at hc
      cases hc
    refine ⟨_, rfl, two, rfl, h2.1, by omega, _, rfl, two, rfl, h2.1, by omega, .inl ⟨rfl, _, rfl, ite_b (fun hc => ?_) (fun _ => ?_)⟩⟩
    · rw [decide_eq_true rfl] at hc
      cases hc
    have l1 : (M19.lt one).length ≤ 20 := by rw [M19.lt_len h1.1]; exact Nat.le_trans (M19.per_le h1.1) h1l
    have l2 : (M19.lt two).length ≤ 20 := by rw [M19.lt_len h2.1]; exact Nat.le_trans (M19.per_le h2.1) h2l
    exact ⟨_, rfl, one, rfl, h1.1, by omega, _, rfl, two, rfl, h2.1, by omega, _, _, rfl, M19.lt_pos h1.1, by omega, M19.lt_pos h2.1, by omega, prim_lt h1.1, prim_lt h2.1, fun H21 _ => q _⟩

theorem all_ok (T : Txt K mg) : Cl P w K mg base 5 "law" s_law ["_law_script"] (sp_law K) := by
  have c_is_text := ok_is_text (P := P) (w := w) (base := base) T
  have c_highest_divisor := ok_highest_divisor (P := P) (w := w) (base := base) T
  have c_common_multiple := ok_common_multiple (P := P) (w := w) (base := base) T c_highest_divisor
  have c_least_text := ok_least_text (P := P) (w := w) (base := base) T
  have c_is_pattern := ok_is_pattern (P := P) (w := w) (base := base) T c_is_text c_least_text
  have c_pattern_sign := ok_pattern_sign (P := P) (w := w) (base := base) T
  have c_turned := ok_turned (P := P) (w := w) (base := base) T
  have c_common_run := ok_common_run (P := P) (w := w) (base := base) T c_common_multiple c_pattern_sign
  have c_law_box := ok_law_box (P := P) (w := w) (base := base) T
  have c_law_take := ok_law_take (P := P) (w := w) (base := base) T
  have c_law_pick := ok_law_pick (P := P) (w := w) (base := base) T c_law_take
  have c_law_word := ok_law_word (P := P) (w := w) (base := base) T c_law_pick c_law_take
  have c_law_least := ok_law_least (P := P) (w := w) (base := base) T
  have c_law_long := ok_law_long (P := P) (w := w) (base := base) T
  have c_law_run := ok_law_run (P := P) (w := w) (base := base) T
  have c_law_is := ok_law_is (P := P) (w := w) (base := base) T c_law_least c_law_pick c_is_pattern
  have c_law_pair_right := ok_law_pair_right (P := P) (w := w) (base := base) T c_common_run c_law_run c_law_long
  have c_law := ok_law (P := P) (w := w) (base := base) T c_law_box c_law_word c_least_text c_law_least c_law_pick c_law_take c_pattern_sign c_turned c_law_is c_law_pair_right
  exact c_law

end
end K19

namespace K19
open PySem PySem.Spec PyProof.Rows L2 BB
theorem fin {P : Program} {w : World} {K : PySem.W.Frag} {h : Heap} {mg : Str → Option Value} {fa : Addr} (X : K.In h) (G : h.Ns mainGlobals mg) (hfa : mg "law" = some (.ref fa))
    {f0 : Addr} {oc0 : Value} {od0 an0 : Option Addr} {os0 : Array (Option Value)} {kV0 dc0 pm0 cd0 ct0 : Value}
    {f1 : Addr} {oc1 : Value} {od1 an1 : Option Addr} {os1 : Array (Option Value)} {kV1 dc1 pm1 cd1 ct1 : Value}
    {f2 : Addr} {oc2 : Value} {od2 an2 : Option Addr} {os2 : Array (Option Value)} {kV2 dc2 pm2 cd2 ct2 : Value}
    {f3 : Addr} {oc3 : Value} {od3 an3 : Option Addr} {os3 : Array (Option Value)} {kV3 dc3 pm3 cd3 ct3 : Value}
    {f4 : Addr} {oc4 : Value} {od4 an4 : Option Addr} {os4 : Array (Option Value)} {kV4 dc4 pm4 cd4 ct4 : Value}
    {f5 : Addr} {oc5 : Value} {od5 an5 : Option Addr} {os5 : Array (Option Value)} {kV5 dc5 pm5 cd5 ct5 : Value}
    {f6 : Addr} {oc6 : Value} {od6 an6 : Option Addr} {os6 : Array (Option Value)} {kV6 dc6 pm6 cd6 ct6 : Value}
    {f7 : Addr} {oc7 : Value} {od7 an7 : Option Addr} {os7 : Array (Option Value)} {kV7 dc7 pm7 cd7 ct7 : Value}
    {f8 : Addr} {oc8 : Value} {od8 an8 : Option Addr} {os8 : Array (Option Value)} {kV8 dc8 pm8 cd8 ct8 : Value}
    {f9 : Addr} {oc9 : Value} {od9 an9 : Option Addr} {os9 : Array (Option Value)} {kV9 dc9 pm9 cd9 ct9 : Value}
    {f10 : Addr} {oc10 : Value} {od10 an10 : Option Addr} {os10 : Array (Option Value)} {kV10 dc10 pm10 cd10 ct10 : Value}
    {f11 : Addr} {oc11 : Value} {od11 an11 : Option Addr} {os11 : Array (Option Value)} {kV11 dc11 pm11 cd11 ct11 : Value}
    {f12 : Addr} {oc12 : Value} {od12 an12 : Option Addr} {os12 : Array (Option Value)} {kV12 dc12 pm12 cd12 ct12 : Value}
    {f13 : Addr} {oc13 : Value} {od13 an13 : Option Addr} {os13 : Array (Option Value)} {kV13 dc13 pm13 cd13 ct13 : Value}
    {f14 : Addr} {oc14 : Value} {od14 an14 : Option Addr} {os14 : Array (Option Value)} {kV14 dc14 pm14 cd14 ct14 : Value}
    {f15 : Addr} {oc15 : Value} {od15 an15 : Option Addr} {os15 : Array (Option Value)} {kV15 dc15 pm15 cd15 ct15 : Value}
    {f16 : Addr} {oc16 : Value} {od16 an16 : Option Addr} {os16 : Array (Option Value)} {kV16 dc16 pm16 cd16 ct16 : Value}
    {f17 : Addr} {oc17 : Value} {od17 an17 : Option Addr} {os17 : Array (Option Value)} {kV17 dc17 pm17 cd17 ct17 : Value}
    {t_SIGNS : Tok}
    (a0 : PySem.W.nsIn K mainGlobals "is_text" = some (some (.ref f0))) (l0 : K.lookup f0 = some ⟨oc0, od0, .func (PySem.W.fnOf "is_text" "is_text" (defArgs s_is_text) (defBody s_is_text) (defScope s_is_text) .none kV0 dc0 pm0 an0 cd0 ct0), os0⟩) (c0 : PySem.W.codeIn K cd0 "is_text" = true) (k0 : PySem.W.keepIn K (.ref f0) = true)
    (a1 : PySem.W.nsIn K mainGlobals "highest_divisor" = some (some (.ref f1))) (l1 : K.lookup f1 = some ⟨oc1, od1, .func (PySem.W.fnOf "highest_divisor" "highest_divisor" (defArgs s_highest_divisor) (defBody s_highest_divisor) (defScope s_highest_divisor) .none kV1 dc1 pm1 an1 cd1 ct1), os1⟩) (c1 : PySem.W.codeIn K cd1 "highest_divisor" = true) (k1 : PySem.W.keepIn K (.ref f1) = true)
    (a2 : PySem.W.nsIn K mainGlobals "common_multiple" = some (some (.ref f2))) (l2 : K.lookup f2 = some ⟨oc2, od2, .func (PySem.W.fnOf "common_multiple" "common_multiple" (defArgs s_common_multiple) (defBody s_common_multiple) (defScope s_common_multiple) .none kV2 dc2 pm2 an2 cd2 ct2), os2⟩) (c2 : PySem.W.codeIn K cd2 "common_multiple" = true) (k2 : PySem.W.keepIn K (.ref f2) = true)
    (a3 : PySem.W.nsIn K mainGlobals "least_text" = some (some (.ref f3))) (l3 : K.lookup f3 = some ⟨oc3, od3, .func (PySem.W.fnOf "least_text" "least_text" (defArgs s_least_text) (defBody s_least_text) (defScope s_least_text) .none kV3 dc3 pm3 an3 cd3 ct3), os3⟩) (c3 : PySem.W.codeIn K cd3 "least_text" = true) (k3 : PySem.W.keepIn K (.ref f3) = true)
    (a4 : PySem.W.nsIn K mainGlobals "is_pattern" = some (some (.ref f4))) (l4 : K.lookup f4 = some ⟨oc4, od4, .func (PySem.W.fnOf "is_pattern" "is_pattern" (defArgs s_is_pattern) (defBody s_is_pattern) (defScope s_is_pattern) .none kV4 dc4 pm4 an4 cd4 ct4), os4⟩) (c4 : PySem.W.codeIn K cd4 "is_pattern" = true) (k4 : PySem.W.keepIn K (.ref f4) = true)
    (a5 : PySem.W.nsIn K mainGlobals "pattern_sign" = some (some (.ref f5))) (l5 : K.lookup f5 = some ⟨oc5, od5, .func (PySem.W.fnOf "pattern_sign" "pattern_sign" (defArgs s_pattern_sign) (defBody s_pattern_sign) (defScope s_pattern_sign) .none kV5 dc5 pm5 an5 cd5 ct5), os5⟩) (c5 : PySem.W.codeIn K cd5 "pattern_sign" = true) (k5 : PySem.W.keepIn K (.ref f5) = true)
    (a6 : PySem.W.nsIn K mainGlobals "turned" = some (some (.ref f6))) (l6 : K.lookup f6 = some ⟨oc6, od6, .func (PySem.W.fnOf "turned" "turned" (defArgs s_turned) (defBody s_turned) (defScope s_turned) .none kV6 dc6 pm6 an6 cd6 ct6), os6⟩) (c6 : PySem.W.codeIn K cd6 "turned" = true) (k6 : PySem.W.keepIn K (.ref f6) = true)
    (a7 : PySem.W.nsIn K mainGlobals "common_run" = some (some (.ref f7))) (l7 : K.lookup f7 = some ⟨oc7, od7, .func (PySem.W.fnOf "common_run" "common_run" (defArgs s_common_run) (defBody s_common_run) (defScope s_common_run) .none kV7 dc7 pm7 an7 cd7 ct7), os7⟩) (c7 : PySem.W.codeIn K cd7 "common_run" = true) (k7 : PySem.W.keepIn K (.ref f7) = true)
    (a8 : PySem.W.nsIn K mainGlobals "_law_box" = some (some (.ref f8))) (l8 : K.lookup f8 = some ⟨oc8, od8, .func (PySem.W.fnOf "_law_box" "_law_box" (defArgs s_law_box) (defBody s_law_box) (defScope s_law_box) .none kV8 dc8 pm8 an8 cd8 ct8), os8⟩) (c8 : PySem.W.codeIn K cd8 "_law_box" = true) (k8 : PySem.W.keepIn K (.ref f8) = true)
    (a9 : PySem.W.nsIn K mainGlobals "_law_take" = some (some (.ref f9))) (l9 : K.lookup f9 = some ⟨oc9, od9, .func (PySem.W.fnOf "_law_take" "_law_take" (defArgs s_law_take) (defBody s_law_take) (defScope s_law_take) .none kV9 dc9 pm9 an9 cd9 ct9), os9⟩) (c9 : PySem.W.codeIn K cd9 "_law_take" = true) (k9 : PySem.W.keepIn K (.ref f9) = true)
    (a10 : PySem.W.nsIn K mainGlobals "_law_pick" = some (some (.ref f10))) (l10 : K.lookup f10 = some ⟨oc10, od10, .func (PySem.W.fnOf "_law_pick" "_law_pick" (defArgs s_law_pick) (defBody s_law_pick) (defScope s_law_pick) .none kV10 dc10 pm10 an10 cd10 ct10), os10⟩) (c10 : PySem.W.codeIn K cd10 "_law_pick" = true) (k10 : PySem.W.keepIn K (.ref f10) = true)
    (a11 : PySem.W.nsIn K mainGlobals "_law_word" = some (some (.ref f11))) (l11 : K.lookup f11 = some ⟨oc11, od11, .func (PySem.W.fnOf "_law_word" "_law_word" (defArgs s_law_word) (defBody s_law_word) (defScope s_law_word) .none kV11 dc11 pm11 an11 cd11 ct11), os11⟩) (c11 : PySem.W.codeIn K cd11 "_law_word" = true) (k11 : PySem.W.keepIn K (.ref f11) = true)
    (a12 : PySem.W.nsIn K mainGlobals "_law_least" = some (some (.ref f12))) (l12 : K.lookup f12 = some ⟨oc12, od12, .func (PySem.W.fnOf "_law_least" "_law_least" (defArgs s_law_least) (defBody s_law_least) (defScope s_law_least) .none kV12 dc12 pm12 an12 cd12 ct12), os12⟩) (c12 : PySem.W.codeIn K cd12 "_law_least" = true) (k12 : PySem.W.keepIn K (.ref f12) = true)
    (a13 : PySem.W.nsIn K mainGlobals "_law_long" = some (some (.ref f13))) (l13 : K.lookup f13 = some ⟨oc13, od13, .func (PySem.W.fnOf "_law_long" "_law_long" (defArgs s_law_long) (defBody s_law_long) (defScope s_law_long) .none kV13 dc13 pm13 an13 cd13 ct13), os13⟩) (c13 : PySem.W.codeIn K cd13 "_law_long" = true) (k13 : PySem.W.keepIn K (.ref f13) = true)
    (a14 : PySem.W.nsIn K mainGlobals "_law_run" = some (some (.ref f14))) (l14 : K.lookup f14 = some ⟨oc14, od14, .func (PySem.W.fnOf "_law_run" "_law_run" (defArgs s_law_run) (defBody s_law_run) (defScope s_law_run) .none kV14 dc14 pm14 an14 cd14 ct14), os14⟩) (c14 : PySem.W.codeIn K cd14 "_law_run" = true) (k14 : PySem.W.keepIn K (.ref f14) = true)
    (a15 : PySem.W.nsIn K mainGlobals "_law_is" = some (some (.ref f15))) (l15 : K.lookup f15 = some ⟨oc15, od15, .func (PySem.W.fnOf "_law_is" "_law_is" (defArgs s_law_is) (defBody s_law_is) (defScope s_law_is) .none kV15 dc15 pm15 an15 cd15 ct15), os15⟩) (c15 : PySem.W.codeIn K cd15 "_law_is" = true) (k15 : PySem.W.keepIn K (.ref f15) = true)
    (a16 : PySem.W.nsIn K mainGlobals "_law_pair_right" = some (some (.ref f16))) (l16 : K.lookup f16 = some ⟨oc16, od16, .func (PySem.W.fnOf "_law_pair_right" "_law_pair_right" (defArgs s_law_pair_right) (defBody s_law_pair_right) (defScope s_law_pair_right) .none kV16 dc16 pm16 an16 cd16 ct16), os16⟩) (c16 : PySem.W.codeIn K cd16 "_law_pair_right" = true) (k16 : PySem.W.keepIn K (.ref f16) = true)
    (a17 : PySem.W.nsIn K mainGlobals "law" = some (some (.ref f17))) (l17 : K.lookup f17 = some ⟨oc17, od17, .func (PySem.W.fnOf "law" "law" (defArgs s_law) (defBody s_law) (defScope s_law) .none kV17 dc17 pm17 an17 cd17 ct17), os17⟩) (c17 : PySem.W.codeIn K cd17 "law" = true) (k17 : PySem.W.keepIn K (.ref f17) = true)
    (z_isinstance : PySem.W.nsIn K mainGlobals "isinstance" = some none)
    (z_str : PySem.W.nsIn K mainGlobals "str" = some none)
    (z_all : PySem.W.nsIn K mainGlobals "all" = some none)
    (z_len : PySem.W.nsIn K mainGlobals "len" = some none)
    (z_range : PySem.W.nsIn K mainGlobals "range" = some none)
    (z_max : PySem.W.nsIn K mainGlobals "max" = some none)
    (z_zip : PySem.W.nsIn K mainGlobals "zip" = some none)
    (z_abs : PySem.W.nsIn K mainGlobals "abs" = some none)
    (z_int : PySem.W.nsIn K mainGlobals "int" = some none)
    (z_bool : PySem.W.nsIn K mainGlobals "bool" = some none)
    (g_SIGNS : PySem.W.nsIn K mainGlobals "SIGNS" = some (some (.str (Str.ofString "012") t_SIGNS))) :
    ∃ fd : FuncData, (∀ (s : Shared) (u : Value), BindsTo s fd ⟨[u], []⟩ [("_law_script", u)]) ∧ ∀ base : Heap, K.In base → base.Ns mainGlobals mg → FnOk P w K mg base CX0 5 fa fd ["_law_script"] (sp_law K) := by
  have T : Txt K mg := {
    d_is_text := df_mk X G a0 l0 c0 k0,
    d_highest_divisor := df_mk X G a1 l1 c1 k1,
    d_common_multiple := df_mk X G a2 l2 c2 k2,
    d_least_text := df_mk X G a3 l3 c3 k3,
    d_is_pattern := df_mk X G a4 l4 c4 k4,
    d_pattern_sign := df_mk X G a5 l5 c5 k5,
    d_turned := df_mk X G a6 l6 c6 k6,
    d_common_run := df_mk X G a7 l7 c7 k7,
    d_law_box := df_mk X G a8 l8 c8 k8,
    d_law_take := df_mk X G a9 l9 c9 k9,
    d_law_pick := df_mk X G a10 l10 c10 k10,
    d_law_word := df_mk X G a11 l11 c11 k11,
    d_law_least := df_mk X G a12 l12 c12 k12,
    d_law_long := df_mk X G a13 l13 c13 k13,
    d_law_run := df_mk X G a14 l14 c14 k14,
    d_law_is := df_mk X G a15 l15 c15 k15,
    d_law_pair_right := df_mk X G a16 l16 c16 k16,
    d_law := df_mk X G a17 l17 c17 k17,
    n_isinstance := PySem.W.mg_none_of X G z_isinstance,
    n_str := PySem.W.mg_none_of X G z_str,
    n_all := PySem.W.mg_none_of X G z_all,
    n_len := PySem.W.mg_none_of X G z_len,
    n_range := PySem.W.mg_none_of X G z_range,
    n_max := PySem.W.mg_none_of X G z_max,
    n_zip := PySem.W.mg_none_of X G z_zip,
    n_abs := PySem.W.mg_none_of X G z_abs,
    n_int := PySem.W.mg_none_of X G z_int,
    n_bool := PySem.W.mg_none_of X G z_bool,
    g_SIGNS := ⟨_, PySem.W.mg_of X G g_SIGNS, RelV_SIGNS⟩ }
  exact law_end T.d_law b_law hfa fun base _ _ => all_ok T
end K19
open PySem PySem.W PyProof.Rows
set_option maxHeartbeats 0 in
theorem PySem.Challenge.cw_beadasks_k19_patterns_and_their_common_r_holds : PySem.Challenge.rw_beadasks_k19_patterns_and_their_common_r.Holds := by
  w_on; o_law; k_head; (case hw => w_witness2)
  k_fill
  refine L2.walk_of (l := PySem.Challenge.rw_beadasks_k19_patterns_and_their_common_r) (n := 63) (k := 5) (x := "_law_script") (CX := fun _ => L2.CX0) (sp := fun w => K19.sp_law _) rfl (by decide) rfl ⟨rfl, by decide, by decide⟩ (fun w h Y => PySem.W.kIn_of Y) ?F (fun _ _ a ns hl _ hS => ⟨a, ns, rfl, hS, fun _ => rfl⟩) (fun _ _ _ _ _ h => h)
  case F =>
    intro w mg fa h KX G hmg
    refine' K19.fin KX G hmg ?a0 ?l0 ?c0 ?k0 ?a1 ?l1 ?c1 ?k1 ?a2 ?l2 ?c2 ?k2 ?a3 ?l3 ?c3 ?k3 ?a4 ?l4 ?c4 ?k4 ?a5 ?l5 ?c5 ?k5 ?a6 ?l6 ?c6 ?k6 ?a7 ?l7 ?c7 ?k7 ?a8 ?l8 ?c8 ?k8 ?a9 ?l9 ?c9 ?k9 ?a10 ?l10 ?c10 ?k10 ?a11 ?l11 ?c11 ?k11 ?a12 ?l12 ?c12 ?k12 ?a13 ?l13 ?c13 ?k13 ?a14 ?l14 ?c14 ?k14 ?a15 ?l15 ?c15 ?k15 ?a16 ?l16 ?c16 ?k16 ?a17 ?l17 ?c17 ?k17 ?z_isinstance ?z_str ?z_all ?z_len ?z_range ?z_max ?z_zip ?z_abs ?z_int ?z_bool ?g_SIGNS
    (case a0 => k_is)
    (case l0 => k_is)
    (case c0 => k_is)
    (case k0 => k_is)
    (case a1 => k_is)
    (case l1 => k_is)
    (case c1 => k_is)
    (case k1 => k_is)
    (case a2 => k_is)
    (case l2 => k_is)
    (case c2 => k_is)
    (case k2 => k_is)
    (case a3 => k_is)
    (case l3 => k_is)
    (case c3 => k_is)
    (case k3 => k_is)
    (case a4 => k_is)
    (case l4 => k_is)
    (case c4 => k_is)
    (case k4 => k_is)
    (case a5 => k_is)
    (case l5 => k_is)
    (case c5 => k_is)
    (case k5 => k_is)
    (case a6 => k_is)
    (case l6 => k_is)
    (case c6 => k_is)
    (case k6 => k_is)
    (case a7 => k_is)
    (case l7 => k_is)
    (case c7 => k_is)
    (case k7 => k_is)
    (case a8 => k_is)
    (case l8 => k_is)
    (case c8 => k_is)
    (case k8 => k_is)
    (case a9 => k_is)
    (case l9 => k_is)
    (case c9 => k_is)
    (case k9 => k_is)
    (case a10 => k_is)
    (case l10 => k_is)
    (case c10 => k_is)
    (case k10 => k_is)
    (case a11 => k_is)
    (case l11 => k_is)
    (case c11 => k_is)
    (case k11 => k_is)
    (case a12 => k_is)
    (case l12 => k_is)
    (case c12 => k_is)
    (case k12 => k_is)
    (case a13 => k_is)
    (case l13 => k_is)
    (case c13 => k_is)
    (case k13 => k_is)
    (case a14 => k_is)
    (case l14 => k_is)
    (case c14 => k_is)
    (case k14 => k_is)
    (case a15 => k_is)
    (case l15 => k_is)
    (case c15 => k_is)
    (case k15 => k_is)
    (case a16 => k_is)
    (case l16 => k_is)
    (case c16 => k_is)
    (case k16 => k_is)
    (case a17 => k_is)
    (case l17 => k_is)
    (case c17 => k_is)
    (case k17 => k_is)
    (case z_isinstance => k_is)
    (case z_str => k_is)
    (case z_all => k_is)
    (case z_len => k_is)
    (case z_range => k_is)
    (case z_max => k_is)
    (case z_zip => k_is)
    (case z_abs => k_is)
    (case z_int => k_is)
    (case z_bool => k_is)
    (case g_SIGNS => k_is)

