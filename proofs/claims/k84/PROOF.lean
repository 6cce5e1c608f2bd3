import PyProof.Rows.All
import Wide.All
import OpenK.AllK
import Wide.FinOn
import HandS.ForMost
import HandS.Wide
import HandS.EndBits
import HandS.StrMore
import HandS.TupAny
import HandS.TupLe
import HandS.IsInst
import HandS.Defaults
import HandS.Style
import HandS.Zip
import HandS.AnyAll
import PyProof.StrBlock2
import PyProof.StrLawsFrom
import HandS.Walk
import HandS.Evl
import HandS.Exc
import HandS.ExcInit
import HandS.ExcSuper
import HandS.ExcOwn
import HandS.TryOnly
import HandS.TryMany
import HandS.ExcField
import HandS.ExcIs
import HandS.WordsExc
import KE.KExcSuper
import HandS.CallSlots
import KE.KExcIs
import KE.KRevSl
import PyProof.SliceSyntax
import KE.IntTextText
import KE.KIntText
import HandS.Iter
import PySem.Challenge.RW_beadasks_k84_values_written_and_read
set_option Elab.async false
set_option linter.all false
set_option maxRecDepth 100000
set_option maxHeartbeats 4000000
/-! BB: own additions to the layer: unions of operators by value, text * int, calls by keywords alone, defs with their promises, boxes of draws. -/
namespace BB
open PySem PySem.Spec PyProof.Rows L2

/-! ### heaps: all that was tracked is as it was, but at b -/
def SameB (b : Addr) (H H' : Hp) : Prop := ∀ a o, a ≠ b → H a = some o → H' a = some o
theorem SameB.refl {b : Addr} (H : Hp) : SameB b H H := fun _ _ _ h => h
theorem SameB.trans {b : Addr} {H H1 H2 : Hp} (x : SameB b H H1) (y : SameB b H1 H2) : SameB b H H2 := fun a o n h => y a o n (x a o n h)
theorem SameB.of {b : Addr} {H H' : Hp} (x : Same H H') : SameB b H H' := fun a o _ h => x a o h
theorem SameB.put {b : Addr} {H : Hp} {o : HO} : SameB b H (upd H b o) := fun a u n h => by
  rw [upd_ne n]
  exact h
theorem same_new {H : Hp} {p : Addr} {o : HO} (h : H p = none) : Same H (upd H p o) := fun b x e => by
  rw [upd_ne (ne_of_none e h)]
  exact e
/-- a new object that changes -/
theorem Same.put {H H1 : Hp} {p : Addr} {o : HO} (x : Same H H1) (h : H p = none) : Same H (upd H1 p o) := fun b u e => by
  rw [upd_ne (ne_of_none e h)]
  exact x b u e
theorem SameB.putN {b : Addr} {H H1 : Hp} {p : Addr} {o : HO} (x : SameB b H H1) (h : H p = none) : SameB b H (upd H1 p o) := fun a u n e => by
  rw [upd_ne (ne_of_none e h)]
  exact x a u n e
theorem seqB {K : PySem.W.Frag} {b : Addr} {H H' : Hp} {a : Addr} {xs : List V} (e : SameB b H H') (hn : a ≠ b) (h : SqL K H a xs) : SqL K H' a xs := by
  rcases h with (h | ⟨o, h⟩) | h
  · exact .inl (.inl (e _ _ hn h))
  · exact .inl (.inr ⟨o, e _ _ hn h⟩)
  · exact .inr h
theorem lst_of {K : PySem.W.Frag} {H : Hp} {a : Addr} {xs : List V} (h : H a = some (.lst xs)) : SqL K H a xs := .inl (.inl h)
theorem tup_of {K : PySem.W.Frag} {H : Hp} {a : Addr} {xs : List V} (h : H a = some (.tup xs)) : SqT K H a xs := .inl (.inl h)
theorem small1m {n : Nat} (h : n ≤ 1000000) : n ≤ sizeLine := Nat.le_trans h (by decide)
theorem free_of {H H1 : Hp} {p : Addr} (x : Same H H1) (h : H1 p = none) : H p = none := Same.free x h

/-- a new object: its heap is told by what stands in it -/
def NewO (H : Hp) (o : HO) (Q : VK) : Prop := ∀ p H', H p = none → Same H H' → H' p = some o → Q (.ref p) H'
theorem NewO.up {H : Hp} {o : HO} {Q : VK} (h : NewO H o Q) : ∀ p, H p = none → Q (.ref p) (upd H p o) := fun p np => h p _ np (same_new np) upd_same
theorem OpR.weak {X : Cx} {f : Value → Value → Sem Value} {r r' : R2} (h : OpR X f r) (w : ∀ x y H Q, r' x y H Q → r x y H Q) : OpR X f r' := fun pins s σ H x y v u Q I rx ry q => h pins s σ H x y v u Q I rx ry (w x y H Q q)
theorem SlR.weak {X : Cx} {r r' : V → Option Int → Option Int → Hp → VK → Prop} (h : SlR X r) (w : ∀ x l u H Q, r' x l u H Q → r x l u H Q) : SlR X r' := fun pins s σ H x v vl vu lo hi sl Q I rx hs pl pu q => h pins s σ H x v vl vu lo hi sl Q I rx hs pl pu (w _ _ _ _ _ q)
theorem CallR.weak {X : Cx} {f : Value} {r r' : List V → Hp → VK → Prop} (h : CallR X f r) (w : ∀ x H Q, r' x H Q → r x H Q) : CallR X f r' := fun pins s σ H xs us Q I r q => h pins s σ H xs us Q I r (w _ _ _ q)
theorem PE.weak {X : Cx} {e : Expr} {t t' : TE} (h : PE X e t) (w : ∀ σ H Q, t' σ H Q → t σ H Q) : PE X e t' := ⟨fun pins s σ H Q I q => h.run pins s σ H Q I (w σ H Q q)⟩
def tLstN (t : TA) : TE := fun σ H Q => t σ H fun xs H1 => xs.length ≤ sizeLine ∧ NewO H1 (.lst xs) Q
def tTupN (t : TA) : TE := fun σ H Q => t σ H fun xs H1 => xs.length ≤ sizeLine ∧ NewO H1 (.tup xs) Q
section
variable {X : Cx} {es : List Expr} {t : TA} {pos : Pos}
theorem pe_tupN {x1} (h : PA X es t) : PE X (.Tuple es x1 pos) (tTupN t) := by
  refine ⟨fun pins s σ H Q I hq => ?_⟩
  refine wpAny_Tuple_spliced (thn (h.run pos pins s σ H _ I hq) fun us s1 ⟨xs, H1, I1, r, z, q⟩ => ⟨by rw [← r.length]; exact z, ?_⟩)
  have hf : H1 s1.heap.objs.size = none := I1.hok.fresh (Nat.le_refl _)
  refine ⟨.ref s1.heap.objs.size, upd H1 s1.heap.objs.size (.tup xs), I1.laid (t' := s1.toks) (fun b u e => Heap.get?_push_of_some _ e) (Nat.le_refl _) ?_, rfl, q.up _ hf⟩
  exact ⟨z, us, r, ⟨_, Heap.get?_push_size _ rfl, rfl, _, rfl⟩⟩
theorem pe_lstN (h : PA X es t) : PE X (.List es pos) (tLstN t) := by
  refine ⟨fun pins s σ H Q I hq => ?_⟩
  refine wpAny_List_spliced (thn (h.run pos pins s σ H _ I hq) fun us s1 ⟨xs, H1, I1, r, z, q⟩ => ⟨by rw [← r.length]; exact z, ?_⟩)
  have hf : H1 s1.heap.objs.size = none := I1.hok.fresh (Nat.le_refl _)
  refine ⟨.ref s1.heap.objs.size, upd H1 s1.heap.objs.size (.lst xs), I1.laid (t' := s1.toks) (fun b u e => Heap.get?_push_of_some _ e) (Nat.le_refl _) ?_, rfl, q.up _ hf⟩
  exact ⟨z, us, 0, r, Heap.get?_push_size _ rfl⟩
end
/-- list + list, tuple + tuple -/
def rCatN : R2 := fun x y H Q => ∃ l b xs zs, x = .ref l ∧ y = .ref b ∧ H l = some (.lst xs) ∧ H b = some (.lst zs) ∧ xs.length + zs.length ≤ sizeLine ∧ NewO H (.lst (xs ++ zs)) Q
theorem op_catN {X : Cx} : OpR X (binaryOp .Add) rCatN := OpR.weak op_cat fun _ _ _ _ h => by
  obtain ⟨l, b, xs, zs, e1, e2, h1, h2, z, q⟩ := h
  exact ⟨l, b, xs, zs, e1, e2, h1, h2, z, q.up⟩
/-- tuple + tuple: some tuple -/
def rCatTN (K : PySem.W.Frag) : R2 := fun x y H Q => ∃ a b xs ys, x = .ref a ∧ y = .ref b ∧ SqT K H a xs ∧ SqT K H b ys ∧ xs.length + ys.length ≤ sizeLine ∧ ∀ p H', Same H H' → SqT K H' p (xs ++ ys) → Q (.ref p) H'
theorem op_catTN {X : Cx} : OpR X (binaryOp .Add) (rCatTN X.K) := OpR.weak op_catA fun _ _ H _ h => by
  obtain ⟨a, b, xs, ys, e1, e2, h1, h2, z, q⟩ := h
  refine ⟨a, b, xs, ys, e1, e2, h1, h2, z, fun e => q b H (Same.refl _) (by rw [e]; exact h2), fun _ e => q a H (Same.refl _) (by rw [e, List.append_nil]; exact h1), fun _ _ p np => q p _ (same_new np) (tup_of upd_same)⟩
def rRepN : R2 := fun x y H Q => ∃ l k xs, x = .ref l ∧ y = .int k ∧ H l = some (.lst xs) ∧ -(2 ^ 63) ≤ k ∧ k < 2 ^ 63 ∧ xs.length * k.toNat ≤ sizeLine ∧ NewO H (.lst (List.replicate k.toNat xs).flatten) Q
theorem op_repN {X : Cx} : OpR X (binaryOp .Mult) rRepN := OpR.weak op_rep fun _ _ _ _ h => by
  obtain ⟨l, k, xs, e1, e2, h1, h2, h3, z, q⟩ := h
  exact ⟨l, k, xs, e1, e2, h1, h2, h3, z, q.up⟩
def rSlLN (K : PySem.W.Frag) : V → Option Int → Option Int → Hp → VK → Prop := fun x lo hi H Q => ∃ a xs, x = .ref a ∧ SqL K H a xs ∧ NewO H (.lst (cutV xs lo hi)) Q
theorem sl_listN {X : Cx} : SlR X (rSlLN X.K) := SlR.weak sl_list fun _ _ _ _ _ h => by
  obtain ⟨a, xs, e, h1, q⟩ := h
  exact ⟨a, xs, e, h1, q.up⟩
theorem sIx_full {xs : List V} {lo hi : Option Int} (h : HT.sIx xs.length 0 lo = 0 ∧ HT.sIx xs.length xs.length hi = xs.length) : cutV xs lo hi = xs := by
  unfold cutV
  rw [h.1, h.2, List.drop_zero, Nat.sub_zero, List.take_length]
def rSlTN (K : PySem.W.Frag) : V → Option Int → Option Int → Hp → VK → Prop := fun x lo hi H Q => ∃ a xs, x = .ref a ∧ SqT K H a xs ∧ ∀ p H', Same H H' → SqT K H' p (cutV xs lo hi) → Q (.ref p) H'
theorem sl_tupN {X : Cx} : SlR X (rSlTN X.K) := SlR.weak sl_tupA fun _ _ _ H _ h => by
  obtain ⟨a, xs, e, h1, q⟩ := h
  refine ⟨a, xs, e, h1, fun e => q a H (Same.refl _) (by rw [sIx_full e]; exact h1), fun _ p np => q p _ (same_new np) (tup_of upd_same)⟩
def rListN (K : PySem.W.Frag) : List V → Hp → VK → Prop := fun xs H Q => ∃ p ys, xs = [.ref p] ∧ (SqL K H p ys ∨ SqT K H p ys) ∧ NewO H (.lst ys) Q
theorem cr_listN {X : Cx} : CallR X (.type "list") (rListN X.K) := CallR.weak call_list_of fun _ _ _ h => by
  obtain ⟨p, ys, e, h1, q⟩ := h
  exact ⟨p, ys, e, h1, q.up⟩
def rTupleN (K : PySem.W.Frag) : List V → Hp → VK → Prop := fun xs H Q => ∃ p ys, xs = [.ref p] ∧ (SqL K H p ys ∨ SqT K H p ys) ∧ ∀ p H', Same H H' → SqT K H' p ys → Q (.ref p) H'
theorem cr_tupleN {X : Cx} : CallR X (.type "tuple") (rTupleN X.K) := CallR.weak call_tuple_of fun _ H _ h => by
  obtain ⟨p, ys, e, h1, q⟩ := h
  rcases h1 with h1 | h1
  · exact ⟨p, ys, e, .inl ⟨h1, fun l nl => q l _ (same_new nl) (tup_of upd_same)⟩⟩
  · exact ⟨p, ys, e, .inr ⟨h1, q p H (Same.refl _) h1⟩⟩
/-! ### operators, whatever the kinds -/
def rAddU (K : PySem.W.Frag) : R2 := fun x y H Q =>
  (∃ i j, x = .int i ∧ y = .int j ∧ Q (.int (i + j)) H) ∨ (∃ i j, x = .str i ∧ y = .str j ∧ i.length + j.length ≤ sizeLine ∧ Q (.str (i ++ j)) H) ∨ rCatN x y H Q ∨ rCatTN K x y H Q
theorem op_addU {X : Cx} : OpR X (binaryOp .Add) (rAddU X.K) := OpR.or op_add (OpR.or op_add_str (OpR.or op_catN op_catTN))
/-- text * int -/
def txtMul (x : Str) (n : Nat) : Str := ⟨(List.replicate n x.cps.toList).flatten.toArray⟩
theorem foldl_app (a : Array Nat) : ∀ (n : Nat) (acc : Array Nat), ((List.replicate n a).foldl (· ++ ·) acc).toList = acc.toList ++ (List.replicate n a.toList).flatten
  | 0, acc => by simp
  | n + 1, acc => by
    rw [List.replicate_succ, List.foldl_cons, foldl_app a n, List.replicate_succ, List.flatten_cons, Array.toList_append, List.append_assoc]
theorem txtMul_eq (x : Str) (n : Nat) : PySem.Txt.mul x (n : Int) = txtMul x n := by
  unfold PySem.Txt.mul txtMul
  by_cases h : (n : Int) < 1
  · rw [if_pos h]
    have e : n = 0 := by omega
    subst e
    rfl
  · rw [if_neg h]
    by_cases h2 : ((n : Int) == 1 || x.length == 0) = true
    · rw [if_pos h2]
      rw [Bool.or_eq_true] at h2
      rcases h2 with h2 | h2
      · have e : n = 1 := by
          have := eq_of_beq h2
          omega
        subst e
        simp
      · have e : x.cps.toList = [] := by
          have e1 : x.length = 0 := eq_of_beq h2
          have e2 : x.cps.toList.length = 0 := by
            rw [Array.length_toList]
            exact e1
          exact List.length_eq_zero_iff.mp e2
        have e3 : (List.replicate n x.cps.toList).flatten = [] := by
          rw [e]
          simp
        rw [e3, ← e]
    · rw [if_neg h2]
      have e := foldl_app x.cps n #[]
      rw [Int.toNat_natCast]
      congr 1
      apply Array.ext'
      rw [e]
      rfl
theorem mulOk_of {x : Str} {n : Nat} (h : x.length * n ≤ 1000000) (hn : n ≤ 1000000) : MulOk x (n : Int) := by
  refine ⟨?_, fun h1 h2 => ?_, fun h1 h2 => ?_⟩
  · rw [Bool.or_eq_false_iff]
    exact ⟨decide_eq_false (by omega), decide_eq_false (by omega)⟩
  · have hx : x.length ≤ 1000000 := by
      have : x.length * 1 ≤ x.length * n := Nat.mul_le_mul_left _ (by omega)
      omega
    have : (1000000 : Int) ≤ (2 ^ 63 - 1) / (n : Int) := by
      rw [Int.le_ediv_iff_mul_le (by omega)]
      omega
    omega
  · rw [Int.toNat_natCast]
    have : ¬ (x.length * n > sizeLine) := by
      have : (1000000 : Nat) ≤ sizeLine := by decide
      omega
    first
      | exact decide_eq_false this
      | (unfold tooLong; exact decide_eq_false (by unfold sizeLine at *; omega))
      | (unfold Builtin.Str.tooLong; exact decide_eq_false (by unfold sizeLine at *; omega))
def rMulS : R2 := fun x y H Q => ∃ (z : Str) (n : Nat), x = .str z ∧ y = .int (n : Int) ∧ z.length * n ≤ 1000000 ∧ n ≤ 1000000 ∧ Q (.str (txtMul z n)) H
theorem op_mulS {X : Cx} : OpR X (binaryOp .Mult) rMulS := by
  intro pins s σ H x y v u Q I rx ry h
  obtain ⟨z, n, rfl, rfl, h1, h2, q⟩ := h
  obtain ⟨t, rfl⟩ := rx
  obtain ⟨t', rfl⟩ := ry
  refine SB.mul (mulOk_of h1 h2) fun t' k => ?_
  rw [txtMul_eq]
  exact ⟨.str (txtMul z n), H, I.tok _, ⟨_, rfl⟩, q⟩
theorem op_mulI {X : Cx} : OpR X (binaryOp .Mult) (rI IntMulOk fun i j => .int (i * j)) := opI fun _ _ _ _ _ _ _ hc q => mul_int q hc
def rMulU : R2 := fun x y H Q => rI IntMulOk (fun i j => .int (i * j)) x y H Q ∨ rMulS x y H Q ∨ rRepN x y H Q
theorem op_mulU {X : Cx} : OpR X (binaryOp .Mult) rMulU := OpR.or op_mulI (OpR.or op_mulS op_repN)
theorem mulOk_l {i j : Int} (h : -(2 ^ 64) < i ∧ i < 2 ^ 64) : IntMulOk i j := (CMul.ok (i := i) (j := j) (.inl h))
def rEqU (K : PySem.W.Frag) : R2 := fun x y H Q => rEq x y H Q ∨ rEqD K x y H Q
theorem op_eqU {X : Cx} (hu : X.A.units + 64 < cLine) : OpR X (compareOp .Eq) (rEqU X.K) := OpR.or op_eq (op_eqD hu)
def rNeU (K : PySem.W.Frag) : R2 := fun x y H Q => rNe x y H Q ∨ rNeD K x y H Q
theorem op_neU {X : Cx} (hu : X.A.units + 64 < cLine) : OpR X (compareOp .NotEq) (rNeU X.K) := OpR.or op_ne (op_neD hu)
def rIsU : R2 := fun x y H Q => (y = .non ∧ Q (.bl (decide (x = .non))) H) ∨ (∃ a b, x = .bl a ∧ y = .bl b ∧ Q (.bl (decide (a = b))) H)
theorem op_isU {X : Cx} : OpR X (compareOp .Is) rIsU := OpR.or op_isN op_is_bl
def rNotU : R2 := fun x y H Q => (y = .non ∧ Q (.bl (!decide (x = .non))) H) ∨ (∃ a b, x = .bl a ∧ y = .bl b ∧ Q (.bl (!decide (a = b))) H)
theorem op_notU {X : Cx} : OpR X (compareOp .IsNot) rNotU := OpR.or op_notN op_isnot_bl
def rInU (K : PySem.W.Frag) : R2 := fun x y H Q => (∃ (c : Nat) (z : Str), x = .str ⟨#[c]⟩ ∧ y = .str z ∧ Q (.bl (decide (c ∈ z.cps.toList))) H) ∨ rIn K false x y H Q
theorem op_inU {X : Cx} : OpR X (compareOp .In) (rInU X.K) := OpR.or op_in_sign op_in_seq
def rNotInU (K : PySem.W.Frag) : R2 := fun x y H Q => (∃ (c : Nat) (z : Str), x = .str ⟨#[c]⟩ ∧ y = .str z ∧ Q (.bl (!decide (c ∈ z.cps.toList))) H) ∨ rIn K true x y H Q
theorem op_notInU {X : Cx} : OpR X (compareOp .NotIn) (rNotInU X.K) := OpR.or op_notIn_sign op_notIn_seq
def rSlU (K : PySem.W.Frag) : V → Option Int → Option Int → Hp → VK → Prop := fun x lo hi H Q => rSlS x lo hi H Q ∨ rSlLN K x lo hi H Q ∨ rSlTN K x lo hi H Q
theorem sl_U {X : Cx} : SlR X (rSlU X.K) := SlR.or sl_str (SlR.or sl_listN sl_tupN)
def rLenU (K : PySem.W.Frag) : List V → Hp → VK → Prop := fun xs H Q => (∃ z, xs = [.str z] ∧ z.length ≤ sizeLine ∧ Q (.int z.length) H) ∨ (∃ p ys, xs = [.ref p] ∧ (SqL K H p ys ∨ SqT K H p ys) ∧ Q (.int ys.length) H)
theorem cr_lenU {X : Cx} : CallR X (.builtin "len") (rLenU X.K) := CallR.or call_len_str call_len_seq

/-! ### a name of the module that holds a constant -/
theorem pe_gl {X : Cx} {x : Str} {v : V} {pos : Pos} (hm : ∃ u, X.mg x = some u ∧ RelV v u) (hg : Gl X x) (hd : (x == ("__debug__" : Str)) = false := by decide) : PE X (.Name x pos) (tC v) := by
  obtain ⟨u, hu, r⟩ := hm
  exact pe_glob hg hu r hd

/-! ### a def of the module that may be called -/
/-- no defaults, positional parameters; the promise sp, at level k -/
structure Cl (P : Program) (w : World) (K : PySem.W.Frag) (mg : Str → Option Value) (base : Heap) (k : Nat) (x : Str) (st : Stmt) (ps : List Str) (sp : Sp) : Prop where
  ex : ∃ (f : Addr) (fd : FuncData), FnOk P w K mg base CX0 k f fd ps sp ∧ mg x = some (.ref f) ∧ L2.Fun K x x st f fd
/-- a def as it stands behind the top -/
structure Df (K : PySem.W.Frag) (mg : Str → Option Value) (x : Str) (st : Stmt) : Prop where
  ex : ∃ (f : Addr) (fd : FuncData), mg x = some (.ref f) ∧ L2.Fun K x x st f fd
/-- how a def's positional arguments bind -/
def BindsSt (x : Str) (st : Stmt) (ps : List Str) : Prop := ∀ (kV doc pm : Value) (an : Option Addr) (cdv ct : Value) (us : List Value), us.length = ps.length →
  bindArgs (PySem.W.fnOf x x (defArgs st) (defBody st) (defScope st) .none kV doc pm an cdv ct) ⟨us, []⟩ = pure (ps.zip us)
/-- .. and how those of a call with n positional arguments and keywords ks do -/
def KBindsSt (x : Str) (st : Stmt) (ps : List Str) (n : Nat) (ks : List Str) (g : List Value → List Value → List Value) : Prop := ∀ (kV doc pm : Value) (an : Option Addr) (cdv ct : Value) (us ws : List Value), us.length = n → ws.length = ks.length →
  bindArgs (PySem.W.fnOf x x (defArgs st) (defBody st) (defScope st) .none kV doc pm an cdv ct) ⟨us, ks.zip ws⟩ = pure (ps.zip (g us ws))
section
variable {P : Program} {w : World} {K : PySem.W.Frag} {mg : Str → Option Value} {base : Heap}
theorem Cl.mk' {x : Str} {st : Stmt} {N ps : List Str} {k : Nat} {sp : Sp} (F : Df K mg x st) (S : FnScope N ps (defScope st)) (len : ∀ vs H Q E, sp vs H Q E → vs.length = ps.length)
    (hbody : ∀ (f : Addr) (cdv : Value) (A : Around) (outer : List Env) (s : Shared) (H : Hp) (vs : List V) (Q : VK) (E : XK), Room k (A.deeper (envOfC x (defScope st) s.heap.objs.size f cdv)) → sp vs H Q E →
      ∃ t, PSs (cxOf CX0 P w K mg base N x (defScope st) f cdv A outer s H E).nox (defBody st) t ∧ t { nx := fun _ H' => Q .non H', rt := Q } (start N vs) H) : Cl P w K mg base (k + 1) x st ps sp := by
  obtain ⟨f, fd, hm, F⟩ := F.ex
  exact ⟨f, fd, F.ok S len fun cdv A outer s H vs Q E hr h => hbody f cdv A outer s H vs Q E hr h, hm, F⟩
end
section
variable {X : Cx} {k j : Nat} {x : Str} {st : Stmt} {ps : List Str} {sp : Sp} {p pos : Pos} {e : Expr} {es : List Expr} {t tk : TA}
/-- f(a, ..) -/
theorem pe_f (c : Cl X.prog X.w X.K X.mg X.base k x st ps sp) (b : BindsSt x st ps) (hr : Room j X.A) (hk : k ≤ j) (hg : Gl X x) (ha : PA X (e :: es) t)
    (hdb : (x == ("__debug__" : Str)) = false := by decide) (he : starEach (e :: es) X.env = (false, eval e X.env) :: starEach es X.env := by rfl) (hpl : (backTo pos (starEach es X.env)).any (·.1) = false := by rfl) :
    PE X (.Call (.Name x p) (e :: es) [] pos) (tCall sp [] E0 t) := by
  obtain ⟨f, fd, F, hm, L⟩ := c.ex
  exact pe_call F (hr.mono hk) hg hm L.kp (L.binds b) .nil pass0 ha hdb he hpl
/-- f(k = v, ..) -/
theorem pe_f0 {kws : List Keyword} {ks : List Str} {g : List Value → List Value → List Value} {gV : List V → List V → List V} (c : Cl X.prog X.w X.K X.mg X.base k x st ps sp) (b : KBindsSt x st ps 0 ks g)
    (rel : ∀ {vs : List V} {us : List Value} {zs : List V} {ws : List Value}, Vals vs us → Vals zs ws → Vals (gV vs zs) (g us ws)) (hr : Room j X.A) (hk : k ≤ j) (hg : Gl X x) (hkw : PK X kws tk)
    (hall : (backToKw pos (keywordEach kws X.env)).all (·.1.isSome) = true := by rfl) (hks : (backToKw pos (keywordEach kws X.env)).filterMap (·.1) = ks := by rfl) (hdb : (x == ("__debug__" : Str)) = false := by decide)
    (hpl : ((backTo pos (starEach [] X.env)).any (·.1) || (backToKw pos (keywordEach kws X.env)).any (·.1.isNone)) = false := by rfl) :
    PE X (.Call (.Name x p) [] kws pos) (tCallN 0 ks.length sp gV E0 tNil tk) := by
  obtain ⟨f, fd, F, hm, L⟩ := c.ex
  have hb : KBn X.K fd ps 0 ks g gV := by
    obtain ⟨oc, od, kV, doc, pm, an, cdv, ct, osl, rfl, lk, hcd⟩ := L.ex
    exact ⟨fun s us ws _ l1 l2 => .of_eq (b kV doc pm an cdv ct us ws l1 l2), rel⟩
  refine ⟨fun pins s σ H Q I h => ?_⟩
  refine wpAny_Call_Name_kw (ld_glob I hg hm ?_ hdb)
  refine PySem.W.callWith_KW0 (h₀ := X.base) I.ok.mod.kin L.kp hall ?_ hpl
  refine thn (hkw.run pos pins s σ H _ I h) fun ws s2 ⟨zs, H2, I2, rz, l1, l2, q2⟩ => ⟨I2.kIn, ?_⟩
  rw [hks]
  exact run_fnN (us := []) (vs := []) F (hr.mono hk) hb pass0 I2 .nil rz rfl l2 q2
/-- f(a, .., k = v, ..) -/
theorem pe_fk {n : Nat} {kws : List Keyword} {ks : List Str} {g : List Value → List Value → List Value} {gV : List V → List V → List V} (c : Cl X.prog X.w X.K X.mg X.base k x st ps sp) (b : KBindsSt x st ps n ks g)
    (rel : ∀ {vs : List V} {us : List Value} {zs : List V} {ws : List Value}, Vals vs us → Vals zs ws → Vals (gV vs zs) (g us ws)) (hr : Room j X.A) (hk : k ≤ j) (hg : Gl X x) (ha : PA X (e :: es) t) (hkw : PK X kws tk)
    (hall : (backToKw pos (keywordEach kws X.env)).all (·.1.isSome) = true := by rfl) (hks : (backToKw pos (keywordEach kws X.env)).filterMap (·.1) = ks := by rfl) (hdb : (x == ("__debug__" : Str)) = false := by decide)
    (he : starEach (e :: es) X.env = (false, eval e X.env) :: starEach es X.env := by rfl) (hpl : ((backTo pos (starEach (e :: es) X.env)).any (·.1) || (backToKw pos (keywordEach kws X.env)).any (·.1.isNone)) = false := by rfl) :
    PE X (.Call (.Name x p) (e :: es) kws pos) (tCallN n ks.length sp gV E0 t tk) := by
  obtain ⟨f, fd, F, hm, L⟩ := c.ex
  have hb : KBn X.K fd ps n ks g gV := by
    obtain ⟨oc, od, kV, doc, pm, an, cdv, ct, osl, rfl, lk, hcd⟩ := L.ex
    exact ⟨fun s us ws _ l1 l2 => .of_eq (b kV doc pm an cdv ct us ws l1 l2), rel⟩
  exact pe_callN F (hr.mono hk) hg hm L.kp hb pass0 ha hkw hall hks hdb he hpl
end
theorem df_mk {K : PySem.W.Frag} {mg : Str → Option Value} {h : Heap} (X : K.In h) (G : h.Ns mainGlobals mg) {x : Str} {st : Stmt} {f : Addr} {oc : Value} {od an : Option Addr} {osl : Array (Option Value)} {kV doc pm cdv ct : Value}
    (a : PySem.W.nsIn K mainGlobals x = some (some (.ref f))) (l : K.lookup f = some ⟨oc, od, .func (PySem.W.fnOf x x (defArgs st) (defBody st) (defScope st) .none kV doc pm an cdv ct), osl⟩)
    (c : PySem.W.codeIn K cdv x = true) (k : PySem.W.keepIn K (.ref f) = true) : Df K mg x st := ⟨f, _, PySem.W.mg_of X G a, fun_mk (st := st) l c k⟩

end BB

/-! BB, readings: texts as lists of codes, walks, comprehensions, keyword orders. -/
namespace BB
open PySem PySem.Spec PyProof.Rows L2

/-! ### the arguments in another order -/
def pick {α : Type} (ix : List Nat) (us ws : List α) : List α := ix.filterMap fun i => (us ++ ws)[i]?
theorem pick_rel (ix : List Nat) {vs : List V} {us : List Value} {zs : List V} {ws : List Value} (r : Vals vs us) (q : Vals zs ws) : Vals (pick ix vs zs) (pick ix us ws) := by
  have r2 := Vals.append r q
  unfold pick
  induction ix with
  | nil => exact .nil
  | cons i ix ih =>
    rw [List.filterMap_cons, List.filterMap_cons]
    cases e : (vs ++ zs)[i]? with
    | none =>
      rw [Vals.none_of r2 e]
      exact ih
    | some x =>
      obtain ⟨u, e2, r3⟩ := Vals.get r2 e
      rw [e2]
      exact .cons r3 ih

/-! ### texts -/
abbrev S (l : List Nat) : Str := ⟨l.toArray⟩
abbrev W (l : List Nat) : V := .str (S l)
theorem S_len (l : List Nat) : (S l).length = l.length := by simp [Str.length]
theorem S_cps (l : List Nat) : (S l).cps.toList = l := rfl
theorem S_app (a b : List Nat) : S a ++ S b = S (a ++ b) := congrArg Str.mk (show a.toArray ++ b.toArray = (a ++ b).toArray by simp)
theorem S_inj {a b : List Nat} (h : S a = S b) : a = b := by
  have e := congrArg (fun z : Str => z.cps.toList) h
  exact e
theorem W_inj {a b : List Nat} (h : W a = W b) : a = b := S_inj (V.str.inj h)
theorem W_dec (a b : List Nat) : decide (W a = W b) = (a == b) := by
  by_cases e : a = b
  · subst e
    simp
  · rw [decide_eq_false fun h => e (W_inj h)]
    exact (beq_eq_false_iff_ne.mpr e).symm
theorem S_mul (l : List Nat) (n : Nat) : txtMul (S l) n = S (List.replicate n l).flatten := rfl
theorem S_to (l : List Nat) (k : Nat) : cutS (S l) none (some (k : Int)) = S (l.take k) := by
  unfold cutS
  rw [HT.sIx_none, HT.sIx_nat, S_cps, S_len, List.drop_zero, Nat.sub_zero]
  congr 2
  rw [← List.take_take, List.take_length]
theorem S_from (l : List Nat) (k : Nat) : cutS (S l) (some (k : Int)) none = S (l.drop k) := by
  unfold cutS
  rw [HT.sIx_none, HT.sIx_nat, S_cps, S_len]
  congr 2
  rw [List.take_of_length_le (by rw [List.length_drop]; omega)]
  by_cases h : k ≤ l.length
  · rw [Nat.min_eq_left h]
  · rw [Nat.min_eq_right (by omega), List.drop_of_length_le (Nat.le_refl _), List.drop_of_length_le (by omega)]
theorem S_at {l : List Nat} {k : Nat} (h : k < l.length) : atI (S l).cps.toList (k : Int) = some (l.getD k 0) := by
  rw [S_cps, atI_nat (v := l.getD k 0)]
  rw [List.getElem?_eq_getElem h, List.getD_eq_getElem?_getD, List.getElem?_eq_getElem h]
  rfl
theorem S_small {l : List Nat} {n : Nat} (h : l.length ≤ 1000000) : (S l).length ≤ sizeLine := by
  rw [S_len]
  exact small1m h
theorem cutV_from (xs : List V) (k : Nat) : cutV xs (some (k : Int)) none = xs.drop k := by
  unfold cutV
  rw [HT.sIx_none, HT.sIx_nat]
  rw [List.take_of_length_le (by rw [List.length_drop]; omega)]
  by_cases h : k ≤ xs.length
  · rw [Nat.min_eq_left h]
  · rw [Nat.min_eq_right (by omega), List.drop_of_length_le (Nat.le_refl _), List.drop_of_length_le (by omega)]
theorem mod_nat (a b : Nat) : ((a : Int) % (b : Int)) = ((a % b : Nat) : Int) := (Int.natCast_emod a b).symm
theorem div_nat (a b : Nat) : ((a : Int) / (b : Int)) = ((a / b : Nat) : Int) := (Int.natCast_ediv a b).symm

/-! ### a comprehension that changes nothing -/
/-- turn i gives f i, none if it is left out -/
theorem lcP {J : It} {n : Nat} {G : Hp → Prop} {Y : Nat → Hp → V → Hp → Prop} (w : Walk J n G Y) (f : Nat → Option V) {g : TG} {tt : TT} {te : TE} {vs : List Nat} {σ : L2.St} {H1 : Hp} {D : Addr} {Qd : Hp → Prop} (nD : H1 D = none)
    (hn : n ≤ 1000000) (hG : ∀ H, Same H1 H → G H)
    (hs : ∀ i x H H', i < n → Same H1 H → Y i H x H' → ∀ (Ky : V → Hp → Prop) (Kn : Hp → Prop), (∀ y H4, Same H H4 → f i = some y → Ky y H4) → (∀ H3, Same H H3 → f i = none → Kn H3) →
      g x (wipe σ vs) H' fun σ2 H2 => wipe σ2 vs = wipe σ vs ∧ tt σ2 H2 fun b H3 => if b = true then te σ2 H3 Ky else Kn H3)
    (hd : ∀ H, Same H1 H → H D = some (.lst ((List.range n).filterMap f)) → Qd H) :
    ∃ W : Nat → Nat → Hp → Prop, (∃ m, W 0 m (upd H1 D (.lst []))) ∧ ∀ i m H, W i m H →
      (J.stop i H ∧ Qd H) ∨ (J.go i H ∧ ∃ Nx : Hp → Prop, (∀ H', Nx H' → ∃ m', m' < m ∧ W (i + 1) m' H') ∧ ∀ x H', J.yld i H x H' → g x (wipe σ vs) H' fun σ2 H2 => wipe σ2 vs = wipe σ vs ∧ tt σ2 H2 fun b H3 =>
        if b = true then te σ2 H3 fun y H4 => ∃ acc, H4 D = some (.lst acc) ∧ acc.length < sizeLine ∧ Nx (upd H4 D (.lst (acc ++ [y]))) else Nx H3) := by
  refine lc_it w (fun i H => Same H1 H ∧ H D = some (.lst ((List.range i).filterMap f))) ⟨same_new nD, upd_same⟩ (fun i H _ p => hG H p.1) (fun i x H H' hi p y => ?_) (fun H p => hd H p.1 p.2)
  refine hs i x H H' hi p.1 y _ _ (fun y H4 s e => ⟨_, s _ _ p.2, ?_, Same.put (p.1.trans s) nD, ?_⟩) (fun H3 s e => ⟨p.1.trans s, ?_⟩)
  · have h1 : ((List.range i).filterMap f).length ≤ i := by
      have := List.length_filterMap_le f (List.range i)
      rw [List.length_range] at this
      exact this
    exact Nat.lt_of_lt_of_le (show ((List.range i).filterMap f).length < 1000000 by omega) (by decide)
  · rw [upd_same, List.range_succ, List.filterMap_append]
    simp [e]
  · rw [s _ _ p.2, List.range_succ, List.filterMap_append]
    simp [e]
theorem fm_map {α : Type} (f : Nat → α) (n : Nat) : (List.range n).filterMap (fun i => some (f i)) = (List.range n).map f := by
  rw [List.filterMap_eq_map']
theorem range_map_list {α β : Type} (xs : List α) (d : α) (g : α → β) : (List.range xs.length).map (fun i => g (xs.getD i d)) = xs.map g := by
  apply List.ext_getElem (by simp)
  intro i h1 h2
  simp at h1
  simp [h1]
theorem getElem?_some_lt {α : Type} {l : List α} {i : Nat} {x : α} (h : l[i]? = some x) : i < l.length := (List.getElem?_eq_some_iff.mp h).1
/-- a for without a break whose state is told by the turn -/
theorem ite_b {c : Bool} {A B : Prop} (h1 : c = true → A) (h2 : c = false → B) : if c = true then A else B := by
  cases c with
  | true => exact h1 rfl
  | false => exact h2 rfl
theorem dec_int (a b : Int) : decide (V.int a = V.int b) = decide (a = b) := by
  by_cases e : a = b
  · subst e
    simp
  · rw [decide_eq_false e, decide_eq_false fun h => e (V.int.inj h)]

/-! ### draws: a list of two numbers that a def changes -/
def IsBox (H : Hp) (b : Addr) : Prop := ∃ g s : Int, H b = some (.lst [.int g, .int s]) ∧ 0 ≤ g ∧ 0 ≤ s ∧ s < 2 ^ 62
theorem IsBox.same {H H' : Hp} {b : Addr} (x : Same H H') (h : IsBox H b) : IsBox H' b := by
  obtain ⟨g, s, e, q⟩ := h
  exact ⟨g, s, x _ _ e, q⟩
/-- all but the box stands, the box is one -/
def Dr (b : Addr) (H H' : Hp) : Prop := SameB b H H' ∧ IsBox H' b
theorem Dr.trans {b : Addr} {H H1 H2 : Hp} (x : Dr b H H1) (y : Dr b H1 H2) : Dr b H H2 := ⟨x.1.trans y.1, y.2⟩
theorem Dr.of {b : Addr} {H H' : Hp} (h : IsBox H b) (x : Same H H') : Dr b H H' := ⟨SameB.of x, h.same x⟩
theorem Dr.then {b : Addr} {H H1 H2 : Hp} (x : Dr b H H1) (y : Same H1 H2) : Dr b H H2 := ⟨x.1.trans (SameB.of y), x.2.same y⟩
theorem Dr.seq {K : PySem.W.Frag} {b : Addr} {H H' : Hp} {a : Addr} {xs : List V} (x : Dr b H H') (hn : a ≠ b) (h : SqL K H a xs) : SqL K H' a xs := seqB x.1 hn h
end BB
namespace BB
open PySem PySem.Spec PyProof.Rows L2
theorem join_codes (ls : List (List Nat)) : PySem.Txt.join (S []) (ls.map S) = S ls.flatten := by
  have e : TL.tl (PySem.Txt.join (S []) (ls.map S)) = ls.flatten := by
    rw [TL.join_eq, TL.tl_join]
    have e2 : (ls.map S).map TL.tl = ls := by
      rw [List.map_map]
      exact List.map_id'' (fun _ => rfl) ls
    rw [e2]
    show TL.joinL [] ls = ls.flatten
    induction ls with
    | nil => rfl
    | cons a r ih =>
      cases r with
      | nil => simp [TL.joinL]
      | cons b r =>
        show a ++ ([] ++ TL.joinL [] (b :: r)) = _
        rw [ih (by rw [List.map_map]; exact List.map_id'' (fun _ => rfl) _)]
        simp
  have e3 : (PySem.Txt.join (S []) (ls.map S)).cps.toList = (S ls.flatten).cps.toList := e
  generalize PySem.Txt.join (S []) (ls.map S) = z at e3
  obtain ⟨⟨l⟩⟩ := z
  exact congrArg (fun l => Str.mk (Array.mk l)) e3
end BB

namespace BB
open PySem PySem.Spec PyProof.Rows L2
theorem divW {i j : Int} (h : 0 < j) (h2 : j < 2 ^ 62) : CDivW i j := wide_div (b := 62) h (by omega) (by decide) (by decide)
theorem fm_self {α : Type} : ∀ l : List α, (List.range l.length).filterMap (fun (i : Nat) => l[i]?) = l
  | [] => rfl
  | a :: r => by
    rw [List.length_cons, List.range_succ_eq_map, List.filterMap_cons, List.filterMap_map]
    show a :: (List.range r.length).filterMap (fun (i : Nat) => r[i]?) = a :: r
    rw [fm_self r]
theorem fm_filter {α : Type} (c : Nat → Bool) (g : Nat → α) : ∀ l : List Nat, (l.filterMap fun i => if c i = true then none else some (g i)) = (l.filter fun i => !c i).map g
  | [] => rfl
  | a :: r => by
    rw [List.filterMap_cons, List.filter_cons, fm_filter c g r]
    cases h : c a <;> simp
theorem dr_same0 {H0 H H' : Hp} {b : Addr} (s : Same H0 H) (h : H0 b = none) (d : Dr b H H') : Same H0 H' := fun a o e => d.1 a o (ne_of_none e h) (s a o e)
end BB

namespace BB
open PySem PySem.Spec PyProof.Rows L2
/-- no test: the element -/
theorem yes {te : TE} {σ : L2.St} {H : Hp} {Ky : V → Hp → Prop} {Kn : Hp → Prop} (h : te σ H Ky) : tYes σ H (fun b H3 => if b = true then te σ H3 Ky else Kn H3) := h
end BB

namespace BB
open PySem PySem.Spec PyProof.Rows L2
theorem IsBox.ne {H : Hp} {b p : Addr} (h : IsBox H b) (np : H p = none) : p ≠ b := by
  obtain ⟨g, s, e, _⟩ := h
  exact (ne_of_none e np).symm
end BB

namespace BB
open PySem PySem.Spec PyProof.Rows L2
/-- the law's own promise, as the end wants it -/
theorem law_end {P : Program} {w : World} {K : PySem.W.Frag} {mg : Str → Option Value} {k : Nat} {x y : Str} {st : Stmt} {sp : Sp} {fa : Addr} (D : Df K mg y st) (b : BindsSt y st [x]) (hfa : mg y = some (.ref fa))
    (h : ∀ base : Heap, K.In base → base.Ns mainGlobals mg → Cl P w K mg base k y st [x] sp) :
    ∃ fd : FuncData, (∀ (s : Shared) (u : Value), BindsTo s fd ⟨[u], []⟩ [(x, u)]) ∧ ∀ base : Heap, K.In base → base.Ns mainGlobals mg → FnOk P w K mg base CX0 k fa fd [x] sp := by
  obtain ⟨f, fd, hm, F⟩ := D.ex
  have e := hfa.symm.trans hm
  cases e
  refine ⟨fd, fun s u => ?_, fun base h1 h2 => ?_⟩
  · obtain ⟨oc, od, kV, doc, pm, an, cdv, ct, osl, rfl, lk, hcd⟩ := F.ex
    exact .of_eq (b kV doc pm an cdv ct [u] rfl)
  · obtain ⟨f2, fd2, O, hm2, F2⟩ := (h base h1 h2).ex
    have e2 := hfa.symm.trans hm2
    cases e2
    obtain ⟨_, _, _, _, _, _, _, _, _, _, l1, _⟩ := F.ex
    obtain ⟨_, _, _, _, _, _, _, _, _, _, l2, _⟩ := F2.ex
    have e3 := l1.symm.trans l2
    simp only [Option.some.injEq, Obj.mk.injEq, Data.func.injEq] at e3
    obtain ⟨_, _, e4, _⟩ := e3
    rw [e4]
    exact O
end BB

/-! BB, errors: a class of one's own below another one below Exception, whose __init__ says super().__init__(text) and stores its argument. -/
namespace BBX
open PySem PySem.W PySem.Spec PySem.Calls PyProof.Rows
abbrev tail2 (B : Addr) : List Value := .ref B :: ESX.exTail
/-- def __init__(self, f): super().__init__('..'); self.f = f -/
structure ErrBody (f : Str) (params : Arguments) (body : List Stmt) (scope : Scope) : Prop where
  self : ∃ ar : Arg, (params.posonlyargs ++ params.args).head? = some ar ∧ ar.arg = "self"
  bind : ∀ (name qual : Str) (kV doc pm cdv ct : Value) (an : Option Addr) (cc : Addr) (u v : Value), bindArgs (ksFn name qual params body scope .none kV doc pm an cdv ct cc) ⟨[u, v], []⟩ = pure [(("self" : Str), u), (f, v)]
  body : ∃ (msg : Str) (j : Nat) (p0 p1 p2 p3 p4 p5 p6 p7 p8 p9 : Pos) (pl : Sem Bool), body = [.Expr (.Call (.Attribute (.Call (.Name "super" p0) [] [] p1) "__init__" p2) [.Constant (.str msg) j p3] [] p4) p5, .Assign [.Attribute (.Name "self" p6) f p7] (.Name f p8) p9] ∧
    (∀ env : Env, eval (.Call (.Attribute (.Call (.Name "super" p0) [] [] p1) "__init__" p2) [.Constant (.str msg) j p3] [] p4) env = (do
      let ov ← attributeBase (.Call (.Name "super" p0) [] [] p1) "__init__" env (eval (.Call (.Name "super" p0) [] [] p1) env)
      standAt p2.atName
      let (f, first) ← holding [ov] (getMethod ov "__init__" pl)
      callWith p4 f first (backTo p4 (starEach [.Constant (.str msg) j p3] env)) [])) ∧
    (∀ env : Env, swapsWith (.Call (.Attribute (.Call (.Name "super" p0) [] [] p1) "__init__" p2) [.Constant (.str msg) j p3] [] p4) none p5.line env = pure false) ∧
    (∀ env : Env, swapsWith (.Name f p8) (some (.Attribute (.Name "self" p6) f p7)) p9.line env = pure false)
  kind : scope.kind = .function
  co : scope.isCoroutine = false
  gen : scope.isGenerator = false
  cells : ∀ x ∈ scope.names, x.2 ≠ .cell
  nself : scope.names.lookup ("self" : Str) = some .local
  nf : scope.names.lookup f = some .local
  nsup : scope.names.lookup ("super" : Str) = some .globalImplicit
  ncls : scope.names.lookup ("__class__" : Str) = some .free
  fs : ¬ f = "self"
  fd : (f == ("__debug__" : Str)) = false
/-- what the written part says of such a class at C, its base's class at B -/
structure ErrC (P : Program) (K : Frag) (B C : Addr) (f : Str) : Prop where
  cls : ∃ nm q N bs sn sub ab col dd k0 k1 k2 k3 k5, K.lookup C = some (excClassObj nm q C N bs (tail2 B) true sn sub ab col dd k0 k1 k2 k3 k5 "Exception.__new__")
  sa : findIn K (.ref C) "__setattr__" = some (some (.builtin "object.__setattr__"))
  nf : findIn K (.ref C) f = some none
  al : alongIn K "__init__" (tail2 B) = some (some (.builtin "Exception.__init__"))
  exC : subIn K (.ref C) (.type "BaseException") = some true
  tyC : typeIn K (.ref C) = some (.type "type")
  kC : keepIn K (.ref C) = true
  sup : nsIn K mainGlobals "super" = some none
  opq : nsIn K cStatics "thirdparty.any" = some none
  top : (P.main.scope.names.lookup ("super" : Str)).isSome = false
  init : ∃ (fI cc cda : Addr) (qual : Str) (params : Arguments) (body : List Stmt) (scope : Scope) (kV doc pm ct oc : Value) (an od : Option Addr) (osl : Array (Option Value)),
    findIn K (.ref C) "__init__" = some (some (.ref fI)) ∧ typeIn K (.ref fI) = some (.type "function") ∧ K.lookup fI = some ⟨oc, od, .func (ksFn "__init__" qual params body scope .none kV doc pm an (.ref cda) ct cc), osl⟩ ∧ codeIn K (.ref cda) qual = true ∧ ErrBody f params body scope ∧
    (∃ (vs : Array Value) (file : Str) (tf : Tok) (ccl : Value) (cdd : Option Addr) (ccs : Array (Option Value)), K.lookup cda = some ⟨ccl, cdd, .fields vs, ccs⟩ ∧ vs[2]? = some (.str file tf) ∧ ((P.main.file : Str) == file) = true) ∧
    (∃ (cl : Value) (cld : Option Addr) (csl : Array (Option Value)), K.lookup cc = some ⟨cl, cld, .cell (some (.ref C)), csl⟩)
section
variable {P : Program} {w : World} {A : Around} {E : Value → Shared → Prop} {R : Result → Shared → Prop} {hp : Heap} {g : Array GenState} {d : Drawn} {t : Nat} {os : OsState} {K : Frag} {B C : Addr} {f : Str}
theorem clsIn_of (T : ErrC P K B C f) : ∃ cd : ClassData, clsIn K C = some cd ∧ cd.mro = .ref C :: tail2 B ∧ cd.hasDict = true := by
  obtain ⟨nm, q, N, bs, sn, sub, ab, col, dd, k0, k1, k2, k3, k5, hC⟩ := T.cls
  exact ⟨{ name := nm, bases := bs, mro := .ref C :: tail2 B, ns := N, qualname := q, hasDict := true, slotNames := sn, subclasses := sub, abstract := ab, collection := col }, by unfold clsIn; rw [hC] <;> rfl, rfl, rfl⟩
theorem mro_in (T : ErrC P K B C f) {b : Value} (hb : (Value.ref C :: tail2 B).contains b = true) : mroIn K C b = some true := by
  obtain ⟨cd, h1, h2, _⟩ := clsIn_of T
  unfold mroIn
  rw [h1, Option.bind_some, h2, if_neg (show ¬ (List.isEmpty (Value.ref C :: tail2 B) = true) from Bool.false_ne_true), hb]
theorem has_type (X : String) (hX : ESX.exTail.contains (.type X) = true) : (Value.ref C :: tail2 B).contains (.type X) = true := by
  rw [List.contains_cons, List.contains_cons, hX, Bool.or_true, Bool.or_true]
theorem bm_types (X : String) : (tail2 B).contains (.type X) = ESX.exTail.contains (.type X) := by
  rw [List.contains_cons]
  rw [show ((Value.type X) == Value.ref B) = false from rfl, Bool.false_or]
open Builtin Builtin.ObjectAttr in
/-- self.f = v where no dict stands yet -/
theorem osa_new2 (T : ErrC P K B C f) {tk : Tok} {v : Value} {x : Addr} {fv : Array Value} (X : K.In hp) (hx : hp.get? x = some { cls := .ref C, data := .fields fv })
    (hq : ∀ h' tk' dx, (∀ b o, b ≠ x → hp.get? b = some o → h'.get? b = some o) → hp.objs.size ≤ dx → dx ≠ x → h'.get? x = some { cls := .ref C, dict := some dx, data := .fields fv } →
      h'.Ns1 dx (fun y => if y = f then some v else none) → R (.ok (.ret .none)) ⟨h', g, d, tk', os⟩) :
    codeAny (model P w) A (.call (.builtin "object.__setattr__") ⟨[.ref x, .str f tk, v], []⟩) R ⟨hp, g, d, t, os⟩ := by
  obtain ⟨cd, hcd, hm, hh⟩ := clsIn_of T
  have I : InstAt hp x { cls := .ref C, data := .fields fv } C none := ⟨hx, rfl, rfl, trivial⟩
  have hxs : x ≠ hp.objs.size := Nat.ne_of_lt (Heap.lt_size hx)
  have SF := F.store_object
  have sub : Looks (model P w) hp (isInstance (.ref x) (.type "object")) true := I.type.andThen (looks_mroIn X (mro_in T (has_type "object" (by decide +kernel))))
  refine codeAny_call_builtin SF.slot.plain SF.entry (@check_slot (model P w) _ _ ⟨hp, g, d, t, os⟩ "object.__setattr__" "object" "__setattr__" (.ref x) [.str f tk, v] [] _ SF.kind SF.split sub (SF.args (.ref x) (.str f tk) v) ?_)
  have hmr : Looks (model P w) hp (mroOf (.ref C)) cd.mro := (looks_clsIn X hcd).andThen .now
  have L3 : Looks (model P w) hp (storeTaker? none) none := .now
  have hpass : refuseLoop (.ref x) "__setattr__" cd.mro = pure () := by
    rw [hm, refuseLoop_ref, refuseLoop_ref]
    exact F.store_Exception.passes _
  rw [osa_eq, refuse_eq]
  refine wpAny_bind (wpAny_bind (I.type.at (wpAny_bind (hmr.at ?_))))
  rw [hpass]
  refine wpAny_pure (wpAny_bind (I.type.at (wpAny_bind ((looks_findIn X T.nf).at (wpAny_bind (L3.at ?_))))))
  have hcls : Looks (model P w) hp (classData C) cd := looks_clsIn X hcd
  obtain ⟨nm, bs, mro, ns, qn, hd, sn, sb, ab, col, del⟩ := cd
  dsimp only at hh
  subst hh
  show wpAny (model P w) A.in1 (storeInOwnDict (.ref x) (.ref C) (.str f tk) f v false) _ _ _
  unfold storeInOwnDict ownDictForStores
  repeat (first | with_reducible refine HandSPX.store_in_new ?_ ?_ | with_reducible refine wpAny_loadPart_at hx ?_ | with_reducible refine hcls.at ?_ | wp_step)
  · exact ⟨_, #[], _, (Heap.get?_update_ne _ _ _ _ hxs.symm).trans (Heap.get?_push_at rfl rfl), rfl, fun e he => absurd he (by simp), fun _ => rfl⟩
  · intro h' tk' hn' hs
    have hx₁ : (hp.push { cls := .type "dict", data := .dict #[] }).get? x = some { cls := .ref C, data := .fields fv } := Heap.get?_push_of_some _ hx
    refine hq h' tk' hp.objs.size (fun b o hb ho => ?_) (Nat.le_refl _) hxs.symm ?_ hn'
    · exact (hs.2 b (Nat.ne_of_lt (Heap.lt_size ho))).trans ((Heap.get?_update_ne _ _ _ _ hb).trans (Heap.get?_push_of_some _ ho))
    · exact (hs.2 x hxs).trans (Heap.get?_update_self _ hx₁ rfl)
/-- __init__ of such a class, called -/
theorem init_run (T : ErrC P K B C f) {e t0 : Addr} {u : Value} {fI : Addr} {mg mb : Str → Option Value} (hI : findIn K (.ref C) "__init__" = some (some (.ref fI))) (X : K.In hp) (he : hp.get? e = some (HandSPX.excO C t0)) (hroom : A.depth < recursionLimit) (hlim : hp.NoLimit) (hKe : ∀ a o, K.lookup a = some o → a ≠ e)
    (hgl : hp.Ns mainGlobals mg) (hms : mg "super" = none) (hbl : hp.Ns builtinsNs mb) (hmb : mb "super" = some (.type "super"))
    (hR : ∀ h' t' dx t1, (∀ b o, b ≠ e → hp.get? b = some o → h'.get? b = some o) → hp.objs.size ≤ dx → dx ≠ e → h'.get? e = some { cls := .ref C, dict := some dx, data := .fields #[.ref t1, .none, .none, .none, .bool false, .none] } →
      h'.Ns1 dx (fun y => if y = f then some u else none) → R (.ok (.ret .none)) ⟨h', g, d, t', os⟩) :
    codeAny (model P w) A (.call (.ref fI) ⟨[.ref e, u], []⟩) R ⟨hp, g, d, t, os⟩ := by
  obtain ⟨fI', cc, cda, qual, params, body, scope, kV, doc, pm, ct, oc, an, od, osl, hI', htI, lk, hcd, SB, ⟨vs, file, tf, ccl, cdd, ccs, hcode, hvs, hfile⟩, ⟨cl, cld, csl, hcell⟩⟩ := T.init
  have ef : fI' = fI := by
    rw [hI] at hI'
    exact (Value.ref.inj (Option.some.inj (Option.some.inj hI'))).symm
  subst ef
  obtain ⟨ar, har, harg⟩ := SB.self
  obtain ⟨msg, j, p0, p1, p2, p3, p4, p5, p6, p7, p8, p9, pl, hbody, hev, hsw1, hsw2⟩ := SB.body
  obtain ⟨nm, q, N, bs, sn, sub, ab, col, dd, k0, k1, k2, k3, k5, hC⟩ := T.cls
  obtain ⟨cd, hcdC, hm, hh⟩ := clsIn_of T
  refine ks_codeAny_call_defAt (fd := ksFn "__init__" qual params body scope .none kV doc pm an (.ref cda) ct cc) (body := body) (binds := [(("self" : Str), .ref e), (f, u)]) hroom (X _ _ lk) rfl hlim (codeRec_of X hcd) rfl (.of_eq (SB.bind _ _ _ _ _ _ _ _ _ _ _)) SB.cells (fun x hx => ?_) (fun h₀ hns hk => ?_) SB.co SB.gen SB.kind
  · rcases List.mem_cons.mp hx with rfl | hx
    · exact SB.nself
    · rcases List.mem_cons.mp hx with rfl | hx
      · exact SB.nf
      · cases hx
  subst hbody
  have X0 : K.In h₀ := X.keeps hk
  have he0 := hk _ _ he
  have hse : hns = hns := rfl
  have lself : (List.lookup ("self" : Str) [(f, u), (("self" : Str), Value.ref e)]) = some (.ref e) := by
    have : (("self" : Str) == f) = false := beq_eq_false_iff_ne.mpr fun z => SB.fs z.symm
    simp [List.lookup, this]
  have lf : (List.lookup f [(f, u), (("self" : Str), Value.ref e)]) = some u := by simp [List.lookup]
  have hint : ∀ env : Env, env.scope = scope → interactive env = false := fun env h => by
    unfold interactive
    rw [h, SB.kind]
    rfl
  refine ks_wpAt_execs_cons (ks_wpAt_Expr_any (ks_wpAt_MethodCall (pl := pl) (ks_wpAt_super_base (f := fI') (cc := cda) (fd := ksFn "__init__" qual params _ scope .none kV doc pm an (.ref cda) ct cc) (ar := ar) SB.nsup SB.ncls (by decide) rfl (X0 _ _ lk) rfl har rfl (X0 _ _ hcode) rfl hvs hfile T.top ?_) (hev _)) (hint _ rfl) (hsw1 _))
  refine ks_loadName_global SB.kind SB.nsup (loadGlobal_builtin (hgl.keeps hk) hms (hbl.keeps hk) hmb ⟨rfl, ?_⟩)
  refine wpAny_loadName_free SB.kind SB.ncls rfl ⟨_, X0 _ _ hcell, rfl⟩ ?_
  rw [harg]
  refine wpAny_loadName_local SB.kind SB.nself hns lself ?_
  have hC0 := X0 _ _ hC
  refine ks_wpAny_isType_cls hC0 rfl ⟨rfl, ?_⟩
  have neC : e ≠ C := fun z => by
    subst z
    rw [he0] at hC0
    cases hC0
  refine ks_wpAny_call_super hC0 rfl he0 rfl (fun c z => by cases z) (looks_mroIn X0 (mro_in T (by rw [List.contains_cons, beq_self_eq_true, Bool.true_or]))) (fun h1 hso k1 => ?_)
  have X1 : K.In h1 := X0.keeps k1
  have I1 : InstAt h1 e { cls := .ref C, data := .fields #[.ref t0, .none, .none, .none, .bool false, .none] } C none := ⟨k1 _ _ he0, rfl, rfl, trivial⟩
  refine ESX.getMethod_super (l₀ := cd.mro) (l := tail2 B) hso (looks_opaque X1 T.opq) ((looks_clsIn X1 hcdC).andThen .now) (by rw [hm]; simp [List.dropWhile_cons]) X1 T.al neC (by decide)
    (I1.type.andThen (looks_mroIn X1 (mro_in T (has_type "Exception" (by decide +kernel))))) ?_
  refine ESX.callWith_bound (x := e) ?_
  refine PyProof.Rows.spliced_more (wpAny_Constant_str (PyProof.Rows.spliced_none ⟨Heap.get?_push_at rfl rfl, ?_⟩))
  refine ESX.call_bw (Heap.get?_push_of_some _ (k1 _ _ hC0)) (Heap.get?_push_of_some _ (k1 _ _ he0)) (Heap.get?_push_at rfl rfl) (by show 1 ≤ sizeLine; decide) (fun h2 t1 k2 he2 => ?_)
  have k02 : ∀ b o, b ≠ e → h₀.get? b = some o → h2.get? b = some o := fun b o n z => k2 b o n (Heap.get?_push_of_some _ (k1 _ _ z))
  have X2 : K.In h2 := fun a o z => k02 a o (hKe a o z) (X0 _ _ z)
  have hns2 : h2.Ns hp.objs.size (fun x => List.lookup x [(f, u), (("self" : Str), Value.ref e)]) := by
    obtain ⟨oL, es, ep, hL, r⟩ := hns
    refine ⟨oL, es, ep, k02 _ _ (fun z => ?_) hL, r⟩
    exact Nat.lt_irrefl _ (z ▸ Heap.lt_size he)
  refine wpAt_of_wpAny (wpAny_execs_cons (plainObj_wpAny_Assign_Attribute (wpAny_Name (wpAny_loadName_local SB.kind SB.nf hns2 lf ?_) SB.fd) (hsw2 _)))
  refine wpAny_Name (wpAny_loadName_local SB.kind SB.nself hns2 lself ?_) (by decide)
  refine set_plain X2 (ox := { cls := .ref C, data := .fields #[.ref t1, .none, .none, .none, .bool false, .none] }) (od := none) ⟨he2, rfl, rfl, trivial⟩ T.sa ?_
  refine osa_new2 T X2 he2 (fun h3 tk3 dx k3 l3 n3 he3 hn3 => ?_)
  refine wpAny_execs_nil ?_
  refine hR h3 tk3 dx t1 (fun b o n z => k3 b o n (k02 b o n (hk b o z))) ?_ n3 he3 hn3
  have hle : hp.objs.size ≤ h2.objs.size := by
    obtain ⟨oL, es, ep, hL, r⟩ := hns2
    exact Nat.le_of_lt (Heap.lt_size hL)
  exact Nat.le_trans hle l3
end
end BBX
namespace BB
open PySem PySem.Spec PyProof.Rows L2 BBX
section
variable {X : Cx} {B C : Addr} {f x : Str} {e : Expr} {es : List Expr} {ta : TA} {p pos : Pos} {k : Nat}
/-- C(e): an error of the class at C; its dict is new -/
def tErr (C : Addr) (f : Str) (ta : TA) : L2.St → Hp → XK → Prop := fun σ H Q => ta σ H fun vs H1 => ∃ v, vs = [v] ∧ ∀ d H2, H1 d = none → Same H1 H2 → H2 d = some (.xd [(f, v)]) → Q (.ref C) (some d) H2
theorem pmk_err (T : ErrC X.prog X.K B C f) (hr : Room (k + 1) X.A) (hg : Gl X x) (hm : X.mg x = some (.ref C)) (ha : PA X (e :: es) ta)
    (hdb : (x == ("__debug__" : Str)) = false := by decide) (he : starEach (e :: es) X.env = (false, eval e X.env) :: starEach es X.env := by rfl) (hpl : (backTo pos (starEach es X.env)).any (·.1) = false := by rfl) :
    PMk X (.Call (.Name x p) (e :: es) [] pos) (tErr C f ta) := by
  intro pins s σ H Q I h
  obtain ⟨nm, q, N, bs, sn, sub, ab, col, dd, k0, k1, k2, k3, k5, hC⟩ := T.cls
  obtain ⟨fI, cc, cda, qual, params, body, scope, kV, doc, pm, ct, oc, an, od, osl, hI, htI, _⟩ := T.init
  refine wpAny_Call_Name_kw (ld_glob I hg hm ?_ hdb)
  refine PySem.W.callWith_K (h₀ := X.base) I.ok.mod.kin T.kC (thn (ha.run pos pins s σ H _ I h) fun us s1 ⟨vs, H1, I1, r1, v, ev, q1⟩ => ⟨I1.kIn, ?_⟩) he hpl
  show wpAny _ _ (call (.ref C) us) _ _ _
  subst ev
  obtain ⟨u, rfl, ru⟩ : ∃ u, us = [u] ∧ RelV v u := by
    cases r1 with
    | cons a b => cases b with | nil => exact ⟨_, rfl, a⟩
  obtain ⟨hp, g, dr, tk, os⟩ := s1
  have kk : ∀ b o, hp.get? b = some o → ((hp.push (PySem.W.kdv_tup [u])).push (PySem.HandSPX.excO C hp.objs.size)).get? b = some o := fun b o e => Heap.get?_push_of_some _ (Heap.get?_push_of_some _ e)
  have hget : ((hp.push (PySem.W.kdv_tup [u])).push (PySem.HandSPX.excO C hp.objs.size)).get? (hp.objs.size + 1) = some (PySem.HandSPX.excO C hp.objs.size) := by heap_get
  obtain ⟨mb, hb1, hb2⟩ := I1.mod.blt
  have hms : X.mg "super" = none := by
    have hg2 : X.base.Ns mainGlobals X.mg := I1.mod.glob
    exact PySem.W.mg_none_of I1.ok.mod.kin hg2 T.sup
  refine wpAny_call (PySem.HandSPX.call_own PySem.F.excBase_Exception (fun Y => bm_types Y) (I1.kIn _ _ hC) (PySem.W.looks_findIn I1.kIn hI) (fun self => PySem.W.bind_fn I1.kIn self htI) (by show 1 ≤ sizeLine; decide)
    (init_run T hI (I1.kIn.keeps kk) hget (hr.make C [u] []).depth (I1.nolimit.keeps kk) (fun a o z e => ?_) ((I1.mod.glob.keeps I1.bk).keeps kk) hms ((hb1.keeps I1.bk).keeps kk) ((hb2 "super" (by decide)).trans (by decide +kernel)) (fun h' t' dx t1 kx lx nx hex hnx => ?_)))
  · have := I1.kIn _ _ z
    rw [e] at this
    have := Heap.lt_size this
    have h9 : hp.objs.size + 1 < hp.objs.size := this
    omega
  obtain ⟨G, g1', g2'⟩ := restrict h' fun b => decide (b ≠ hp.objs.size + 1)
  have gk : ∀ b, b ≠ hp.objs.size + 1 → G.get? b = h'.get? b := fun b hb => g1' b (decide_eq_true hb)
  have ge : G.get? (hp.objs.size + 1) = none := g2' _ (by simp)
  have lt : ∀ {b : Addr} {o : Obj}, hp.get? b = some o → b ≠ hp.objs.size + 1 := fun {b o} z w => by
    have h9 : b < hp.objs.size := Heap.lt_size z
    subst w
    exact absurd (Nat.lt_of_succ_lt h9) (Nat.lt_irrefl _)
  have kG : ∀ b o, hp.get? b = some o → G.get? b = some o := fun b o z => by
    rw [gk b (lt z)]
    exact kx b o (lt z) (kk b o z)
  have hdx : hp.objs.size ≤ dx := by
    have h9 : ((hp.push (PySem.W.kdv_tup [u])).push (PySem.HandSPX.excO C hp.objs.size)).objs.size ≤ dx := lx
    have h8 : hp.objs.size ≤ ((hp.push (PySem.W.kdv_tup [u])).push (PySem.HandSPX.excO C hp.objs.size)).objs.size := by
      exact Nat.le_of_lt (Nat.lt_of_succ_lt (Heap.lt_size hget))
    exact Nat.le_trans h8 h9
  have hfree : H1 dx = none := I1.hok.fresh hdx
  have J : Inv X pins σ (upd H1 dx (.xd [(f, v)])) ⟨G, g, dr, t', os⟩ := by
    refine I1.laid (t' := t') (a := dx) (o := .xd [(f, v)]) (h' := G) kG hdx ⟨_, hnx.at fun o z => (gk dx nx).trans z, fun y => ?_⟩
    have hl : List.lookup y [(f, v)] = if y = f then some v else none := by
      by_cases h : y = f
      · subst h
        simp [List.lookup]
      · have e : (y == f) = false := by simpa using h
        rw [if_neg h]
        simp [List.lookup, e]
    rw [hl]
    by_cases h : y = f
    · rw [if_pos h, if_pos h]
      exact ru
    · rw [if_neg h, if_neg h]
      exact True.intro
  refine ⟨rfl, ⟨_, _, _, ⟨G, g, dr, t', os⟩, _, .ref C, some dx, rfl, J, fun b o z => ?_, ge, hex, ⟨rfl, rfl⟩, rfl, rfl, ?_, rfl, I1.bare, raises_own T.exC T.tyC, q1 dx _ hfree (same_new hfree) upd_same⟩⟩
  · by_cases hb : b = hp.objs.size + 1
    · rw [hb] at z
      rw [ge] at z
      cases z
    · exact (gk b hb).symm.trans z
  · rw [upd_ne (Ne.symm nx)]
    exact I1.hok.fresh (Nat.le_succ _)
end
end BB

/-! BBx: defs, methods and classes that may raise; each call says what becomes of an error (a Takes); isinstance and fields of a caught error. -/
namespace BB
open PySem PySem.Spec PyProof.Rows L2 BBX

/-! ### calls -/
section
variable {X : Cx} {k : Nat} {f C : Addr} {fd : FuncData} {ps : List Str} {sp : Sp} {W : WX} {pins : List (Addr × Obj)} {σ : L2.St} {H : Hp} {s : Shared} {Q : VK} {us : List Value} {vs : List V}
theorem run_y {kw : List (Str × Value)} {bs : List Value} {as : List V} (F : FnOk X.prog X.w X.K X.mg X.base (L2.CX X.prog X.w) k f fd ps sp) (hr : Room k X.A) (tk : Takes X W) (I : Inv X pins σ H s)
    (b : BindsTo s fd ⟨us, kw⟩ (ps.zip bs)) (r : Vals as bs) (h : sp as H Q (WE W σ)) : wpAny (model X.prog X.w) X.A (call (.ref f) us kw) (EP X pins σ Q) X.xe s := by
  refine wpAny_call (codeAny_mono (F.run X.A X.stack s H ⟨us, kw⟩ bs as Q (WE W σ) hr I.env0 b r h) fun r s' hq => ?_)
  cases r with
  | error e => exact passAt tk σ pins H s e s' I hq
  | ok fl =>
    cases fl with
    | ret u => exact I.after hq
    | next => exact hq.elim
    | brk => exact hq.elim
    | cont => exact hq.elim
theorem run_mk {bs : List Value} {as : List V} (M : Mk X.K C f) (F : FnOk X.prog X.w X.K X.mg X.base (L2.CX X.prog X.w) k f fd ps sp) (hr : Room (k + 1) X.A) (tk : Takes X W) (hb : ∀ (s : Shared) (u : Value), X.K.In s.heap → BindsTo s fd ⟨u :: us, []⟩ (ps.zip (u :: bs)))
    (I : Inv X pins σ H s) (r : Vals as bs) (h : ∀ x dx, H x = none → H dx = none → dx ≠ x → sp (.ref x :: as) (upd (upd H dx (.own x)) x (.ins C dx [])) (fun v H2 => v = .non ∧ Q (.ref x) H2) (WE W σ)) :
    wpAny (model X.prog X.w) X.A (call (.ref C) us) (EP X pins σ Q) X.xe s := by
  have hq := h (s.heap.objs.size + 1) s.heap.objs.size (I.hok.fresh (Nat.le_succ _)) (I.hok.fresh (Nat.le_refl _)) (Nat.ne_of_lt (Nat.lt_succ_self _))
  have I2 := Inv.made (C := C) I
  have r2 : Vals (V.ref (s.heap.objs.size + 1) :: as) (Value.ref (s.heap.objs.size + 1) :: bs) := .cons rfl r
  refine wpAny_call (make_map (f := f) I.kIn M.makes M.init (beq_iff_eq.mp M.fn) (codeAny_mono (F.run _ X.stack _ _ ⟨Value.ref (s.heap.objs.size + 1) :: us, []⟩ (Value.ref (s.heap.objs.size + 1) :: bs) _ _ (WE W σ) (hr.make C us [])
    (I2.env0.make C us []) (hb _ _ I2.kIn) r2 hq) fun r s' hq' => ?_))
  cases r with
  | error e => exact passAt tk σ pins _ _ e s' I2 hq'
  | ok fl =>
    cases fl with
    | ret u =>
      obtain ⟨v, H', I3, rv, ev, q3⟩ := I2.after hq'
      subst ev
      exact ⟨rv, ⟨V.ref (s.heap.objs.size + 1), H', I3, rfl, q3⟩⟩
    | next => exact hq'.elim
    | brk => exact hq'.elim
    | cont => exact hq'.elim
end

/-! ### what a def, a method, a class is -/
/-- a def of the text as it stands: dvs its defaults -/
abbrev Fx (K : PySem.W.Frag) (x qual : Str) (st : Stmt) (dvs : List V) (f : Addr) (fd : FuncData) : Prop := FunD K x qual (defArgs st) (defBody st) (defScope st) dvs [] f fd
structure Dy (K : PySem.W.Frag) (mg : Str → Option Value) (x : Str) (st : Stmt) (dvs : List V) : Prop where
  ex : ∃ (f : Addr) (fd : FuncData), mg x = some (.ref f) ∧ Fx K x x st dvs f fd
structure Dm (K : PySem.W.Frag) (C : Addr) (m qual : Str) (st : Stmt) (dvs : List V) : Prop where
  ex : ∃ (f : Addr) (fd : FuncData), Meth K C m f ∧ Fx K m qual st dvs f fd
structure Di (K : PySem.W.Frag) (C : Addr) (qual : Str) (st : Stmt) (dvs : List V) : Prop where
  ex : ∃ (f : Addr) (fd : FuncData), Mk K C f ∧ Fx K "__init__" qual st dvs f fd
/-- .. with its promise -/
structure Cy (P : Program) (w : World) (K : PySem.W.Frag) (mg : Str → Option Value) (base : Heap) (k : Nat) (x : Str) (st : Stmt) (dvs : List V) (ps : List Str) (sp : Sp) : Prop where
  ex : ∃ (f : Addr) (fd : FuncData), FnOk P w K mg base (L2.CX P w) k f fd ps sp ∧ mg x = some (.ref f) ∧ Fx K x x st dvs f fd
structure Cm (P : Program) (w : World) (K : PySem.W.Frag) (mg : Str → Option Value) (base : Heap) (k : Nat) (C : Addr) (m qual : Str) (st : Stmt) (dvs : List V) (ps : List Str) (sp : Sp) : Prop where
  ex : ∃ (f : Addr) (fd : FuncData), FnOk P w K mg base (L2.CX P w) k f fd ps sp ∧ Meth K C m f ∧ Fx K m qual st dvs f fd
structure Ci (P : Program) (w : World) (K : PySem.W.Frag) (mg : Str → Option Value) (base : Heap) (k : Nat) (C : Addr) (qual : Str) (st : Stmt) (dvs : List V) (ps : List Str) (sp : Sp) : Prop where
  ex : ∃ (f : Addr) (fd : FuncData), FnOk P w K mg base (L2.CX P w) k f fd ps sp ∧ Mk K C f ∧ Fx K "__init__" qual st dvs f fd
/-- how a call's n positional arguments and keywords ks bind where no default is needed -/
def Bk (x qual : Str) (st : Stmt) (ps : List Str) (n : Nat) (ks : List Str) (g : List Value → List Value → List Value) : Prop := ∀ (kV doc pm : Value) (an : Option Addr) (cdv ct : Value) (us ws : List Value), us.length = n → ws.length = ks.length →
  bindArgs (PySem.W.fnOf x qual (defArgs st) (defBody st) (defScope st) .none kV doc pm an cdv ct) ⟨us, ks.zip ws⟩ = pure (ps.zip (g us ws))
def By (x qual : Str) (st : Stmt) (ps : List Str) : Prop := ∀ (kV doc pm : Value) (an : Option Addr) (cdv ct : Value) (us : List Value), us.length = ps.length →
  bindArgs (PySem.W.fnOf x qual (defArgs st) (defBody st) (defScope st) .none kV doc pm an cdv ct) ⟨us, []⟩ = pure (ps.zip us)
/-- .. where m defaults stand, the first j of which are not needed -/
def Bd (x qual : Str) (st : Stmt) (ps : List Str) (m n j : Nat) : Prop := ∀ (T : Addr) (kV doc pm : Value) (an : Option Addr) (cdv ct : Value) (us its : List Value), us.length = n → its.length = m →
  ∃ k, bindArgs (PySem.W.fnOf x qual (defArgs st) (defBody st) (defScope st) (.ref T) kV doc pm an cdv ct) ⟨us, []⟩ = seqItems? (.ref T) >>= k ∧ k (some its.toArray) = pure (ps.zip (us ++ its.drop j))
section
variable {K : PySem.W.Frag} {x qual : Str} {st : Stmt} {f : Addr} {fd : FuncData} {ps : List Str}
theorem by_binds (F : Fx K x qual st [] f fd) (b : By x qual st ps) {s : Shared} {us : List Value} (l : us.length = ps.length) : BindsTo s fd ⟨us, []⟩ (ps.zip us) := by
  obtain ⟨oc, od, dV, kV, doc, pm, an, cdv, ct, osl, rfl, lk, hcd, hD, _⟩ := F.ex
  rcases hD with ⟨_, rfl⟩ | ⟨z, _⟩
  · exact .of_eq (b kV doc pm an cdv ct us l)
  · exact absurd rfl z
theorem bk_binds {n : Nat} {ks : List Str} {g : List Value → List Value → List Value} (F : Fx K x qual st [] f fd) (b : Bk x qual st ps n ks g) {s : Shared} {us ws : List Value} (l1 : us.length = n) (l2 : ws.length = ks.length) : BindsTo s fd ⟨us, ks.zip ws⟩ (ps.zip (g us ws)) := by
  obtain ⟨oc, od, dV, kV, doc, pm, an, cdv, ct, osl, rfl, lk, hcd, hD, _⟩ := F.ex
  rcases hD with ⟨_, rfl⟩ | ⟨z, _⟩
  · exact .of_eq (b kV doc pm an cdv ct us ws l1 l2)
  · exact absurd rfl z
theorem bd_binds {dvs : List V} {n j : Nat} (F : Fx K x qual st dvs f fd) (b : Bd x qual st ps dvs.length n j) (h0 : dvs ≠ []) : ∃ ds : List Value, Vals dvs ds ∧ ∀ (s : Shared) (us : List Value), K.In s.heap → us.length = n → BindsTo s fd ⟨us, []⟩ (ps.zip (us ++ ds.drop j)) := by
  obtain ⟨oc, od, dV, kV, doc, pm, an, cdv, ct, osl, rfl, lk, hcd, hD, _⟩ := F.ex
  rcases hD with ⟨z, _⟩ | ⟨_, T, o, its, m, rfl, lT, oT, rT⟩
  · exact absurd z h0
  · refine ⟨its, rT, fun s us X hl => ?_⟩
    obtain ⟨k, e1, e2⟩ := b T kV doc pm an cdv ct us its hl rT.length.symm
    refine BindsTo.of_looks fun M => ?_
    rw [e1]
    exact looks_items X lT oT (.of_pure e2)
end

/-! ### a body that keeps its promise -/
section
variable {P : Program} {w : World} {K : PySem.W.Frag} {mg : Str → Option Value} {base : Heap} {x qual : Str} {st : Stmt} {dvs : List V} {N ps : List Str} {k : Nat} {sp : Sp}
/-- what the walk through a body must give -/
abbrev Wk (P : Program) (w : World) (K : PySem.W.Frag) (mg : Str → Option Value) (base : Heap) (qual : Str) (st : Stmt) (N : List Str) (k : Nat) (sp : Sp) : Prop :=
  ∀ (f : Addr) (cdv : Value) (A : Around) (outer : List Env) (s : Shared) (H : Hp) (vs : List V) (Q : VK) (E : XK), Room k (A.deeper (envOfC qual (defScope st) s.heap.objs.size f cdv)) →
    Takes (cxOf (L2.CX P w) P w K mg base N qual (defScope st) f cdv A outer s H E) (fun cls d _ H' => E cls d H') →
    PassesOwn (model P w) (A.deeper (envOfC qual (defScope st) s.heap.objs.size f cdv)) (envOfC qual (defScope st) s.heap.objs.size f cdv) (cxOf (L2.CX P w) P w K mg base N qual (defScope st) f cdv A outer s H E).xe → sp vs H Q E →
    ∃ t, PSs (cxOf (L2.CX P w) P w K mg base N qual (defScope st) f cdv A outer s H E) (defBody st) t ∧ t { nx := fun _ H' => Q .non H', rt := Q } (start N vs) H
theorem wk_ok {f : Addr} {fd : FuncData} (F : Fx K x qual st dvs f fd) (S : FnScope N ps (defScope st)) (len : ∀ vs H Q E, sp vs H Q E → vs.length = ps.length) (hb : Wk P w K mg base qual st N k sp) :
    FnOk P w K mg base (L2.CX P w) (k + 1) f fd ps sp :=
  F.ok S len fun cdv A outer s H vs Q E hr h => hb f cdv A outer s H vs Q E hr (takes_of rfl rfl rfl rfl) (passes_of rfl) h
theorem Cy.mk' (D : Dy K mg x st dvs) (S : FnScope N ps (defScope st)) (len : ∀ vs H Q E, sp vs H Q E → vs.length = ps.length) (hb : Wk P w K mg base x st N k sp) : Cy P w K mg base (k + 1) x st dvs ps sp := by
  obtain ⟨f, fd, hm, F⟩ := D.ex
  exact ⟨f, fd, wk_ok F S len hb, hm, F⟩
theorem Cm.mk' {C : Addr} {m : Str} (D : Dm K C m qual st dvs) (S : FnScope N ps (defScope st)) (len : ∀ vs H Q E, sp vs H Q E → vs.length = ps.length) (hb : Wk P w K mg base qual st N k sp) : Cm P w K mg base (k + 1) C m qual st dvs ps sp := by
  obtain ⟨f, fd, hm, F⟩ := D.ex
  exact ⟨f, fd, wk_ok F S len hb, hm, F⟩
theorem Ci.mk' {C : Addr} (D : Di K C qual st dvs) (S : FnScope N ps (defScope st)) (len : ∀ vs H Q E, sp vs H Q E → vs.length = ps.length) (hb : Wk P w K mg base qual st N k sp) : Ci P w K mg base (k + 1) C qual st dvs ps sp := by
  obtain ⟨f, fd, hm, F⟩ := D.ex
  exact ⟨f, fd, wk_ok F S len hb, hm, F⟩
theorem Cy.mono {j : Nat} (c : Cy P w K mg base j x st dvs ps sp) (h : j ≤ k) : Cy P w K mg base k x st dvs ps sp := by
  obtain ⟨f, fd, F, hm, L⟩ := c.ex
  exact ⟨f, fd, F.mono h, hm, L⟩
theorem Cm.mono {C : Addr} {m : Str} {j : Nat} (c : Cm P w K mg base j C m qual st dvs ps sp) (h : j ≤ k) : Cm P w K mg base k C m qual st dvs ps sp := by
  obtain ⟨f, fd, F, hm, L⟩ := c.ex
  exact ⟨f, fd, F.mono h, hm, L⟩
theorem Cy.imp {sp' : Sp} (c : Cy P w K mg base k x st dvs ps sp) (h : ∀ vs H Q E, sp' vs H Q E → sp vs H Q E) : Cy P w K mg base k x st dvs ps sp' := by
  obtain ⟨f, fd, F, hm, L⟩ := c.ex
  exact ⟨f, fd, F.imp h, hm, L⟩
end

/-! ### the calls as expressions -/
section
variable {X : Cx} {W : WX} {k j : Nat} {x m qual : Str} {st : Stmt} {dvs : List V} {ps ks : List Str} {sp : Sp} {p pos apos : Pos} {e o : Expr} {es : List Expr} {kws : List Keyword} {t tkw : TA} {ta : TE} {C : Addr}
/-- f(a, ..) -/
def tY (sp : Sp) (W : WX) (t : TA) : TE := fun σ H Q => t σ H fun vs H1 => sp vs H1 Q (WE W σ)
theorem pe_y (c : Cy X.prog X.w X.K X.mg X.base k x st [] ps sp) (b : By x x st ps) (hr : Room j X.A) (hk : k ≤ j) (hg : Gl X x) (tk : Takes X W) (ha : PA X (e :: es) t)
    (hdb : (x == ("__debug__" : Str)) = false := by decide) (he : starEach (e :: es) X.env = (false, eval e X.env) :: starEach es X.env := by rfl) (hpl : (backTo pos (starEach es X.env)).any (·.1) = false := by rfl) :
    PE X (.Call (.Name x p) (e :: es) [] pos) (tY sp W t) := by
  obtain ⟨f, fd, F, hm, L⟩ := c.ex
  refine ⟨fun pins s σ H Q I h => wpAny_Call_Name_kw (ld_glob I hg hm ?_ hdb)⟩
  refine PySem.W.callWith_K (h₀ := X.base) I.ok.mod.kin L.kp (thn (ha.run pos pins s σ H _ I h) fun us s1 ⟨vs, H1, I1, r, q⟩ => ⟨I1.kIn, ?_⟩) he hpl
  exact run_y F (hr.mono hk) tk I1 (by_binds L b (by show us.length = _; rw [← r.length]; exact F.len _ _ _ _ q)) r q
/-- f() -/
theorem pe_y0 (c : Cy X.prog X.w X.K X.mg X.base k x st [] ps sp) (b : By x x st ps) (hr : Room j X.A) (hk : k ≤ j) (hg : Gl X x) (tk : Takes X W) (hdb : (x == ("__debug__" : Str)) = false := by decide) :
    PE X (.Call (.Name x p) [] [] pos) (tY sp W tNil) := by
  obtain ⟨f, fd, F, hm, L⟩ := c.ex
  refine ⟨fun pins s σ H Q I h => wpAny_Call_Name_kw (ld_glob I hg hm ?_ hdb)⟩
  exact PySem.W.callWith_K0 I.kIn L.kp (run_y (us := []) F (hr.mono hk) tk I (by_binds L b (F.len _ _ _ _ h)) .nil h)
/-- f(a, ..) where defaults fill up -/
def tYd (sp : Sp) (ds : List V) (n : Nat) (W : WX) (t : TA) : TE := fun σ H Q => t σ H fun vs H1 => vs.length = n ∧ sp (vs ++ ds) H1 Q (WE W σ)
theorem pe_yd {n i : Nat} (c : Cy X.prog X.w X.K X.mg X.base k x st dvs ps sp) (b : Bd x x st ps dvs.length n i) (h0 : dvs ≠ []) (hr : Room j X.A) (hk : k ≤ j) (hg : Gl X x) (tk : Takes X W) (ha : PA X (e :: es) t)
    (hdb : (x == ("__debug__" : Str)) = false := by decide) (he : starEach (e :: es) X.env = (false, eval e X.env) :: starEach es X.env := by rfl) (hpl : (backTo pos (starEach es X.env)).any (·.1) = false := by rfl) :
    PE X (.Call (.Name x p) (e :: es) [] pos) (tYd sp (dvs.drop i) n W t) := by
  obtain ⟨f, fd, F, hm, L⟩ := c.ex
  obtain ⟨ds, rd, bd⟩ := bd_binds L b h0
  refine ⟨fun pins s σ H Q I h => wpAny_Call_Name_kw (ld_glob I hg hm ?_ hdb)⟩
  refine PySem.W.callWith_K (h₀ := X.base) I.ok.mod.kin L.kp (thn (ha.run pos pins s σ H _ I h) fun us s1 ⟨vs, H1, I1, r, l, q⟩ => ⟨I1.kIn, ?_⟩) he hpl
  exact run_y F (hr.mono hk) tk I1 (bd _ _ I1.kIn (r.length.symm.trans l)) (r.append (rd.drop i)) q
/-- f(a, .., k = v, ..) -/
def tYk (n l : Nat) (sp : Sp) (gV : List V → List V → List V) (W : WX) (t tk : TA) : TE := fun σ H Q => t σ H fun vs H1 => tk σ H1 fun zs H2 => vs.length = n ∧ zs.length = l ∧ sp (gV vs zs) H2 Q (WE W σ)
theorem pe_yk {n : Nat} {g : List Value → List Value → List Value} {gV : List V → List V → List V} (c : Cy X.prog X.w X.K X.mg X.base k x st [] ps sp) (b : Bk x x st ps n ks g)
    (rel : ∀ {vs : List V} {us : List Value} {zs : List V} {ws : List Value}, Vals vs us → Vals zs ws → Vals (gV vs zs) (g us ws)) (hr : Room j X.A) (hk : k ≤ j) (hg : Gl X x) (tk : Takes X W) (ha : PA X (e :: es) t) (hkw : PK X kws tkw)
    (hall : (backToKw pos (keywordEach kws X.env)).all (·.1.isSome) = true := by rfl) (hks : (backToKw pos (keywordEach kws X.env)).filterMap (·.1) = ks := by rfl) (hdb : (x == ("__debug__" : Str)) = false := by decide)
    (he : starEach (e :: es) X.env = (false, eval e X.env) :: starEach es X.env := by rfl) (hpl : ((backTo pos (starEach (e :: es) X.env)).any (·.1) || (backToKw pos (keywordEach kws X.env)).any (·.1.isNone)) = false := by rfl) :
    PE X (.Call (.Name x p) (e :: es) kws pos) (tYk n ks.length sp gV W t tkw) := by
  obtain ⟨f, fd, F, hm, L⟩ := c.ex
  refine ⟨fun pins s σ H Q I h => wpAny_Call_Name_kw (ld_glob I hg hm ?_ hdb)⟩
  refine PySem.W.callWith_KW (h₀ := X.base) I.ok.mod.kin L.kp hall (thn (ha.run pos pins s σ H _ I h) fun us s1 ⟨vs, H1, I1, r, q⟩ => ?_) hpl he
  refine thn (hkw.run pos pins s1 σ H1 _ I1 q) fun ws s2 ⟨zs, H2, I2, rz, l1, l2, q2⟩ => ⟨I2.kIn, ?_⟩
  rw [hks]
  exact run_y F (hr.mono hk) tk I2 (bk_binds L b (r.length.symm.trans l1) (rz.length.symm.trans l2)) (rel r rz) q2
theorem pe_yk0 {g : List Value → List Value → List Value} {gV : List V → List V → List V} (c : Cy X.prog X.w X.K X.mg X.base k x st [] ps sp) (b : Bk x x st ps 0 ks g)
    (rel : ∀ {vs : List V} {us : List Value} {zs : List V} {ws : List Value}, Vals vs us → Vals zs ws → Vals (gV vs zs) (g us ws)) (hr : Room j X.A) (hk : k ≤ j) (hg : Gl X x) (tk : Takes X W) (hkw : PK X kws tkw)
    (hall : (backToKw pos (keywordEach kws X.env)).all (·.1.isSome) = true := by rfl) (hks : (backToKw pos (keywordEach kws X.env)).filterMap (·.1) = ks := by rfl) (hdb : (x == ("__debug__" : Str)) = false := by decide)
    (hpl : ((backTo pos (starEach [] X.env)).any (·.1) || (backToKw pos (keywordEach kws X.env)).any (·.1.isNone)) = false := by rfl) :
    PE X (.Call (.Name x p) [] kws pos) (tYk 0 ks.length sp gV W tNil tkw) := by
  obtain ⟨f, fd, F, hm, L⟩ := c.ex
  refine ⟨fun pins s σ H Q I h => wpAny_Call_Name_kw (ld_glob I hg hm ?_ hdb)⟩
  refine PySem.W.callWith_KW0 (h₀ := X.base) I.ok.mod.kin L.kp hall ?_ hpl
  refine thn (hkw.run pos pins s σ H _ I h) fun ws s2 ⟨zs, H2, I2, rz, l1, l2, q2⟩ => ⟨I2.kIn, ?_⟩
  rw [hks]
  exact run_y (us := []) F (hr.mono hk) tk I2 (bk_binds L b rfl (rz.length.symm.trans l2)) (rel .nil rz) q2
/-- o.m(a, ..) -/
def tYm (C : Addr) (m : Str) (sp : Sp) (W : WX) (ta : TE) (t : TA) : TE := fun σ H Q => ta σ H fun x H1 => ∃ a dx fs, x = .ref a ∧ H1 a = some (.ins C dx fs) ∧ fs.lookup m = none ∧ t σ H1 fun vs H2 => sp (.ref a :: vs) H2 Q (WE W σ)
theorem pe_ym {pl : Sem Bool} (c : Cm X.prog X.w X.K X.mg X.base k C m qual st [] ps sp) (b : By m qual st ps) (cl : Cls X.K C) (hr : Room j X.A) (hk : k ≤ j) (tk : Takes X W) (he : PE X o ta) (ha : PA X (e :: es) t)
    (hst : starEach (e :: es) X.env = (false, eval e X.env) :: starEach es X.env := by rfl) (hpl : (backTo pos (starEach es X.env)).any (·.1) = false := by rfl)
    (ht : eval (.Call (.Attribute o m apos) (e :: es) [] pos) X.env = (do
      let ov ← eval o X.env
      standAt apos.atName
      let (f, first) ← holding [ov] (getMethod ov m pl)
      callWith pos f first (backTo pos (starEach (e :: es) X.env)) (backToKw pos (keywordEach [] X.env))) := by rfl) :
    PE X (.Call (.Attribute o m apos) (e :: es) [] pos) (tYm C m sp W ta t) := by
  obtain ⟨f, fd, F, hm, L⟩ := c.ex
  refine ⟨fun pins s σ H Q I h => PySem.W.methodCall_KW (pl := pl) (thn (he.run pins s σ H _ I h) fun u s1 ⟨x, H1, I1, rx, a, dx, fs, ex, ea, l, q⟩ => ?_) ht⟩
  subst ex
  obtain rfl : u = Value.ref a := rx
  refine getmeth_ok I1 ea cl hm l ?_
  refine PySem.W.callWith_K (first := [.ref a]) (h₀ := X.base) I.ok.mod.kin hm.kp (thn (ha.run pos pins s1 σ H1 _ I1 q) fun us s2 ⟨vs, H2, I2, r, q2⟩ => ⟨I2.kIn, ?_⟩) hst hpl
  have r2 : Vals (V.ref a :: vs) (Value.ref a :: us) := .cons rfl r
  exact run_y (us := .ref a :: us) F (hr.mono hk) tk I2 (by_binds L b (by rw [← r2.length]; exact F.len _ _ _ _ q2)) r2 q2
theorem pe_ym0 {pl : Sem Bool} (c : Cm X.prog X.w X.K X.mg X.base k C m qual st [] ps sp) (b : By m qual st ps) (cl : Cls X.K C) (hr : Room j X.A) (hk : k ≤ j) (tk : Takes X W) (he : PE X o ta)
    (ht : eval (.Call (.Attribute o m apos) [] [] pos) X.env = (do
      let ov ← eval o X.env
      standAt apos.atName
      let (f, first) ← holding [ov] (getMethod ov m pl)
      callWith pos f first (backTo pos (starEach [] X.env)) (backToKw pos (keywordEach [] X.env))) := by rfl) :
    PE X (.Call (.Attribute o m apos) [] [] pos) (tYm C m sp W ta tNil) := by
  obtain ⟨f, fd, F, hm, L⟩ := c.ex
  refine ⟨fun pins s σ H Q I h => PySem.W.methodCall_KW (pl := pl) (thn (he.run pins s σ H _ I h) fun u s1 ⟨x, H1, I1, rx, a, dx, fs, ex, ea, l, q⟩ => ?_) ht⟩
  subst ex
  obtain rfl : u = Value.ref a := rx
  refine getmeth_ok I1 ea cl hm l ?_
  exact PySem.W.callWith_K0 (first := [.ref a]) I1.kIn hm.kp (run_y (us := [.ref a]) (as := [.ref a]) F (hr.mono hk) tk I1 (by_binds L b (by have := F.len _ _ _ _ q; exact this)) (.cons rfl .nil) q)
/-- C(a, ..) -/
def tYn (C : Addr) (sp : Sp) (W : WX) (t : TA) : TE := fun σ H Q => t σ H fun vs H1 => ∀ x dx, H1 x = none → H1 dx = none → dx ≠ x → sp (.ref x :: vs) (upd (upd H1 dx (.own x)) x (.ins C dx [])) (fun v H2 => v = .non ∧ Q (.ref x) H2) (WE W σ)
theorem pe_yn (c : Ci X.prog X.w X.K X.mg X.base k C qual st [] ps sp) (b : By "__init__" qual st ps) (hr : Room j X.A) (hk : k + 1 ≤ j) (hg : Gl X x) (hx : X.mg x = some (.ref C)) (tk : Takes X W) (ha : PA X (e :: es) t)
    (hdb : (x == ("__debug__" : Str)) = false := by decide) (he : starEach (e :: es) X.env = (false, eval e X.env) :: starEach es X.env := by rfl) (hpl : (backTo pos (starEach es X.env)).any (·.1) = false := by rfl) :
    PE X (.Call (.Name x p) (e :: es) [] pos) (tYn C sp W t) := by
  obtain ⟨f, fd, F, M, L⟩ := c.ex
  refine ⟨fun pins s σ H Q I h => wpAny_Call_Name_kw (ld_glob I hg hx ?_ hdb)⟩
  refine PySem.W.callWith_K (h₀ := X.base) I.ok.mod.kin M.kp (thn (ha.run pos pins s σ H _ I h) fun us s1 ⟨vs, H1, I1, r, q⟩ => ⟨I1.kIn, ?_⟩) he hpl
  refine run_mk M F (hr.mono hk) tk (fun s2 u _ => by_binds L b ?_) I1 r q
  have hq := q (s1.heap.objs.size + 1) s1.heap.objs.size (I1.hok.fresh (Nat.le_succ _)) (I1.hok.fresh (Nat.le_refl _)) (Nat.ne_of_lt (Nat.lt_succ_self _))
  have := F.len _ _ _ _ hq
  rw [← this]
  show us.length + 1 = vs.length + 1
  rw [r.length]
end

/-! ### a caught error -/
/-- isinstance(e, c) of the error that the suite holds -/
def rIsX (K : PySem.W.Frag) (a : Addr) (cls : Value) (d : Option Addr) : List V → Hp → VK → Prop := fun xs H Q => ∃ (D C2 dd : Addr) (fs : List (Str × V)) (b : Bool), xs = [.ref a, .ref C2] ∧ cls = .ref D ∧ d = some dd ∧ H dd = some (.xd fs) ∧ ExcC K D ∧ PySem.W.kitOne K (.ref D) (.ref C2) = some b ∧ Q (.bl b) H
theorem call_isX {X : Cx} {a : Addr} {oe : Obj} {cls : Value} {d : Option Addr} {pn : List (Addr × Obj)} (hz : Zc cls d oe) (hf : ∃ vs, oe.data = .fields vs) : CallR (X.suite a ((a, oe) :: pn)) (.builtin "isinstance") (rIsX X.K a cls d) := by
  intro pins s σ H xs us Q I r h
  obtain ⟨D, C2, dd, fs, b, rfl, ec, ed, hdd, C, e, q⟩ := h
  subst ec ed
  cases r with
  | cons rx rr =>
    cases rr with
    | cons rt rr =>
      cases rr
      cases rx
      cases rt
      obtain ⟨hget, _⟩ := I.pin (a, oe) (List.mem_append.mpr (.inl List.mem_cons_self))
      obtain ⟨vs, hv⟩ := hf
      obtain ⟨mA, hns, _⟩ := (show ObjOk X.prog X.w H s.heap dd (.xd fs) from I.hok dd _ hdd)
      obtain ⟨od, ho, hl⟩ := lookIn_ns hns
      have J : PySem.W.InstAt s.heap a oe D (some od) := ⟨hget, hz.1, by unfold PySem.W.notCls; rw [hv] <;> rfl, by rw [hz.2]; exact ho⟩
      exact PySem.W.kia_one (PySem.W.kitx_exc (gt := none) (by obtain ⟨cd, hc, _⟩ := PySem.W.any_some C.hd; rw [hc]; rfl) C.hg C.hk C.hs C.ha C.hn C.ht C.hm) I.kIn J e (fun z => nomatch z) fun tk => ⟨.bl b, H, I.kept (t' := tk) fun _ _ z => z, rfl, q⟩

/-! ### xs[::-1] -/
section
variable {X : Cx} {e st : Expr} {te : TE} {ts : TO} {pos p2 : Pos}
def tRev (K : PySem.W.Frag) (te : TE) (ts : TO) : TE := fun σ H Q => te σ H fun x H1 => ts σ H1 fun l H2 => ∃ a xs, x = .ref a ∧ l = some (-1) ∧ SqL K H2 a xs ∧ NewO H2 (.lst xs.reverse) Q
theorem pe_rev (he : PE X e te) (hs : PO X (some st) ts) : PE X (.Subscript e (.Slice none none (some st) p2) pos) (tRev X.K te ts) := by
  refine ⟨fun pins s σ H Q I h => ?_⟩
  refine Subscript_ (thn (he.run pins s σ H _ I h) fun v s1 ⟨x, H1, I1, r1, q1⟩ => ?_)
  refine wpAny_Slice ?_
  rw [evalPart_none]
  refine wpAny_pure (wpAny_pure (thn (hs.run pins s1 σ H1 _ I1 q1) fun vs s3 ⟨l, H3, I3, pl, a, xs, ex, el, hx, q⟩ => ?_))
  subst ex el
  cases r1
  have I4 : Inv X pins σ H3 { s3 with heap := s3.heap.push { cls := .type "slice", data := .fields #[.none, .none, vs] } } := I3.kept (t' := s3.toks) fun b ob q => Heap.get?_push_of_some _ q
  obtain ⟨its, r, ht, hz⟩ := I4.list hx
  show wpAny (model X.prog X.w) X.A (subscriptTail e (.Slice none none (some st) p2) (.ref a) (.ref s3.heap.objs.size)) (EP X pins σ Q) X.xe { s3 with heap := s3.heap.push { cls := .type "slice", data := .fields #[.none, .none, vs] } }
  have hT : (({ s3 with heap := s3.heap.push { cls := .type "slice", data := .fields #[.none, .none, vs] } } : Shared)).TypeIs (.ref a) "list" := ht.isList.typeIs
  refine tail_any (ops := [.ref a, .ref s3.heap.objs.size]) hT slot_list_getitem.lookup ?_ (by with_unfolding_all rfl)
  refine wpAny_getItem_list_slice ht.isList (Heap.IsSliceOf.new ..) .none .none pl (by decide) ?_ (by rw [List.size_toArray, ← r.length]; exact hz)
  rw [PySem.W.krv_pick]
  refine ⟨.ref (s3.heap.push { cls := .type "slice", data := .fields #[.none, .none, vs] }).objs.size, _, I4.laid (t' := s3.toks) (o := .lst xs.reverse) (fun b ob q => Heap.get?_push_of_some _ q) (Nat.le_refl _) ?_, rfl, q _ _ (I4.hok.fresh (Nat.le_refl _)) (same_new (I4.hok.fresh (Nat.le_refl _))) upd_same⟩
  exact ⟨by rw [List.length_reverse]; exact hz, its.reverse, 0, r.reverse, Heap.get?_push_size _ rfl⟩
end
end BB
namespace BB
open PySem PySem.Spec PyProof.Rows L2 BBX
/-! ### promises that ask what cannot be: the start of a family -/
section
variable {P : Program} {w : World} {K : PySem.W.Frag} {mg : Str → Option Value} {base : Heap} {x qual : Str} {st : Stmt} {dvs : List V} {ps : List Str} {k : Nat} {sp : Sp}
theorem Cy.none (D : Dy K mg x st dvs) (hn : ∀ vs H Q E, ¬ sp vs H Q E) : Cy P w K mg base k x st dvs ps sp := by
  obtain ⟨f, fd, hm, F⟩ := D.ex
  exact ⟨f, fd, ⟨fun _ _ _ _ h => (hn _ _ _ _ h).elim, fun _ _ _ _ _ _ _ _ _ _ _ _ _ h => (hn _ _ _ _ h).elim⟩, hm, F⟩
theorem Cm.none {C : Addr} {m : Str} (D : Dm K C m qual st dvs) (hn : ∀ vs H Q E, ¬ sp vs H Q E) : Cm P w K mg base k C m qual st dvs ps sp := by
  obtain ⟨f, fd, hm, F⟩ := D.ex
  exact ⟨f, fd, ⟨fun _ _ _ _ h => (hn _ _ _ _ h).elim, fun _ _ _ _ _ _ _ _ _ _ _ _ _ h => (hn _ _ _ _ h).elim⟩, hm, F⟩
theorem Cm.imp {C : Addr} {m : Str} {sp' : Sp} (c : Cm P w K mg base k C m qual st dvs ps sp) (h : ∀ vs H Q E, sp' vs H Q E → sp vs H Q E) : Cm P w K mg base k C m qual st dvs ps sp' := by
  obtain ⟨f, fd, F, hm, L⟩ := c.ex
  exact ⟨f, fd, F.imp h, hm, L⟩
end
/-! ### texts cut in the middle, joined -/
theorem S_mid (l : List Nat) {a b : Nat} (ha : a ≤ l.length) : cutS (S l) (some (a : Int)) (some (b : Int)) = S ((l.drop a).take (b - a)) := by
  unfold cutS
  rw [HT.sIx_nat, HT.sIx_nat, S_cps, S_len, Nat.min_eq_left ha]
  congr 2
  by_cases h : b ≤ l.length
  · rw [Nat.min_eq_left h]
  · rw [Nat.min_eq_right (by omega), List.take_of_length_le (by rw [List.length_drop]; exact Nat.le_refl _), List.take_of_length_le (by rw [List.length_drop]; omega)]
theorem join_any (sep : List Nat) (ls : List (List Nat)) : PySem.Txt.join (S sep) (ls.map S) = S (TL.joinL sep ls) := by
  have e : TL.tl (PySem.Txt.join (S sep) (ls.map S)) = TL.joinL sep ls := by
    rw [TL.join_eq, TL.tl_join]
    have e2 : (ls.map S).map TL.tl = ls := by
      rw [List.map_map]
      exact List.map_id'' (fun _ => rfl) ls
    rw [e2]
  have e3 : (PySem.Txt.join (S sep) (ls.map S)).cps.toList = (S (TL.joinL sep ls)).cps.toList := e
  generalize PySem.Txt.join (S sep) (ls.map S) = z at e3
  obtain ⟨⟨l⟩⟩ := z
  exact congrArg (fun l => Str.mk (Array.mk l)) e3
end BB
namespace BB
open PySem PySem.Spec PyProof.Rows L2 BBX
/-! ### the end -/
theorem fx_mk {K : PySem.W.Frag} {x qual : Str} {st : Stmt} {f : Addr} {oc : Value} {od an : Option Addr} {osl : Array (Option Value)} {kV doc pm cdv ct : Value} (l : K.lookup f = some ⟨oc, od, .func (PySem.W.fnOf x qual (defArgs st) (defBody st) (defScope st) .none kV doc pm an cdv ct), osl⟩)
    (c : PySem.W.codeIn K cdv qual = true) (k : PySem.W.keepIn K (.ref f) = true) : Fx K x qual st [] f (PySem.W.fnOf x qual (defArgs st) (defBody st) (defScope st) .none kV doc pm an cdv ct) :=
  ⟨⟨oc, od, _, kV, doc, pm, an, cdv, ct, osl, rfl, l, c, .inl ⟨rfl, rfl⟩, .inl rfl⟩, k⟩
theorem fx_mkd {K : PySem.W.Frag} {x qual : Str} {st : Stmt} {f T : Addr} {oc oT : Value} {od an oD : Option Addr} {osl oS : Array (Option Value)} {kV doc pm cdv ct : Value} {dvs : List V} {its : List Value} {n : Nat} (l : K.lookup f = some ⟨oc, od, .func (PySem.W.fnOf x qual (defArgs st) (defBody st) (defScope st) (.ref T) kV doc pm an cdv ct), osl⟩)
    (c : PySem.W.codeIn K cdv qual = true) (k : PySem.W.keepIn K (.ref f) = true) (lT : K.lookup T = some ⟨oT, oD, .seq its.toArray n, oS⟩) (h0 : dvs ≠ []) (r : Vals dvs its) : Fx K x qual st dvs f (PySem.W.fnOf x qual (defArgs st) (defBody st) (defScope st) (.ref T) kV doc pm an cdv ct) :=
  ⟨⟨oc, od, _, kV, doc, pm, an, cdv, ct, osl, rfl, l, c, .inr ⟨h0, T, _, its, n, rfl, lT, rfl, r⟩, .inl rfl⟩, k⟩
theorem law_endY {P : Program} {w : World} {K : PySem.W.Frag} {mg : Str → Option Value} {k : Nat} {x y : Str} {st : Stmt} {sp : Sp} {fa : Addr} (D : Dy K mg y st []) (b : By y y st [x]) (hfa : mg y = some (.ref fa))
    (h : ∀ base : Heap, K.In base → base.Ns mainGlobals mg → Cy P w K mg base k y st [] [x] sp) :
    ∃ fd : FuncData, (∀ (s : Shared) (u : Value), BindsTo s fd ⟨[u], []⟩ [(x, u)]) ∧ ∀ base : Heap, K.In base → base.Ns mainGlobals mg → FnOk P w K mg base (L2.CX P w) k fa fd [x] sp := by
  obtain ⟨f, fd, hm, F⟩ := D.ex
  have e := hfa.symm.trans hm
  cases e
  refine ⟨fd, fun s u => by_binds F b rfl, fun base h1 h2 => ?_⟩
  obtain ⟨f2, fd2, O, hm2, F2⟩ := (h base h1 h2).ex
  have e2 := hfa.symm.trans hm2
  cases e2
  obtain ⟨_, _, _, _, _, _, _, _, _, _, _, l1, _⟩ := F.ex
  obtain ⟨_, _, _, _, _, _, _, _, _, _, _, l2, _⟩ := F2.ex
  rw [l1] at l2
  cases l2
  exact O
theorem al_of {K : PySem.W.Frag} {B : Addr} {c : Value} {d : Option Addr} {cd : ClassData} {s : Array (Option Value)} {n : Str} {r : Option Value} (l : K.lookup B = some ⟨c, d, .cls cd, s⟩) (m : cd.mro = tail2 B) (f : PySem.W.findIn K (.ref B) n = some r) : PySem.W.alongIn K n (tail2 B) = some r := by
  change (match K.lookup B with | some ⟨_, _, .cls cd, _⟩ => PySem.W.alongIn K n cd.mro | _ => none) = _ at f
  rw [l] at f
  rw [← m]
  exact f
end BB

/-! M84: values as texts, read back by rule, and the table of modes: plain mathematics. -/
namespace M84
open PySem.NumText
inductive Val where
  | non : Val
  | bl : Bool → Val
  | int : Int → Val
  | str : List Nat → Val
  | lst : Val
  | tup : List Val → Val

/-! ### numbers -/
def dg (m : Nat) : List Nat := (Nat.toDigits 10 m).map Char.toNat
def numL (z : Int) : List Nat := if z < 0 then 45 :: dg z.natAbs else dg z.natAbs
def dig (c : Nat) : Bool := decide (48 ≤ c ∧ c ≤ 57)
def dig1 (c : Nat) : Bool := decide (49 ≤ c ∧ c ≤ 57)
def wsg (c : Nat) : Bool := decide (32 ≤ c ∧ c ≤ 126) && decide (c ≠ 34)
theorem dg_digits (m : Nat) : AllDigits (dg m) := fun c hc => by
  obtain ⟨ch, h, e⟩ := List.mem_map.mp hc
  have r := PyProof.Rows.digit_range (Nat.isDigit_of_mem_toDigits (by decide) (by decide) h)
  rw [← e]
  exact r
theorem dg_val (m : Nat) : digitsVal (dg m) = m := PySem.W.KIN.val_back m
theorem back (c : Nat) (h : 48 ≤ c ∧ c ≤ 57) : (Char.ofNat c).toNat = c := by
  have : ∀ c, c < 58 → 48 ≤ c → (Char.ofNat c).toNat = c := by decide
  exact this c (by omega) h.1
theorem dg_canon {c : Nat} {r : List Nat} (h : AllDigits (c :: r)) (h1 : 49 ≤ c) : dg (digitsVal (c :: r)) = c :: r := by
  unfold dg
  rw [toDigits_digitsVal r.length (c :: r) rfl h (.inr ⟨c, r, rfl, h1⟩), List.map_map]
  conv => rhs; rw [← List.map_id (c :: r)]
  exact List.map_congr_left fun x hx => back x (h x hx)
theorem dg_zero : dg 0 = [48] := by decide
theorem dg_head {m : Nat} (h : m ≠ 0) : ∃ c r, dg m = c :: r ∧ 49 ≤ c ∧ c ≤ 57 := by
  have hd := dg_digits m
  have hv := dg_val m
  cases e : dg m with
  | nil =>
    rw [e] at hv
    exact absurd hv.symm h
  | cons c r =>
    rw [e] at hd hv
    refine ⟨c, r, rfl, ?_, (hd.head).2⟩
    by_cases h0 : c = 48
    · subst h0
      rw [digitsVal_zero] at hv
      have h2 := toDigits_all r hd.tail
      rw [hv] at h2
      have h3 : dg m = (match r.dropWhile (· == 48) with | [] => ['0'] | c :: r => (c :: r).map Char.ofNat).map Char.toNat := congrArg (List.map Char.toNat) h2
      have h4 : (dg m).length = r.length + 1 := by rw [e]; rfl
      have h5 : (r.dropWhile (· == 48)).length ≤ r.length := PySem.NumText.len_dropWhile _ _
      rw [h3, List.length_map] at h4
      cases e2 : r.dropWhile (· == 48) with
      | nil =>
        rw [e2] at h4
        have : r = [] := List.length_eq_zero_iff.mp (by have : (1 : Nat) = r.length + 1 := h4; omega)
        subst this
        exact absurd hv.symm h
      | cons d t =>
        rw [e2] at h4 h5
        have h6 : ((d :: t).map Char.ofNat).length = r.length + 1 := h4
        rw [List.length_map] at h6
        omega
    · have := hd.head
      omega
theorem fold_lo : ∀ (cs : List Nat) (a : Nat), a * 10 ^ cs.length ≤ cs.foldl (fun acc c => acc * 10 + (c - 48)) a
  | [], a => by simp
  | c :: cs, a => by
    refine Nat.le_trans ?_ (fold_lo cs _)
    rw [List.length_cons, Nat.pow_succ, ← Nat.mul_assoc, Nat.mul_right_comm]
    exact Nat.mul_le_mul_right _ (Nat.le_add_right _ _)
theorem fold_hi : ∀ (cs : List Nat) (a : Nat), AllDigits cs → cs.foldl (fun acc c => acc * 10 + (c - 48)) a < (a + 1) * 10 ^ cs.length
  | [], a, _ => by simp
  | c :: cs, a, h => by
    refine Nat.lt_of_lt_of_le (fold_hi cs _ h.tail) ?_
    rw [List.length_cons, Nat.pow_succ, Nat.mul_comm (10 ^ cs.length) 10, ← Nat.mul_assoc]
    refine Nat.mul_le_mul_right _ ?_
    have := h.head
    show a * 10 + (c - 48) + 1 ≤ (a + 1) * 10
    omega
theorem val_hi {cs : List Nat} (h : AllDigits cs) (hl : cs.length ≤ 100) : digitsVal cs < 10 ^ 100 := by
  have := fold_hi cs 0 h
  rw [Nat.zero_add, Nat.one_mul] at this
  exact Nat.lt_of_lt_of_le this (Nat.pow_le_pow_right (by decide) hl)
theorem dg_len {m : Nat} (h : m < 10 ^ 100) : (dg m).length ≤ 100 := by
  by_cases h0 : m = 0
  · subst h0
    rw [dg_zero]
    decide
  obtain ⟨c, r, e, h1, h2⟩ := dg_head h0
  have hv := dg_val m
  rw [e] at hv ⊢
  have h3 := fold_lo r (0 * 10 + (c - 48))
  have h4 : digitsVal (c :: r) = r.foldl (fun acc c => acc * 10 + (c - 48)) (0 * 10 + (c - 48)) := rfl
  rw [← h4, hv] at h3
  have h5 : 10 ^ r.length ≤ (0 * 10 + (c - 48)) * 10 ^ r.length := Nat.le_mul_of_pos_left _ (by omega)
  have h6 : 10 ^ r.length < 10 ^ 100 := Nat.lt_of_le_of_lt (Nat.le_trans h5 h3) h
  have := (Nat.pow_lt_pow_iff_right (by decide : 1 < 10)).mp h6
  rw [List.length_cons]
  omega

/-! ### texts -/
mutual
def txt : Val → List Nat
  | .non => [45]
  | .bl _ => []
  | .int z => numL z
  | .str l => 34 :: (l ++ [34])
  | .lst => []
  | .tup l => 40 :: (txts l ++ [41])
def txts : List Val → List Nat
  | [] => []
  | v :: l => txt v ++ tail l
def tail : List Val → List Nat
  | [] => []
  | v :: l => 32 :: (txt v ++ tail l)
end
mutual
def isV : Nat → Val → Bool
  | _, .non => true
  | _, .bl _ => false
  | _, .int z => decide (z.natAbs < 10 ^ 100)
  | _, .str l => l.all wsg
  | _, .lst => false
  | 0, .tup _ => false
  | n + 1, .tup l => isVs n l
def isVs : Nat → List Val → Bool
  | _, [] => true
  | n, v :: l => isV n v && isVs n l
end

/-! ### the reader -/
inductive Res where
  | ok : Val → List Nat → Res
  | bad : List Nat → Res
def pWord (s : List Nat) : Res := match s.dropWhile wsg with
  | 34 :: r => .ok (.str (s.takeWhile wsg)) r
  | r => .bad r
def digs (s : List Nat) : List Nat := (s.takeWhile dig).take 100
def hd1 (s : List Nat) : Bool := match s with
  | c :: _ => dig1 c
  | [] => false
def hd0 (s : List Nat) : Bool := match s with
  | c :: _ => dig c
  | [] => false
def pNum : List Nat → Res
  | 45 :: s => if hd1 s = true then .ok (.int (-((digitsVal (digs s) : Nat) : Int))) (s.drop (digs s).length) else .ok .non s
  | 48 :: s => .ok (.int 0) s
  | s => .ok (.int ((digitsVal (digs s) : Nat) : Int)) (s.drop (digs s).length)
def more (rec : List Nat → Res) : Nat → List Val → List Nat → Res
  | 0, _, s => .bad s
  | f + 1, acc, s => match s with
    | 32 :: t => match rec t with
      | .ok v s' => more rec f (acc ++ [v]) s'
      | .bad s' => .bad s'
    | 41 :: t => .ok (.tup acc) t
    | t => .bad t
def parts (rec : List Nat → Res) : List Nat → Res
  | 41 :: s => .ok (.tup []) s
  | s => match rec s with
    | .ok v s' => more rec (s'.length + 1) [v] s'
    | .bad s' => .bad s'
def base (rec : Option (List Nat → Res)) : List Nat → Res
  | 34 :: s => pWord s
  | 40 :: s => match rec with
    | some r => parts r s
    | none => .bad (40 :: s)
  | c :: s => if c = 45 ∨ dig c = true then pNum (c :: s) else .bad (c :: s)
  | [] => .bad []
def pv : Nat → List Nat → Res
  | 0 => base none
  | n + 1 => base (some (pv n))

theorem take_drop_while (p : Nat → Bool) (s : List Nat) : s.takeWhile p ++ s.dropWhile p = s := List.takeWhile_append_dropWhile
theorem tw_all (p : Nat → Bool) : ∀ s : List Nat, (s.takeWhile p).all p = true
  | [] => rfl
  | c :: s => by
    rw [List.takeWhile_cons]
    cases h : p c with
    | true => simp [h, tw_all p s]
    | false => rfl
theorem digs_all (s : List Nat) : AllDigits (digs s) := fun c hc => by
  have := List.all_eq_true.mp (tw_all dig s) c (List.mem_of_mem_take hc)
  exact of_decide_eq_true this
theorem digs_app (s : List Nat) : digs s ++ s.drop (digs s).length = s := by
  have h1 : digs s = s.take (digs s).length := by
    have h2 : digs s <+: s := (List.take_prefix ..).trans (List.takeWhile_prefix _)
    exact List.prefix_iff_eq_take.mp h2
  conv => lhs; lhs; rw [h1]
  exact List.take_append_drop _ s
theorem digs_len (s : List Nat) : (digs s).length ≤ 100 := by
  unfold digs
  rw [List.length_take]
  omega
theorem digs_hd {s : List Nat} (h : hd0 s = true) : ∃ c r, digs s = c :: r ∧ s.head? = some c := by
  cases s with
  | nil => cases h
  | cons c s =>
    have hc : dig c = true := h
    refine ⟨c, ((s.takeWhile dig).take 99), ?_, rfl⟩
    unfold digs
    rw [List.takeWhile_cons, if_pos hc]
    rfl
theorem hd1_0 {s : List Nat} (h : hd1 s = true) : hd0 s = true := by
  cases s with
  | nil => cases h
  | cons c s =>
    have h1 := of_decide_eq_true (show dig1 c = true from h)
    exact decide_eq_true (by omega)

/-! ### what was read is the text ahead -/
theorem b_word {s s' : List Nat} {v : Val} (h : pWord s = .ok v s') (n : Nat) : 34 :: s = txt v ++ s' ∧ isV n v = true := by
  unfold pWord at h
  split at h
  · rename_i r e
    injection h with h1 h2
    subst h1 h2
    refine ⟨?_, ?_⟩
    · have := take_drop_while wsg s
      rw [e] at this
      simp only [txt, List.cons_append, List.append_assoc, List.nil_append]
      rw [this]
    · cases n <;> exact tw_all wsg s
  · cases h
theorem b_num {s s' : List Nat} {v : Val} (hs : ∃ c r, s = c :: r ∧ (c = 45 ∨ dig c = true)) (h : pNum s = .ok v s') (n : Nat) : s = txt v ++ s' ∧ isV n v = true := by
  have isI : ∀ z : Int, isV n (.int z) = decide (z.natAbs < 10 ^ 100) := fun z => by cases n <;> rfl
  unfold pNum at h
  split at h
  · rename_i t
    split at h
    · rename_i h1
      injection h with e1 e2
      subst e1 e2
      obtain ⟨c, r, ed, eh⟩ := digs_hd (hd1_0 h1)
      have ha := digs_all t
      have hl := digs_len t
      have h49 : 49 ≤ c := by
        cases t with
        | nil => cases eh
        | cons c' t =>
          cases eh
          exact (of_decide_eq_true (show dig1 c = true from h1)).1
      have hp := digitsVal_pos (cs := r) h49
      have hc : dg (digitsVal (digs t)) = digs t := by
        rw [ed] at ha ⊢
        exact dg_canon ha h49
      refine ⟨?_, ?_⟩
      · have : numL (-((digitsVal (digs t) : Nat) : Int)) = 45 :: digs t := by
          unfold numL
          rw [if_pos (by rw [ed]; omega), Int.natAbs_neg, Int.natAbs_natCast, hc]
        simp only [txt]
        rw [this, List.cons_append, digs_app]
      · rw [isI, Int.natAbs_neg, Int.natAbs_natCast]
        exact decide_eq_true (val_hi ha hl)
    · injection h with e1 e2
      subst e1 e2
      exact ⟨rfl, by cases n <;> rfl⟩
  · injection h with e1 e2
    subst e1 e2
    refine ⟨?_, by rw [isI]; exact decide_eq_true (by decide)⟩
    show _ = numL 0 ++ _
    rw [show numL 0 = [48] by decide]
    rfl
  · rename_i t n1 n2
    injection h with e1 e2
    subst e1 e2
    obtain ⟨c, r, rfl, hc⟩ := hs
    have hc45 : c ≠ 45 := fun e => n1 r (by rw [e])
    have hc48 : c ≠ 48 := fun e => n2 r (by rw [e])
    have hd : dig c = true := hc.resolve_left hc45
    obtain ⟨c', r', ed, eh⟩ := digs_hd (s := c :: r) hd
    cases eh
    have h49 : 49 ≤ c := by
      have := of_decide_eq_true hd
      omega
    have ha := digs_all (c :: r)
    have hl := digs_len (c :: r)
    have hcn : dg (digitsVal (digs (c :: r))) = digs (c :: r) := by
      rw [ed] at ha ⊢
      exact dg_canon ha h49
    refine ⟨?_, ?_⟩
    · have : numL ((digitsVal (digs (c :: r)) : Nat) : Int) = digs (c :: r) := by
        unfold numL
        rw [if_neg (by omega), Int.natAbs_natCast, hcn]
      simp only [txt]
      rw [this, digs_app]
    · rw [isI, Int.natAbs_natCast]
      exact decide_eq_true (val_hi ha hl)
theorem isVs_app (n : Nat) : ∀ (a b : List Val), isVs n (a ++ b) = (isVs n a && isVs n b)
  | [], b => by simp [isVs]
  | v :: a, b => by simp only [List.cons_append, isVs, isVs_app n a b, Bool.and_assoc]
theorem b_more {rec : List Nat → Res} {n : Nat} (hr : ∀ s v s', rec s = .ok v s' → s = txt v ++ s' ∧ isV n v = true) : ∀ (f : Nat) (acc : List Val) (s : List Nat) (v : Val) (s' : List Nat), more rec f acc s = .ok v s' →
    ∃ vs, v = .tup (acc ++ vs) ∧ s = tail vs ++ 41 :: s' ∧ isVs n vs = true
  | 0, acc, s, v, s', h => by cases h
  | f + 1, acc, s, v, s', h => by
    unfold more at h
    split at h
    · rename_i t
      split at h
      · rename_i v1 s1 e
        obtain ⟨vs, ev, es, hv⟩ := b_more hr f (acc ++ [v1]) s1 v s' h
        obtain ⟨e1, e2⟩ := hr _ _ _ e
        refine ⟨v1 :: vs, by rw [ev, List.append_assoc]; rfl, ?_, by simp only [isVs, e2, hv, Bool.and_self]⟩
        rw [e1, es]
        simp only [tail, List.cons_append, List.append_assoc]
      · cases h
    · injection h with e1 e2
      subst e1 e2
      exact ⟨[], by rw [List.append_nil], rfl, rfl⟩
    · cases h
theorem b_parts {rec : List Nat → Res} {n : Nat} (hr : ∀ s v s', rec s = .ok v s' → s = txt v ++ s' ∧ isV n v = true) {s s' : List Nat} {v : Val} (h : parts rec s = .ok v s') : 40 :: s = txt v ++ s' ∧ isV (n + 1) v = true := by
  unfold parts at h
  split at h
  · injection h with e1 e2
    subst e1 e2
    exact ⟨rfl, rfl⟩
  · split at h
    · rename_i v1 s1 e
      obtain ⟨vs, ev, es, hv⟩ := b_more hr _ _ _ _ _ h
      obtain ⟨e1, e2⟩ := hr _ _ _ e
      subst ev
      refine ⟨?_, by simp only [isV, List.cons_append, List.nil_append, isVs, e2, hv, Bool.and_self]⟩
      rw [e1, es]
      simp only [txt, txts, List.cons_append, List.nil_append, List.append_assoc]
    · cases h
theorem b_base {n : Nat} {s s' : List Nat} {v : Val} : pv n s = .ok v s' → s = txt v ++ s' ∧ isV n v = true := by
  induction n generalizing s s' v with
  | zero =>
    intro h
    unfold pv base at h
    split at h
    · exact b_word h 0
    · cases h
    · split at h
      · rename_i c t n1 n2 hc
        exact b_num ⟨c, t, rfl, hc⟩ h 0
      · cases h
    · cases h
  | succ n ih =>
    intro h
    unfold pv base at h
    split at h
    · exact b_word h _
    · exact b_parts (fun s v s' e => ih e) h
    · split at h
      · rename_i c t n1 n2 hc
        exact b_num ⟨c, t, rfl, hc⟩ h _
      · cases h
    · cases h

/-! ### a value's text is read as that value -/
theorem tw_app {p : Nat → Bool} {l r : List Nat} (h : l.all p = true) (hr : ∀ c t, r = c :: t → p c = false) : (l ++ r).takeWhile p = l ∧ (l ++ r).dropWhile p = r := by
  induction l with
  | nil =>
    cases r with
    | nil => exact ⟨rfl, rfl⟩
    | cons c t =>
      have := hr c t rfl
      simp [List.takeWhile_cons, List.dropWhile_cons, this]
  | cons c l ih =>
    rw [List.all_cons, Bool.and_eq_true] at h
    obtain ⟨h1, h2⟩ := ih h.2
    simp only [List.cons_append, List.takeWhile_cons, List.dropWhile_cons, h.1, if_true, h1, h2, and_self]
theorem hd0_no {r : List Nat} (h : hd0 r = false) : ∀ c t, r = c :: t → dig c = false := fun c t e => by
  subst e
  exact h
theorem digs_of {l r : List Nat} (h : AllDigits l) (hl : l.length ≤ 100) (hr : hd0 r = false) : digs (l ++ r) = l := by
  unfold digs
  rw [(tw_app (p := dig) (List.all_eq_true.mpr fun c hc => decide_eq_true (h c hc)) (hd0_no hr)).1]
  exact List.take_of_length_le hl
theorem c_word {l r : List Nat} (h : l.all wsg = true) : pWord (l ++ 34 :: r) = .ok (.str l) r := by
  obtain ⟨h1, h2⟩ := tw_app (p := wsg) (r := 34 :: r) h (fun c t e => by cases e; decide)
  unfold pWord
  rw [h1, h2]
  rfl
theorem pv_34 (n : Nat) (s : List Nat) : pv n (34 :: s) = pWord s := by cases n <;> rfl
theorem pv_40 (n : Nat) (s : List Nat) : pv (n + 1) (40 :: s) = parts (pv n) s := rfl
theorem pv_num (n : Nat) {c : Nat} (s : List Nat) (h : c = 45 ∨ dig c = true) : pv n (c :: s) = pNum (c :: s) := by
  have h34 : c ≠ 34 := by
    rintro rfl
    rcases h with h | h <;> cases h
  have h40 : c ≠ 40 := by
    rintro rfl
    rcases h with h | h <;> cases h
  cases n with
  | zero =>
    unfold pv base
    split
    · rename_i e; cases e; exact absurd rfl h34
    · rename_i e; cases e; exact absurd rfl h40
    · rename_i e; cases e; rw [if_pos h]
    · rename_i e; cases e
  | succ n =>
    unfold pv base
    split
    · rename_i e; cases e; exact absurd rfl h34
    · rename_i e; cases e; exact absurd rfl h40
    · rename_i e; cases e; rw [if_pos h]
    · rename_i e; cases e
theorem pNum_pos {c : Nat} {s : List Nat} (h : 49 ≤ c ∧ c ≤ 57) : pNum (c :: s) = .ok (.int ((digitsVal (digs (c :: s)) : Nat) : Int)) ((c :: s).drop (digs (c :: s)).length) := by
  unfold pNum
  split
  · rename_i e; cases e; omega
  · rename_i e; cases e; omega
  · rfl
theorem c_num {z : Int} (n : Nat) {r : List Nat} (h : z.natAbs < 10 ^ 100) (hr : hd0 r = false) : pv n (numL z ++ r) = .ok (.int z) r := by
  have hl := dg_len h
  have ha := dg_digits z.natAbs
  have hv := dg_val z.natAbs
  have hd := digs_of ha hl hr
  have hdrop : (dg z.natAbs ++ r).drop (dg z.natAbs).length = r := List.drop_left
  by_cases hz : z < 0
  · obtain ⟨c, t, e, h1, h2⟩ := dg_head (m := z.natAbs) (by omega)
    have e1 : numL z = 45 :: dg z.natAbs := if_pos hz
    rw [e1, List.cons_append, pv_num n _ (.inl rfl)]
    have h1' : hd1 (dg z.natAbs ++ r) = true := by
      rw [e]
      exact decide_eq_true ⟨h1, h2⟩
    show (if hd1 (dg z.natAbs ++ r) = true then _ else _) = _
    rw [if_pos h1', hd, hdrop, hv]
    congr 2
    omega
  · have e1 : numL z = dg z.natAbs := if_neg hz
    rw [e1]
    by_cases h0 : z = 0
    · subst h0
      rw [show dg (0 : Int).natAbs = [48] from dg_zero]
      exact pv_num n _ (.inr rfl)
    · obtain ⟨c, t, e, h1, h2⟩ := dg_head (m := z.natAbs) (by omega)
      rw [e] at hd hdrop hv ⊢
      rw [List.cons_append] at hd hdrop ⊢
      rw [pv_num n _ (.inr (decide_eq_true (by omega))), pNum_pos ⟨h1, h2⟩, hd, hdrop, hv]
      congr 2
      omega
theorem hd0_tail (l : List Val) (r : List Nat) : hd0 (tail l ++ 41 :: r) = false := by
  cases l with
  | nil => rfl
  | cons v l => rfl
theorem len_tail : ∀ l : List Val, l.length ≤ (tail l).length
  | [] => Nat.le_refl _
  | v :: l => by
    have := len_tail l
    simp only [tail, List.length_cons, List.length_append]
    omega
theorem hd_txt {n : Nat} {v : Val} (h : isV n v = true) : ∃ c t, txt v = c :: t ∧ c ≠ 41 := by
  cases v with
  | non => exact ⟨45, [], rfl, by decide⟩
  | bl b => cases n <;> cases h
  | int z =>
    show ∃ c t, numL z = c :: t ∧ c ≠ 41
    unfold numL
    split
    · exact ⟨45, _, rfl, by decide⟩
    · by_cases h0 : z.natAbs = 0
      · rw [h0, dg_zero]
        exact ⟨48, [], rfl, by decide⟩
      · obtain ⟨c, t, e, h1, h2⟩ := dg_head h0
        exact ⟨c, t, e, by omega⟩
  | str l => exact ⟨34, _, rfl, by decide⟩
  | lst => cases n <;> cases h
  | tup l => exact ⟨40, _, rfl, by decide⟩
mutual
theorem c_val : ∀ (v : Val) (n : Nat) (r : List Nat), isV n v = true → hd0 r = false → pv n (txt v ++ r) = .ok v r
  | .non, n, r, _, hr => by
    show pv n (45 :: r) = _
    rw [pv_num n _ (.inl rfl)]
    show (if hd1 r = true then _ else _) = _
    rw [if_neg (fun h => by rw [hd1_0 h] at hr; cases hr)]
  | .bl b, n, r, h, _ => by cases n <;> cases h
  | .int z, n, r, h, hr => c_num n (by cases n <;> exact of_decide_eq_true h) hr
  | .str l, n, r, h, hr => by
    have e : txt (.str l) ++ r = 34 :: (l ++ 34 :: r) := by simp only [txt, List.cons_append, List.append_assoc, List.nil_append]
    rw [e, pv_34]
    exact c_word (by cases n <;> exact h)
  | .lst, n, r, h, _ => by cases n <;> cases h
  | .tup l, 0, r, h, _ => by cases h
  | .tup [], n + 1, r, h, _ => rfl
  | .tup (v :: l), n + 1, r, h, hr => by
    have hh : isV n v = true ∧ isVs n l = true := Bool.and_eq_true_iff.mp h
    have e : txt (.tup (v :: l)) ++ r = 40 :: (txt v ++ (tail l ++ 41 :: r)) := by simp only [txt, txts, List.cons_append, List.append_assoc, List.nil_append]
    rw [e, pv_40]
    obtain ⟨c, t, et, hc⟩ := hd_txt hh.1
    have h1 := c_val v n (tail l ++ 41 :: r) hh.1 (hd0_tail l r)
    have e2 : parts (pv n) (txt v ++ (tail l ++ 41 :: r)) = more (pv n) ((tail l ++ 41 :: r).length + 1) [v] (tail l ++ 41 :: r) := by
      unfold parts
      split
      · rename_i t2 e3
        rw [et] at e3
        exact absurd (List.cons.inj e3).1 hc
      · rw [h1]
    rw [e2]
    have := c_more l n r [v] ((tail l ++ 41 :: r).length + 1) hh.2 (by
      rw [List.length_append, List.length_cons]
      have := len_tail l
      omega)
    rw [this]
    rfl
theorem c_more : ∀ (l : List Val) (n : Nat) (r : List Nat) (acc : List Val) (f : Nat), isVs n l = true → l.length < f → more (pv n) f acc (tail l ++ 41 :: r) = .ok (.tup (acc ++ l)) r
  | [], n, r, acc, 0, _, hf => absurd hf (Nat.not_lt_zero _)
  | [], n, r, acc, f + 1, _, _ => by
    rw [List.append_nil]
    rfl
  | v :: l, n, r, acc, 0, _, hf => absurd hf (Nat.not_lt_zero _)
  | v :: l, n, r, acc, f + 1, h, hf => by
    have hh : isV n v = true ∧ isVs n l = true := Bool.and_eq_true_iff.mp h
    have e : tail (v :: l) ++ 41 :: r = 32 :: (txt v ++ (tail l ++ 41 :: r)) := by simp only [tail, List.cons_append, List.append_assoc]
    rw [e]
    show (match pv n (txt v ++ (tail l ++ 41 :: r)) with | .ok v s' => more (pv n) f (acc ++ [v]) s' | .bad s' => .bad s') = _
    rw [c_val v n (tail l ++ 41 :: r) hh.1 (hd0_tail l r)]
    show more (pv n) f (acc ++ [v]) (tail l ++ 41 :: r) = _
    rw [c_more l n r (acc ++ [v]) f hh.2 (by rw [List.length_cons] at hf; omega), List.append_assoc]
    rfl
end

/-! ### the table of modes -/
inductive Md where
  | want | first | word | minus | done
  | cnt (k : Nat)
  deriving DecidableEq
def begun (m : Md) (d : Int) (c : Nat) : Option (Md × Int) :=
  if c = 34 then some (.word, d) else if c = 40 ∧ d < 40 then some (.first, d + 1) else if c = 41 ∧ m = .first then some (.done, d - 1) else if c = 45 then some (.minus, d) else if c = 48 then some (.done, d)
  else if dig1 c = true then some (.cnt 1, d) else none
def out (d : Int) (c : Nat) : Option (Md × Int) := if 0 < d ∧ c = 32 then some (.want, d) else if 0 < d ∧ c = 41 then some (.done, d - 1) else none
def nxt : Md → Int → Nat → Option (Md × Int)
  | .want, d, c => begun .want d c
  | .first, d, c => begun .first d c
  | .word, d, c => if c = 34 then some (.done, d) else if 32 ≤ c ∧ c ≤ 126 then some (.word, d) else none
  | .minus, d, c => if dig1 c = true then some (.cnt 1, d) else out d c
  | .cnt k, d, c => if dig c = true then (if k < 100 then some (.cnt (k + 1), d) else none) else out d c
  | .done, d, c => out d c
def stp : Md → Int → List Nat → Option (List Nat)
  | m, d, [] => if d = 0 ∧ m ≠ .want ∧ m ≠ .first ∧ m ≠ .word then none else some []
  | m, d, c :: s => match nxt m d c with
    | none => some (c :: s)
    | some p => stp p.1 p.2 s
theorem stp_cons {m : Md} {d : Int} {c : Nat} {s : List Nat} {p : Md × Int} (h : nxt m d c = some p) : stp m d (c :: s) = stp p.1 p.2 s := by
  show (match nxt m d c with | none => some (c :: s) | some p => stp p.1 p.2 s) = _
  rw [h]
theorem stp_stop {m : Md} {d : Int} {c : Nat} {s : List Nat} (h : nxt m d c = none) : stp m d (c :: s) = some (c :: s) := by
  show (match nxt m d c with | none => some (c :: s) | some p => stp p.1 p.2 s) = _
  rw [h]
theorem out_dig {d : Int} {c : Nat} (h : dig c = true) : out d c = none := by
  have := of_decide_eq_true h
  unfold out
  rw [if_neg (by omega), if_neg (by omega)]
/-- a mode in which a value is whole goes on as "done" -/
theorem stp_like {m : Md} {d : Int} {s : List Nat} (h1 : m ≠ .want ∧ m ≠ .first ∧ m ≠ .word) (h : ∀ c t, s = c :: t → nxt m d c = out d c) : stp m d s = stp .done d s := by
  cases s with
  | nil =>
    show (if _ then _ else _) = (if _ then _ else _)
    have h2 : (Md.done ≠ .want ∧ Md.done ≠ .first ∧ Md.done ≠ .word) := by decide
    by_cases hd : d = 0
    · rw [if_pos ⟨hd, h1⟩, if_pos ⟨hd, h2⟩]
    · rw [if_neg (fun z => hd z.1), if_neg (fun z => hd z.1)]
  | cons c t =>
    have e := h c t rfl
    cases e2 : out d c with
    | none => rw [stp_stop (e.trans e2), stp_stop (show nxt .done d c = none from e2)]
    | some p => rw [stp_cons (e.trans e2), stp_cons (show nxt .done d c = some p from e2)]
theorem a_word (d : Int) : ∀ s : List Nat, stp .word d s = match s.dropWhile wsg with | 34 :: r => stp .done d r | r => some r
  | [] => by
    show (if _ then _ else _) = _
    rw [if_neg (fun z => z.2.2.2 rfl)]
    rfl
  | c :: s => by
    by_cases h34 : c = 34
    · subst h34
      rfl
    · have hn : nxt .word d c = if 32 ≤ c ∧ c ≤ 126 then some (.word, d) else none := if_neg h34
      by_cases hr : 32 ≤ c ∧ c ≤ 126
      · rw [if_pos hr] at hn
        rw [stp_cons hn, List.dropWhile_cons, if_pos (by unfold wsg; rw [decide_eq_true hr, decide_eq_true h34]; rfl)]
        exact a_word d s
      · rw [if_neg hr] at hn
        rw [stp_stop hn, List.dropWhile_cons, if_neg (by unfold wsg; rw [decide_eq_false hr, Bool.false_and]; decide)]
        split
        · rename_i e; cases e; exact absurd rfl h34
        · rfl
theorem a_cnt (d : Int) : ∀ (s : List Nat) (k : Nat), k ≤ 100 → stp (.cnt k) d s = stp .done d (s.drop ((s.takeWhile dig).take (100 - k)).length)
  | [], k, _ => by
    rw [List.drop_nil]
    exact stp_like ⟨(fun z => nomatch z), (fun z => nomatch z), (fun z => nomatch z)⟩ (fun c t e => by cases e)
  | c :: s, k, hk => by
    cases hc : dig c with
    | false =>
      rw [List.takeWhile_cons, hc]
      simp only [Bool.false_eq_true, if_false, List.take_nil, List.length_nil, List.drop_zero]
      refine stp_like ⟨(fun z => nomatch z), (fun z => nomatch z), (fun z => nomatch z)⟩ (fun c' t e => ?_)
      cases e
      show (if dig c = true then _ else _) = _
      rw [if_neg (by rw [hc]; decide)]
    | true =>
      rw [List.takeWhile_cons, hc, if_pos rfl]
      by_cases h1 : k < 100
      · have hn : nxt (.cnt k) d c = some (.cnt (k + 1), d) := by
          show (if dig c = true then _ else _) = _
          rw [if_pos hc, if_pos h1]
        rw [stp_cons hn]
        show stp (.cnt (k + 1)) d s = _
        rw [a_cnt d s (k + 1) (by omega), show 100 - k = (100 - (k + 1)) + 1 by omega, List.take_succ_cons, List.length_cons, List.drop_succ_cons]
      · have hn : nxt (.cnt k) d c = none := by
          show (if dig c = true then _ else _) = _
          rw [if_pos hc, if_neg h1]
        rw [stp_stop hn, show 100 - k = 0 by omega, List.take_zero, List.length_nil, List.drop_zero]
        exact (stp_stop (show nxt .done d c = none from out_dig hc)).symm
theorem digs_drop {c : Nat} {s : List Nat} (h : dig c = true) : (c :: s).drop (digs (c :: s)).length = s.drop ((s.takeWhile dig).take (100 - 1)).length := by
  unfold digs
  rw [List.takeWhile_cons, if_pos h, show 100 = 99 + 1 from rfl, List.take_succ_cons, List.length_cons, List.drop_succ_cons]
/-- modes in which a value may begin with this text -/
def May (m : Md) (s : List Nat) : Prop := m = .want ∨ (m = .first ∧ ∀ t, s ≠ 41 :: t)
theorem may_nxt {m : Md} {c : Nat} {s : List Nat} (h : May m (c :: s)) (d : Int) : nxt m d c = begun .want d c := by
  rcases h with rfl | ⟨rfl, h⟩
  · rfl
  · show begun .first d c = _
    have hc : c ≠ 41 := fun e => h s (by rw [e])
    unfold begun
    rw [if_neg (show ¬ (c = 41 ∧ Md.first = .first) from fun z => hc z.1), if_neg (show ¬ (c = 41 ∧ Md.want = .first) from fun z => hc z.1)]
theorem a_num {m : Md} {c : Nat} {s s' : List Nat} {v : Val} {d : Int} (hm : May m (c :: s)) (hc : c = 45 ∨ dig c = true) (h : pNum (c :: s) = .ok v s') : stp m d (c :: s) = stp .done d s' := by
  have hn := may_nxt hm d
  rcases hc with rfl | hc
  · rw [stp_cons (p := (.minus, d)) hn]
    show stp .minus d s = _
    have e : pNum (45 :: s) = if hd1 s = true then .ok (.int (-((digitsVal (digs s) : Nat) : Int))) (s.drop (digs s).length) else .ok .non s := rfl
    rw [e] at h
    by_cases h1 : hd1 s = true
    · rw [if_pos h1] at h
      injection h with _ h2
      subst h2
      cases s with
      | nil => cases h1
      | cons c s =>
        rw [stp_cons (show nxt .minus d c = some (.cnt 1, d) from if_pos h1)]
        show stp (.cnt 1) d s = _
        rw [a_cnt d s 1 (by decide), digs_drop (hd1_0 h1)]
    · rw [if_neg h1] at h
      injection h with _ h2
      subst h2
      refine stp_like ⟨by decide, by decide, by decide⟩ (fun c t e => ?_)
      subst e
      exact if_neg h1
  · have hb := of_decide_eq_true hc
    by_cases h0 : c = 48
    · subst h0
      rw [stp_cons (p := (.done, d)) (hn.trans (by unfold begun; simp))]
      have e : pNum (48 :: s) = .ok (.int 0) s := rfl
      rw [e] at h
      injection h with _ h2
      subst h2
      rfl
    · have h19 : 49 ≤ c ∧ c ≤ 57 := by omega
      have hbg : begun .want d c = some (.cnt 1, d) := by
        unfold begun
        rw [if_neg (by omega), if_neg (by omega), if_neg (by omega), if_neg (by omega), if_neg h0, if_pos (show dig1 c = true from decide_eq_true h19)]
      rw [stp_cons (hn.trans hbg)]
      rw [pNum_pos h19] at h
      injection h with _ h2
      subst h2
      show stp (.cnt 1) d s = _
      rw [a_cnt d s 1 (by decide), digs_drop hc]
theorem pNum_ok (s : List Nat) : ∃ v s', pNum s = .ok v s' := by
  unfold pNum
  split
  · split
    · exact ⟨_, _, rfl⟩
    · exact ⟨_, _, rfl⟩
  · exact ⟨_, _, rfl⟩
  · exact ⟨_, _, rfl⟩
/-- how a reading of a value shows in the table -/
def Goes (m : Md) (d : Int) (s : List Nat) : Res → Prop
  | .ok _ s' => stp m d s = stp .done d s'
  | .bad s' => stp m d s = some s'
theorem a_more {n : Nat} {d : Int} (hd : 0 < d) (hr : ∀ m s, May m s → Goes m d s (pv n s)) : ∀ (f : Nat) (acc : List Val) (s : List Nat), s.length < f → (match more (pv n) f acc s with
    | .ok _ s' => stp .done d s = stp .done (d - 1) s'
    | .bad s' => stp .done d s = some s')
  | 0, _, _, hf => absurd hf (Nat.not_lt_zero _)
  | f + 1, acc, [], _ => by
    show stp .done d [] = some []
    show (if _ then _ else _) = _
    rw [if_neg (fun z => by have := z.1; omega)]
  | f + 1, acc, c :: s, hf => by
    by_cases h32 : c = 32
    · subst h32
      have hs : stp .done d (32 :: s) = stp .want d s := stp_cons (p := (.want, d)) (if_pos ⟨hd, rfl⟩)
      rw [hs]
      have h1 := hr .want s (.inl rfl)
      show (match (match pv n s with | .ok v s' => more (pv n) f (acc ++ [v]) s' | .bad s' => .bad s') with | .ok _ s' => stp .want d s = stp .done (d - 1) s' | .bad s' => stp .want d s = some s')
      cases e : pv n s with
      | ok v s' =>
        rw [e] at h1
        obtain ⟨e1, _⟩ := b_base e
        have hl : s'.length < f := by
          rw [e1, List.length_cons, List.length_append] at hf
          omega
        have h2 := a_more hd hr f (acc ++ [v]) s' hl
        have h1' : stp .want d s = stp .done d s' := h1
        rw [h1']
        exact h2
      | bad s' =>
        rw [e] at h1
        exact h1
    · by_cases h41 : c = 41
      · subst h41
        show stp .done d (41 :: s) = stp .done (d - 1) s
        refine stp_cons (p := (.done, d - 1)) ?_
        show (if _ then _ else _) = _
        rw [if_neg (fun z => by cases z.2), if_pos ⟨hd, rfl⟩]
      · have e : more (pv n) (f + 1) acc (c :: s) = .bad (c :: s) := by
          unfold more
          split
          · rename_i e; cases e; exact absurd rfl h32
          · rename_i e; cases e; exact absurd rfl h41
          · rfl
        rw [e]
        refine stp_stop ?_
        show (if _ then _ else _) = _
        rw [if_neg (fun z => h32 z.2), if_neg (fun z => h41 z.2)]
theorem a_base : ∀ (n : Nat), n ≤ 40 → ∀ (m : Md) (s : List Nat), May m s → Goes m (40 - (n : Int)) s (pv n s)
  | n, hn, m, [], hm => by
    have e : pv n [] = .bad [] := by cases n <;> rfl
    rw [e]
    show (if _ then _ else _) = _
    rcases hm with rfl | ⟨rfl, _⟩
    · rw [if_neg (fun z => z.2.1 rfl)]
    · rw [if_neg (fun z => z.2.2.1 rfl)]
  | n, hn, m, c :: s, hm => by
    have hx := may_nxt hm (40 - (n : Int))
    by_cases h34 : c = 34
    · subst h34
      rw [pv_34]
      have hs : stp m (40 - (n : Int)) (34 :: s) = stp .word (40 - (n : Int)) s := stp_cons (p := (.word, _)) hx
      have hw := a_word (40 - (n : Int)) s
      unfold pWord
      rw [← hs] at hw
      split
      · rename_i r e
        rw [e] at hw
        exact hw
      · rename_i r hne
        show stp m _ (34 :: s) = some _
        rw [hw]
        split
        · rename_i r2 e2
          exact absurd e2 (hne r2)
        · rfl
    · by_cases h40 : c = 40
      · subst h40
        match n, hn, hx with
        | 0, hn, hx =>
          show stp m (40 - ((0 : Nat) : Int)) (40 :: s) = some (40 :: s)
          exact stp_stop (hx.trans (by unfold begun; simp [dig1]))
        | n + 1, hn, hx =>
          have hs : stp m (40 - ((n + 1 : Nat) : Int)) (40 :: s) = stp .first (40 - (n : Int)) s := by
            have := stp_cons (s := s) (p := (.first, 40 - ((n + 1 : Nat) : Int) + 1)) (hx.trans (by unfold begun; rw [if_neg (by decide), if_pos ⟨rfl, by omega⟩]))
            rw [this]
            show stp .first (40 - ((n + 1 : Nat) : Int) + 1) s = _
            rw [show 40 - ((n + 1 : Nat) : Int) + 1 = 40 - (n : Int) by omega]
          have hd : (0 : Int) < 40 - (n : Int) := by omega
          have hd1 : (40 - (n : Int)) - 1 = 40 - ((n + 1 : Nat) : Int) := by omega
          have ih := a_base n (by omega)
          rw [pv_40]
          show Goes m (40 - ((n + 1 : Nat) : Int)) (40 :: s) (parts (pv n) s)
          by_cases h41 : ∃ t, s = 41 :: t
          · obtain ⟨t, rfl⟩ := h41
            show stp m _ (40 :: 41 :: t) = stp .done _ t
            rw [hs, stp_cons (p := (.done, 40 - (n : Int) - 1)) (by show begun .first _ 41 = _; unfold begun; simp)]
            show stp .done (40 - (n : Int) - 1) t = _
            rw [hd1]
          · have hmay : May .first s := .inr ⟨rfl, fun t e => h41 ⟨t, e⟩⟩
            have h1 := ih .first s hmay
            have e2 : parts (pv n) s = (match pv n s with | .ok v s' => more (pv n) (s'.length + 1) [v] s' | .bad s' => .bad s') := by
              unfold parts
              split
              · rename_i t; exact absurd ⟨t, rfl⟩ h41
              · rfl
            rw [e2]
            cases e : pv n s with
            | ok v s' =>
              rw [e] at h1
              have h1' : stp .first (40 - (n : Int)) s = stp .done (40 - (n : Int)) s' := h1
              have h2 := a_more hd (fun m s hm => ih m s hm) (s'.length + 1) [v] s' (Nat.lt_succ_self _)
              show Goes m _ (40 :: s) (more (pv n) (s'.length + 1) [v] s')
              cases e3 : more (pv n) (s'.length + 1) [v] s' with
              | ok v2 s2 =>
                rw [e3] at h2
                show stp m _ (40 :: s) = stp .done _ s2
                rw [hs, h1', ← hd1]
                exact h2
              | bad s2 =>
                rw [e3] at h2
                show stp m _ (40 :: s) = some s2
                rw [hs, h1']
                exact h2
            | bad s' =>
              rw [e] at h1
              show stp m _ (40 :: s) = some s'
              rw [hs]
              exact h1
      · by_cases hc : c = 45 ∨ dig c = true
        · rw [pv_num n s hc]
          obtain ⟨v, s', e⟩ := pNum_ok (c :: s)
          rw [e]
          exact a_num hm hc e
        · have e : pv n (c :: s) = .bad (c :: s) := by
            cases n with
            | zero =>
              unfold pv base
              split
              · rename_i e; cases e; exact absurd rfl h34
              · rename_i e; cases e; exact absurd rfl h40
              · rename_i e; cases e; rw [if_neg hc]
              · rename_i e; cases e
            | succ n =>
              unfold pv base
              split
              · rename_i e; cases e; exact absurd rfl h34
              · rename_i e; cases e; exact absurd rfl h40
              · rename_i e; cases e; rw [if_neg hc]
              · rename_i e; cases e
          rw [e]
          refine stp_stop (hx.trans ?_)
          have h45 : c ≠ 45 := fun z => hc (.inl z)
          have hdg : ¬ (48 ≤ c ∧ c ≤ 57) := fun z => hc (.inr (decide_eq_true z))
          unfold begun
          rw [if_neg h34, if_neg (fun z => h40 z.1), if_neg (fun z => by cases z.2), if_neg h45, if_neg (by omega), if_neg (fun z => by have := of_decide_eq_true (show dig1 c = true from z); omega)]

/-! ### both together -/
theorem stp_end (s : List Nat) : stp .done 0 s = if s = [] then none else some s := by
  cases s with
  | nil => rfl
  | cons c t => exact stp_stop rfl
/-- the law's place, by the reading -/
theorem stop_pv (s : List Nat) : stp .want 0 s = match pv 40 s with
    | .ok _ s' => if s' = [] then none else some s'
    | .bad s' => some s' := by
  have h := a_base 40 (by decide) .want s (.inl rfl)
  cases e : pv 40 s with
  | ok v s' =>
    rw [e] at h
    exact Eq.trans h (stp_end s')
  | bad s' =>
    rw [e] at h
    exact h
theorem read_txt {v : Val} (h : isV 40 v = true) : pv 40 (txt v) = .ok v [] := by
  have := c_val v 40 [] h rfl
  rw [List.append_nil] at this
  exact this
theorem stop_txt {v : Val} (h : isV 40 v = true) : stp .want 0 (txt v) = none := by
  rw [stop_pv, read_txt h]
  rfl
theorem stop_none {s : List Nat} (h : stp .want 0 s = none) : ∃ v, pv 40 s = .ok v [] ∧ s = txt v ∧ isV 40 v = true := by
  rw [stop_pv] at h
  cases e : pv 40 s with
  | ok v s' =>
    rw [e] at h
    by_cases h0 : s' = []
    · subst h0
      obtain ⟨e1, e2⟩ := b_base e
      rw [List.append_nil] at e1
      exact ⟨v, rfl, e1, e2⟩
    · rw [show (match Res.ok v s' with | .ok _ s' => if s' = [] then none else some s' | .bad s' => some s') = if s' = [] then none else some s' from rfl, if_neg h0] at h
      cases h
  | bad s' =>
    rw [e] at h
    cases h
end M84

namespace K84
open PySem PySem.Spec PyProof.Rows L2 BB

/-! ### values in the heap -/
abbrev Val := M84.Val
mutual
def IsV (K : PySem.W.Frag) (H : Hp) : V → Val → Prop
  | x, .non => x = .non
  | x, .bl b => x = .bl b
  | x, .int z => x = .int z
  | x, .str l => x = W l
  | x, .lst => ∃ a xs, x = .ref a ∧ H a = some (.lst xs)
  | x, .tup l => ∃ a xs, x = .ref a ∧ SqT K H a xs ∧ IsVs K H xs l
def IsVs (K : PySem.W.Frag) (H : Hp) : List V → List Val → Prop
  | xs, [] => xs = []
  | xs, v :: l => ∃ y ys, xs = y :: ys ∧ IsV K H y v ∧ IsVs K H ys l
end
mutual
def sz : Val → Nat
  | .str l => l.length + 1
  | .tup l => 1 + szs l
  | .non => 1
  | .bl _ => 1
  | .int _ => 1
  | .lst => 1
def szs : List Val → Nat
  | [] => 0
  | v :: l => sz v + szs l
end
section
variable {K : PySem.W.Frag} {H H' : Hp}
theorem tupS {a : Addr} {xs : List V} (e : Same H H') (h : SqT K H a xs) : SqT K H' a xs := by
  rcases h with h | h
  · exact .inl (h.imp (e _ _) fun ⟨o, z⟩ => ⟨o, e _ _ z⟩)
  · exact .inr h
mutual
theorem IsV.same (e : Same H H') : ∀ (v : Val) (x : V), IsV K H x v → IsV K H' x v
  | .non, _, h => h
  | .bl _, _, h => h
  | .int _, _, h => h
  | .str _, _, h => h
  | .lst, x, ⟨a, xs, e1, e2⟩ => ⟨a, xs, e1, e _ _ e2⟩
  | .tup l, x, ⟨a, xs, e1, e2, e3⟩ => ⟨a, xs, e1, tupS e e2, IsVs.same e l xs e3⟩
theorem IsVs.same (e : Same H H') : ∀ (l : List Val) (xs : List V), IsVs K H xs l → IsVs K H' xs l
  | [], _, h => h
  | v :: l, _, ⟨y, ys, e1, e2, e3⟩ => ⟨y, ys, e1, IsV.same e v y e2, IsVs.same e l ys e3⟩
end
def ty : Val → String
  | .non => "NoneType"
  | .bl _ => "bool"
  | .int _ => "int"
  | .str _ => "str"
  | .lst => "list"
  | .tup _ => "tuple"
def isI : Val → Bool
  | .int _ => true
  | _ => false
def isS : Val → Bool
  | .str _ => true
  | _ => false
def isB : Val → Bool
  | .bl _ => true
  | _ => false
def isT : Val → Bool
  | .tup _ => true
  | _ => false
theorem kInt : ∀ v : Val, kitB (ty v) "int" = some (isI v || isB v)
  | .non => (by decide +kernel : kitB "NoneType" "int" = some false)
  | .bl _ => (by decide +kernel : kitB "bool" "int" = some true)
  | .int _ => (by decide +kernel : kitB "int" "int" = some true)
  | .str _ => (by decide +kernel : kitB "str" "int" = some false)
  | .lst => (by decide +kernel : kitB "list" "int" = some false)
  | .tup _ => (by decide +kernel : kitB "tuple" "int" = some false)
theorem kBool : ∀ v : Val, kitB (ty v) "bool" = some (isB v)
  | .non => (by decide +kernel : kitB "NoneType" "bool" = some false)
  | .bl _ => (by decide +kernel : kitB "bool" "bool" = some true)
  | .int _ => (by decide +kernel : kitB "int" "bool" = some false)
  | .str _ => (by decide +kernel : kitB "str" "bool" = some false)
  | .lst => (by decide +kernel : kitB "list" "bool" = some false)
  | .tup _ => (by decide +kernel : kitB "tuple" "bool" = some false)
theorem kStr : ∀ v : Val, kitB (ty v) "str" = some (isS v)
  | .non => (by decide +kernel : kitB "NoneType" "str" = some false)
  | .bl _ => (by decide +kernel : kitB "bool" "str" = some false)
  | .int _ => (by decide +kernel : kitB "int" "str" = some false)
  | .str _ => (by decide +kernel : kitB "str" "str" = some true)
  | .lst => (by decide +kernel : kitB "list" "str" = some false)
  | .tup _ => (by decide +kernel : kitB "tuple" "str" = some false)
theorem kTup : ∀ v : Val, kitB (ty v) "tuple" = some (isT v)
  | .non => (by decide +kernel : kitB "NoneType" "tuple" = some false)
  | .bl _ => (by decide +kernel : kitB "bool" "tuple" = some false)
  | .int _ => (by decide +kernel : kitB "int" "tuple" = some false)
  | .str _ => (by decide +kernel : kitB "str" "tuple" = some false)
  | .lst => (by decide +kernel : kitB "list" "tuple" = some false)
  | .tup _ => (by decide +kernel : kitB "tuple" "tuple" = some true)
theorem tyX {x : V} : ∀ {v : Val}, IsV K H x v → TyX K H x (.type (ty v))
  | .non, h => by cases h; exact .base .non
  | .bl b, h => by cases h; exact .base (.bl b)
  | .int z, h => by cases h; exact .base (.int z)
  | .str l, h => by cases h; exact .base (.str _)
  | .lst, ⟨a, xs, e1, e2⟩ => by subst e1; exact .base (.lst e2)
  | .tup l, ⟨a, xs, e1, e2, e3⟩ => by
    subst e1
    rcases e2 with (e2 | ⟨o, e2⟩) | ⟨o, its, n, e2, e4, _⟩
    · exact .base (.tup e2)
    · exact .fTuple e2
    · exact .kTuple e2 e4
theorem vs_len : ∀ {l : List Val} {xs : List V}, IsVs K H xs l → xs.length = l.length
  | [], _, h => by cases h; rfl
  | v :: l, _, ⟨y, ys, e1, _, e3⟩ => by
    subst e1
    rw [List.length_cons, List.length_cons, vs_len e3]
theorem vs_at : ∀ {l : List Val} {xs : List V} {i : Nat} {x : V}, IsVs K H xs l → xs[i]? = some x → ∃ v, l[i]? = some v ∧ IsV K H x v
  | [], _, _, _, h, e => by cases h; cases e
  | v :: l, _, 0, x, ⟨y, ys, e1, e2, _⟩, e => by
    subst e1
    cases e
    exact ⟨v, rfl, e2⟩
  | v :: l, _, i + 1, x, ⟨y, ys, e1, _, e3⟩, e => by
    subst e1
    exact vs_at (l := l) (xs := ys) (i := i) e3 e
end
theorem sz_pos (v : Val) : 0 < sz v := by
  cases v <;> simp only [sz] <;> omega
theorem szs_len : ∀ l : List Val, l.length ≤ szs l
  | [] => Nat.le_refl _
  | v :: l => by
    have := szs_len l
    have := sz_pos v
    simp only [szs, List.length_cons]
    omega
theorem sz_at : ∀ {l : List Val} {i : Nat} {v : Val}, l[i]? = some v → sz v ≤ szs l
  | [], _, _, e => by cases e
  | w :: l, 0, v, e => by
    cases e
    simp only [szs]
    omega
  | w :: l, i + 1, v, e => by
    have := sz_at (l := l) (i := i) e
    simp only [szs]
    omega
theorem W_le (a b : Nat) : (!decide ((S [b]).cps.toList < (S [a]).cps.toList)) = decide (a ≤ b) := by
  show (!decide ([b] < [a])) = _
  have : ([b] < [a]) ↔ b < a := by
    constructor
    · intro h
      cases h with
      | rel h => exact h
      | cons h => cases h
    · exact fun h => .rel h
  by_cases h : a ≤ b
  · rw [decide_eq_true h, decide_eq_false (fun z => by have := this.mp z; omega)]
    rfl
  · rw [decide_eq_false h, decide_eq_true (this.mpr (by omega))]
    rfl
theorem sQ : Str.ofString "\"" = S [34] := by decide +kernel
theorem sSp : Str.ofString " " = S [32] := by decide +kernel
theorem sTi : Str.ofString "~" = S [126] := by decide +kernel
theorem sE : Str.ofString "" = S [] := by decide +kernel
theorem sMi : Str.ofString "-" = S [45] := by decide +kernel
theorem s0 : Str.ofString "0" = S [48] := by decide +kernel
theorem s1 : Str.ofString "1" = S [49] := by decide +kernel
theorem sOp : Str.ofString "(" = S [40] := by decide +kernel
theorem sCl : Str.ofString ")" = S [41] := by decide +kernel

theorem wsg_eq {c : Nat} (h1 : decide (32 ≤ c) = true) (h2 : decide (c ≤ 126) = true) : (!decide (W [c] = W [34])) = M84.wsg c := by
  rw [W_dec]
  unfold M84.wsg
  rw [decide_eq_true (show 32 ≤ c ∧ c ≤ 126 from ⟨of_decide_eq_true h1, of_decide_eq_true h2⟩), Bool.true_and]
  by_cases h : c = 34
  · subst h
    rfl
  · rw [decide_eq_true h, beq_eq_false_iff_ne.mpr (fun e => h (List.cons.inj e).1)]
    rfl
theorem wsg_no {c : Nat} (h : decide (32 ≤ c) = false ∨ decide (c ≤ 126) = false) : M84.wsg c = false := by
  unfold M84.wsg
  rw [decide_eq_false (show ¬ (32 ≤ c ∧ c ≤ 126) from fun z => by
    rcases h with h | h
    · exact of_decide_eq_false h z.1
    · exact of_decide_eq_false h z.2), Bool.false_and]
section
variable {K : PySem.W.Frag} {H : Hp}
theorem is_non {x : V} {v : Val} (h : IsV K H x v) (e : decide (x = V.non) = true) : v = .non := by
  have e := of_decide_eq_true e
  subst e
  cases v with
  | non => rfl
  | bl b => cases h
  | int z => cases h
  | str l => cases h
  | lst => obtain ⟨a, xs, e1, _⟩ := h; cases e1
  | tup l => obtain ⟨a, xs, e1, _⟩ := h; cases e1
theorem no_non {x : V} {v : Val} (h : IsV K H x v) (e : decide (x = V.non) = false) : v ≠ .non := by
  rintro rfl
  cases h
  exact absurd rfl (of_decide_eq_false e)
end
theorem v_int {v : Val} (h : isI v = true) : ∃ z, v = .int z := by
  cases v <;> first | exact ⟨_, rfl⟩ | cases h
theorem v_str {v : Val} (h : isS v = true) : ∃ l, v = .str l := by
  cases v <;> first | exact ⟨_, rfl⟩ | cases h
theorem v_tup {v : Val} (h : isT v = true) : ∃ l, v = .tup l := by
  cases v <;> first | exact ⟨_, rfl⟩ | cases h
theorem iv_non (n : Nat) : M84.isV n .non = true := by cases n <;> rfl
theorem iv_int (n : Nat) (z : Int) : M84.isV n (.int z) = decide (z.natAbs < 10 ^ 100) := by cases n <;> rfl
theorem iv_str (n : Nat) (l : List Nat) : M84.isV n (.str l) = l.all M84.wsg := by cases n <;> rfl
theorem iv_odd (n : Nat) {v : Val} (h0 : v ≠ .non) (h1 : isI v = false) (h2 : isS v = false) (h3 : isT v = false) : M84.isV n v = false := by
  cases v with
  | non => exact absurd rfl h0
  | int z => cases h1
  | str l => cases h2
  | tup l => cases h3
  | bl b => cases n <;> rfl
  | lst => cases n <;> rfl
theorem ivs_all (n : Nat) : ∀ l : List Val, M84.isVs n l = (l.map (M84.isV n)).all id
  | [] => rfl
  | v :: l => by
    rw [List.map_cons, List.all_cons, ← ivs_all n l]
    rfl
theorem abs_dec (z : Int) : decide ((if z < 0 then -z else z) < 10 ^ 100) = decide (z.natAbs < 10 ^ 100) := by
  have : ((if z < 0 then -z else z) < 10 ^ 100) ↔ z.natAbs < 10 ^ 100 := by
    split <;> omega
  by_cases h : z.natAbs < 10 ^ 100
  · rw [decide_eq_true h, decide_eq_true (this.mpr h)]
  · rw [decide_eq_false h, decide_eq_false (fun z => h (this.mp z))]

/-! ### a reader -/
/-- what an error at the place k must do -/
def Thr (B : Addr) (R : Hp → Hp → Prop) (H : Hp) (k : Int) (E : XK) : Prop := ∀ d H', H d = none → R H H' → H' d = some (.xd [("at", .int k)]) → E (.ref B) (some d) H'
theorem ta_ : ¬ (("text" : Str) = "at") := by decide +kernel
def rf (a b : V) : List (Str × V) := putF "at" b (putF "text" a [])
theorem rf_eq (a b : V) : rf a b = ([("text", a), ("at", b)] : List (Str × V)) := by
  show (if ("text" : Str) = "at" then [(("text" : Str), b)] else (("text" : Str), a) :: putF "at" b []) = ([("text", a), ("at", b)] : List (Str × V))
  rw [if_neg ta_]
  all_goals rfl
theorem rf_text (a b : V) : (rf a b).lookup ("text" : Str) = some a := by
  unfold rf
  rw [lookup_putF, if_neg ta_, lookup_putF, if_pos rfl]
theorem rf_at (a b : V) : (rf a b).lookup ("at" : Str) = some b := by
  unfold rf
  rw [lookup_putF, if_pos rfl]
theorem rf_no {a b : V} {m : Str} (h1 : ¬ m = "at") (h2 : ¬ m = "text") : (rf a b).lookup m = none := by
  unfold rf
  rw [lookup_putF, if_neg h1, lookup_putF, if_neg h2]
  all_goals rfl
theorem rf_put (a b c : V) : putF "at" c (rf a b) = rf a c := by
  rw [rf_eq, rf_eq]
  show (if ("text" : Str) = "at" then _ else (("text" : Str), a) :: (if ("at" : Str) = "at" then [(("at" : Str), c)] else _)) = ([("text", a), ("at", c)] : List (Str × V))
  rw [if_neg ta_, if_pos rfl]
def RD (C : Addr) (H : Hp) (rd : Addr) (l s : List Nat) : Prop := ∃ (dx : Addr) (p : List Nat), l = p ++ s ∧ l.length ≤ 500000 ∧ H rd = some (.ins C dx (rf (W l) (.int (p.length : Int))))
def Aft (K : PySem.W.Frag) (B C : Addr) (H : Hp) (rd : Addr) (l : List Nat) (r : M84.Res) (Q : VK) (E : XK) : Prop :=
  (∀ v s', r = .ok v s' → ∀ x H', SameB rd H H' → RD C H' rd l s' → IsV K H' x v → Q x H') ∧ (∀ s', r = .bad s' → Thr B (SameB rd) H ((l.length - s'.length : Nat) : Int) E)
theorem RD.step {C rd dx : Addr} {H : Hp} {l p t : List Nat} {c : Nat} (e : l = p ++ c :: t) (hl : l.length ≤ 500000) : RD C (upd H rd (.ins C dx (putF "at" (.int ((p.length : Int) + 1)) (rf (W l) (.int (p.length : Int)))))) rd l t := by
  refine ⟨dx, p ++ [c], by rw [e, List.append_assoc]; rfl, hl, ?_⟩
  rw [upd_same, rf_put, List.length_append]
  rfl
theorem RD.same {C rd : Addr} {H H' : Hp} {l s : List Nat} (e : Same H H') (h : RD C H rd l s) : RD C H' rd l s := by
  obtain ⟨dx, p, e1, e2, e3⟩ := h
  exact ⟨dx, p, e1, e2, e _ _ e3⟩
theorem RD.sameB {C rd b : Addr} {H H' : Hp} {l s : List Nat} (n : rd ≠ b) (e : SameB b H H') (h : RD C H rd l s) : RD C H' rd l s := by
  obtain ⟨dx, p, e1, e2, e3⟩ := h
  exact ⟨dx, p, e1, e2, e _ _ n e3⟩
theorem pos_of {l p s : List Nat} (e : l = p ++ s) : ((l.length - s.length : Nat) : Int) = (p.length : Int) := by
  rw [e, List.length_append]
  omega
def at1 (s g : List Nat) : Bool := match s with
  | c :: _ => decide (c ∈ g)
  | [] => false
theorem at1_yes {s : List Nat} {c : Nat} (h : at1 s [c] = true) : ∃ t, s = c :: t := by
  cases s with
  | nil => cases h
  | cons d t =>
    have := of_decide_eq_true (show decide (d ∈ [c]) = true from h)
    rw [List.mem_singleton] at this
    exact ⟨t, by rw [this]⟩
theorem at1_no {s : List Nat} {c : Nat} (h : at1 s [c] = false) : ∀ t, s ≠ c :: t := by
  rintro t rfl
  exact of_decide_eq_false (show decide (c ∈ [c]) = false from h) (List.mem_singleton.mpr rfl)
def NUM : List Nat := [48, 49, 50, 51, 52, 53, 54, 55, 56, 57]
theorem num_mem (c : Nat) : decide (c ∈ NUM) = M84.dig c := by
  unfold NUM M84.dig
  by_cases h : 48 ≤ c ∧ c ≤ 57
  · rw [decide_eq_true h]
    refine decide_eq_true ?_
    simp only [List.mem_cons, List.not_mem_nil, or_false]
    omega
  · rw [decide_eq_false h]
    refine decide_eq_false fun z => h ?_
    simp only [List.mem_cons, List.not_mem_nil, or_false] at z
    omega
theorem num_mem1 (c : Nat) : decide (c ∈ NUM.drop 1) = M84.dig1 c := by
  show decide (c ∈ [49, 50, 51, 52, 53, 54, 55, 56, 57]) = _
  unfold M84.dig1
  by_cases h : 49 ≤ c ∧ c ≤ 57
  · rw [decide_eq_true h]
    refine decide_eq_true ?_
    simp only [List.mem_cons, List.not_mem_nil, or_false]
    omega
  · rw [decide_eq_false h]
    refine decide_eq_false fun z => h ?_
    simp only [List.mem_cons, List.not_mem_nil, or_false] at z
    omega
theorem at1_num (s : List Nat) : at1 s NUM = M84.hd0 s := by
  cases s with
  | nil => rfl
  | cons c t => exact num_mem c
theorem at1_num1 (s : List Nat) : at1 s (NUM.drop 1) = M84.hd1 s := by
  cases s with
  | nil => rfl
  | cons c t => exact num_mem1 c
theorem nonempty_dec (s : List Nat) : (!decide (W (s.take 1) = W [])) = !s.isEmpty := by
  cases s with
  | nil => rfl
  | cons c t =>
    rw [W_dec]
    rfl
theorem sb_free {H H' : Hp} {rd d : Addr} {o : HO} (sb : SameB rd H H') (h : H' rd = some o) (nd : H' d = none) : H d = none := by
  cases ho : H d with
  | none => rfl
  | some u =>
    by_cases hdr : d = rd
    · rw [hdr, h] at nd
      cases nd
    · rw [sb d u hdr ho] at nd
      cases nd
theorem Thr.back {B rd : Addr} {H H' : Hp} {o : HO} {k : Int} {E : XK} (t : Thr B (SameB rd) H k E) (sb : SameB rd H H') (h : H' rd = some o) : Thr B (SameB rd) H' k E := fun d H2 nd s2 e2 => t d H2 (sb_free sb h nd) (sb.trans s2) e2
/-- how far a loop goes -/
theorem tw_more {p : Nat → Bool} : ∀ {s : List Nat} {k : Nat} {c : Nat} {t : List Nat}, k ≤ (s.takeWhile p).length → s.drop k = c :: t → p c = true → k + 1 ≤ (s.takeWhile p).length
  | [], k, c, t, _, e, _ => by rw [List.drop_nil] at e; cases e
  | a :: s, 0, c, t, _, e, h => by
    cases e
    rw [List.takeWhile_cons, if_pos h, List.length_cons]
    omega
  | a :: s, k + 1, c, t, hk, e, h => by
    cases ha : p a with
    | false =>
      rw [List.takeWhile_cons, ha] at hk
      exact absurd hk (by simp)
    | true =>
      rw [List.takeWhile_cons, if_pos ha, List.length_cons] at hk ⊢
      have := tw_more (s := s) (k := k) (by omega) (by rw [List.drop_succ_cons] at e; exact e) h
      omega
theorem tw_end {p : Nat → Bool} : ∀ {s : List Nat} {k : Nat}, k ≤ (s.takeWhile p).length → (∀ c t, s.drop k = c :: t → p c = false) → k = (s.takeWhile p).length ∧ s.drop k = s.dropWhile p
  | [], k, hk, _ => by
    have : k = 0 := by
      have := hk
      simp only [List.takeWhile_nil, List.length_nil] at this
      omega
    subst this
    exact ⟨rfl, rfl⟩
  | a :: s, k, hk, h => by
    cases ha : p a with
    | false =>
      rw [List.takeWhile_cons, ha] at hk ⊢
      have : k = 0 := by
        simp only [Bool.false_eq_true, if_false, List.length_nil] at hk
        omega
      subst this
      rw [List.dropWhile_cons, ha]
      exact ⟨rfl, rfl⟩
    | true =>
      cases k with
      | zero =>
        have := h a s rfl
        rw [ha] at this
        cases this
      | succ k =>
        rw [List.takeWhile_cons, if_pos ha, List.length_cons] at hk ⊢
        obtain ⟨h1, h2⟩ := tw_end (s := s) (k := k) (by omega) (fun c t e => h c t (by rw [List.drop_succ_cons]; exact e))
        rw [List.dropWhile_cons, if_pos ha, List.drop_succ_cons]
        exact ⟨by omega, h2⟩
theorem tw_take (p : Nat → Bool) (s : List Nat) : s.take (s.takeWhile p).length = s.takeWhile p := (List.prefix_iff_eq_take.mp (List.takeWhile_prefix p)).symm
theorem more_digs {s : List Nat} {k : Nat} (hk : k ≤ (M84.digs s).length) : (M84.hd0 (s.drop k) = true ∧ k < 100) ↔ k < (M84.digs s).length := by
  have hd : (M84.digs s).length = min 100 (s.takeWhile M84.dig).length := by
    unfold M84.digs
    rw [List.length_take]
  constructor
  · rintro ⟨h1, h2⟩
    cases e : s.drop k with
    | nil =>
      rw [e] at h1
      cases h1
    | cons c t =>
      rw [e] at h1
      have := tw_more (p := M84.dig) (s := s) (k := k) (by omega) e h1
      omega
  · intro h
    refine ⟨?_, by omega⟩
    cases e : M84.hd0 (s.drop k) with
    | true => rfl
    | false =>
      have := (tw_end (p := M84.dig) (s := s) (k := k) (by omega) (fun c t e2 => by rw [e2] at e; exact e)).1
      omega
theorem pv_bad {n : Nat} {s : List Nat} (h34 : ∀ t, s ≠ 34 :: t) (h40 : n = 0 ∨ ∀ t, s ≠ 40 :: t) (hc : at1 s (45 :: NUM) = false) : M84.pv n s = .bad s := by
  cases s with
  | nil => cases n <;> rfl
  | cons c t =>
    have hc' : ¬ (c = 45 ∨ M84.dig c = true) := by
      have h1 := of_decide_eq_false (show decide (c ∈ 45 :: NUM) = false from hc)
      rintro (h | h)
      · exact h1 (by rw [h]; exact List.mem_cons_self ..)
      · rw [← num_mem] at h
        exact h1 (List.mem_cons_of_mem _ (of_decide_eq_true h))
    have h34' : c ≠ 34 := fun e => h34 t (by rw [e])
    cases n with
    | zero =>
      unfold M84.pv M84.base
      split
      · rename_i e; cases e; exact absurd rfl h34'
      · rename_i e; cases e; rfl
      · rename_i e; cases e; rw [if_neg hc']
      · rename_i e; cases e
    | succ n =>
      have h40' : c ≠ 40 := fun e => by
        rcases h40 with h | h
        · cases h
        · exact h t (by rw [e])
      unfold M84.pv M84.base
      split
      · rename_i e; cases e; exact absurd rfl h34'
      · rename_i e; cases e; exact absurd rfl h40'
      · rename_i e; cases e; rw [if_neg hc']
      · rename_i e; cases e
theorem at1_numq {s : List Nat} (h : at1 s (45 :: NUM) = true) : ∃ c t, s = c :: t ∧ (c = 45 ∨ M84.dig c = true) := by
  cases s with
  | nil => cases h
  | cons c t =>
    refine ⟨c, t, rfl, ?_⟩
    rcases List.mem_cons.mp (of_decide_eq_true (show decide (c ∈ 45 :: NUM) = true from h)) with e | e
    · exact .inl e
    · exact .inr (by rw [← num_mem]; exact decide_eq_true e)
theorem sNum : Str.ofString "0123456789" = S NUM := by decide +kernel

/-! ### numbers and joined texts -/
theorem numL_str (z : Int) : Str.ofString (toString z) = S (M84.numL z) := by
  have e : (Str.ofString (toString z)).cps.toList = M84.numL z := by
    cases z with
    | ofNat m =>
      have h := PySem.W.KIN.signs_num m
      exact h.trans (if_neg (show ¬ ((Int.ofNat m) < 0) from Int.not_lt.mpr (Int.natCast_nonneg m))).symm
    | negSucc m =>
      rw [PyProof.Rows.signs_ofString]
      have e1 : toString (Int.negSucc m) = "-" ++ Nat.repr (m + 1) := rfl
      rw [e1, String.toList_append, List.map_append, Nat.toList_repr]
      exact (if_pos (show Int.negSucc m < 0 from Int.negSucc_lt_zero m)).symm
  generalize Str.ofString (toString z) = q at e
  obtain ⟨⟨l⟩⟩ := q
  exact congrArg (fun l => Str.mk (Array.mk l)) e
theorem log_ok {z : Int} (h : z.natAbs < 10 ^ 100) : z.natAbs.log2 < 1920 := by
  have h1 : (10 : Nat) ^ 100 < 2 ^ 400 := by decide +kernel
  have h2 : z.natAbs.log2 < 400 := PySem.Flt.log2_lt_of (by decide) (Nat.lt_trans h h1)
  omega
theorem joinL_txts : ∀ l : List Val, TL.joinL [32] (l.map M84.txt) = M84.txts l
  | [] => rfl
  | [v] => by
    show M84.txt v = M84.txt v ++ []
    rw [List.append_nil]
  | v :: w :: l => by
    show M84.txt v ++ ([32] ++ TL.joinL [32] ((w :: l).map M84.txt)) = M84.txt v ++ (32 :: (M84.txt w ++ M84.tail l))
    rw [joinL_txts (w :: l)]
    rfl
theorem len_join (f : Val → List Nat) : ∀ l : List Val, (((l.map f).map S).map (fun x : Str => x.length)).sum = ((l.map f).map List.length).sum := fun l => by
  rw [List.map_map]
  congr 1
theorem sum_txts : ∀ l : List Val, ((l.map M84.txt).map List.length).sum ≤ (M84.txts l).length
  | [] => Nat.le_refl _
  | v :: l => by
    have h2 : ∀ l : List Val, ((l.map M84.txt).map List.length).sum ≤ (M84.tail l).length := by
      intro l
      induction l with
      | nil => exact Nat.le_refl _
      | cons v l ih =>
        simp only [List.map_cons, List.sum_cons, M84.tail, List.length_cons, List.length_append]
        omega
    have := h2 l
    simp only [List.map_cons, List.sum_cons, M84.txts, List.length_append]
    omega
theorem len_txts : ∀ l : List Val, l.length ≤ (M84.txts l).length + 1
  | [] => Nat.zero_le _
  | v :: l => by
    have := M84.len_tail l
    simp only [List.length_cons, M84.txts, List.length_append]
    omega
theorem txt_at : ∀ {l : List Val} {i : Nat} {v : Val}, l[i]? = some v → (M84.txt v).length ≤ (M84.txts l).length := by
  have h2 : ∀ {l : List Val} {i : Nat} {v : Val}, l[i]? = some v → (M84.txt v).length ≤ (M84.tail l).length := by
    intro l
    induction l with
    | nil => intro i v e; cases e
    | cons w l ih =>
      intro i v e
      cases i with
      | zero =>
        cases e
        simp only [M84.tail, List.length_cons, List.length_append]
        omega
      | succ i =>
        have := ih (i := i) (v := v) e
        simp only [M84.tail, List.length_cons, List.length_append]
        omega
  intro l i v e
  cases l with
  | nil => cases e
  | cons w l =>
    cases i with
    | zero =>
      cases e
      simp only [M84.txts, List.length_append]
      omega
    | succ i =>
      have := h2 (l := l) (i := i) (v := v) e
      simp only [M84.txts, List.length_append]
      omega
theorem isV_at {n : Nat} : ∀ {l : List Val} {i : Nat} {v : Val}, M84.isVs n l = true → l[i]? = some v → M84.isV n v = true
  | [], _, _, _, e => by cases e
  | w :: l, 0, v, h, e => by
    cases e
    exact (Bool.and_eq_true_iff.mp h).1
  | w :: l, i + 1, v, h, e => isV_at (l := l) (i := i) (Bool.and_eq_true_iff.mp h).2 e
theorem ok_non (n : Nat) {v : Val} (h : M84.isV n v = true) : v = .non ∨ isI v = true ∨ isS v = true ∨ ∃ m l, v = .tup l ∧ n = m + 1 ∧ M84.isVs m l = true := by
  cases v with
  | non => exact .inl rfl
  | int z => exact .inr (.inl rfl)
  | str l => exact .inr (.inr (.inl rfl))
  | bl b => cases n <;> cases h
  | lst => cases n <;> cases h
  | tup l =>
    cases n with
    | zero => cases h
    | succ m => exact .inr (.inr (.inr ⟨m, l, rfl, rfl, h⟩))
-- values that stay where one object changes
mutual
theorem IsV.keepB {K : PySem.W.Frag} {H H' : Hp} {b : Addr} (hb : ∀ xs, H b ≠ some (.tup xs) ∧ ∀ o, H b ≠ some (.frz o (.tup xs))) (e : SameB b H H') : ∀ (v : Val) (n : Nat) (x : V), M84.isV n v = true → IsV K H x v → IsV K H' x v
  | .non, _, _, _, h => h
  | .bl _, _, _, _, h => h
  | .int _, _, _, _, h => h
  | .str _, _, _, _, h => h
  | .lst, n, _, hn, _ => by cases n <;> cases hn
  | .tup l, 0, _, hn, _ => by cases hn
  | .tup l, n + 1, x, hn, ⟨a, xs, e1, e2, e3⟩ => by
    refine ⟨a, xs, e1, ?_, IsVs.keepB hb e l n xs hn e3⟩
    rcases e2 with (z | ⟨o, z⟩) | z
    · exact .inl (.inl (e _ _ (fun q => (hb xs).1 (q ▸ z)) z))
    · exact .inl (.inr ⟨o, e _ _ (fun q => (hb xs).2 o (q ▸ z)) z⟩)
    · exact .inr z
theorem IsVs.keepB {K : PySem.W.Frag} {H H' : Hp} {b : Addr} (hb : ∀ xs, H b ≠ some (.tup xs) ∧ ∀ o, H b ≠ some (.frz o (.tup xs))) (e : SameB b H H') : ∀ (l : List Val) (n : Nat) (xs : List V), M84.isVs n l = true → IsVs K H xs l → IsVs K H' xs l
  | [], _, _, _, h => h
  | v :: l, n, _, hn, ⟨y, ys, e1, e2, e3⟩ => ⟨y, ys, e1, IsV.keepB hb e v n y (Bool.and_eq_true_iff.mp hn).1 e2, IsVs.keepB hb e l n ys (Bool.and_eq_true_iff.mp hn).2 e3⟩
end
theorem not_ins {H : Hp} {b C dx : Addr} {fs : List (Str × V)} (h : H b = some (.ins C dx fs)) : ∀ xs, H b ≠ some (.tup xs) ∧ ∀ o, H b ≠ some (.frz o (.tup xs)) := fun xs => ⟨fun z => (by rw [h] at z; cases z), fun o z => (by rw [h] at z; cases z)⟩
theorem not_lst {H : Hp} {b : Addr} {ys : List V} (h : H b = some (.lst ys)) : ∀ xs, H b ≠ some (.tup xs) ∧ ∀ o, H b ≠ some (.frz o (.tup xs)) := fun xs => ⟨fun z => (by rw [h] at z; cases z), fun o z => (by rw [h] at z; cases z)⟩
theorem IsVs.snoc {K : PySem.W.Frag} {H : Hp} {x : V} {v : Val} (h2 : IsV K H x v) : ∀ {l : List Val} {xs : List V}, IsVs K H xs l → IsVs K H (xs ++ [x]) (l ++ [v])
  | [], _, h => by
    cases h
    exact ⟨x, [], rfl, h2, rfl⟩
  | w :: l, _, ⟨y, ys, e1, e2, e3⟩ => by
    subst e1
    exact ⟨y, ys ++ [x], rfl, e2, IsVs.snoc h2 e3⟩


/-! ### the source of draws -/
def Deal (H : Hp) (b p : Addr) : Prop := ∃ (gs : List Int) (z : Int), b ≠ p ∧ H b = some (.lst [.ref p, .int z]) ∧ H p = some (.lst (gs.map V.int)) ∧ (∀ g ∈ gs, 0 ≤ g) ∧ gs.length ≤ 100 ∧ 0 ≤ z ∧ z < 2 ^ 40
def SameD (b p : Addr) (H H' : Hp) : Prop := ∀ a o, a ≠ b → a ≠ p → H a = some o → H' a = some o
def DrD (b p : Addr) (H H' : Hp) : Prop := SameD b p H H' ∧ Deal H' b p
theorem SameD.refl {b p : Addr} (H : Hp) : SameD b p H H := fun _ _ _ _ h => h
theorem SameD.trans {b p : Addr} {H H1 H2 : Hp} (x : SameD b p H H1) (y : SameD b p H1 H2) : SameD b p H H2 := fun a o h1 h2 e => y a o h1 h2 (x a o h1 h2 e)
theorem SameD.of {b p : Addr} {H H' : Hp} (x : Same H H') : SameD b p H H' := fun a o _ _ h => x a o h
theorem SameD.putP {b p : Addr} {H : Hp} {o : HO} : SameD b p H (upd H p o) := fun a u _ h e => by rw [upd_ne h]; exact e
theorem SameD.putB {b p : Addr} {H : Hp} {o : HO} : SameD b p H (upd H b o) := fun a u h _ e => by rw [upd_ne h]; exact e
theorem Deal.same {b p : Addr} {H H' : Hp} (x : Same H H') (h : Deal H b p) : Deal H' b p := by
  obtain ⟨gs, z, h1, h2, h3, h4⟩ := h
  exact ⟨gs, z, h1, x _ _ h2, x _ _ h3, h4⟩
theorem DrD.of {b p : Addr} {H H' : Hp} (h : Deal H b p) (x : Same H H') : DrD b p H H' := ⟨.of x, h.same x⟩
theorem DrD.trans {b p : Addr} {H H1 H2 : Hp} (x : DrD b p H H1) (y : DrD b p H1 H2) : DrD b p H H2 := ⟨x.1.trans y.1, y.2⟩
theorem DrD.then {b p : Addr} {H H1 H2 : Hp} (x : DrD b p H H1) (y : Same H1 H2) : DrD b p H H2 := ⟨x.1.trans (.of y), x.2.same y⟩
theorem DrD.same0 {b p : Addr} {H0 H H' : Hp} (s : Same H0 H) (hb : H0 b = none) (hp : H0 p = none) (d : DrD b p H H') : Same H0 H' := fun a o e => d.1 a o (ne_of_none e hb) (ne_of_none e hp) (s a o e)
theorem Deal.b_lst {b p : Addr} {H : Hp} (h : Deal H b p) : ∃ ys, H b = some (.lst ys) := by
  obtain ⟨gs, z, _, h2, _⟩ := h
  exact ⟨_, h2⟩
theorem Deal.p_lst {b p : Addr} {H : Hp} (h : Deal H b p) : ∃ ys, H p = some (.lst ys) := by
  obtain ⟨gs, z, _, _, h3, _⟩ := h
  exact ⟨_, h3⟩
/-- what is new beside the source -/
theorem Deal.new_ne {b p q : Addr} {H : Hp} (h : Deal H b p) (nq : H q = none) : q ≠ b ∧ q ≠ p := by
  obtain ⟨gs, z, _, h2, h3, _⟩ := h
  exact ⟨fun e => (by rw [e, h2] at nq; cases nq), fun e => (by rw [e, h3] at nq; cases nq)⟩
theorem dpInts {K : PySem.W.Frag} {H : Hp} : ∀ gs : List Int, DpAll K H (gs.map V.int) (gs.map PyData.int)
  | [] => .nil
  | g :: gs => .cons (.int g) (dpInts gs)
theorem ne_nil {K : PySem.W.Frag} {H : Hp} {p q : Addr} {gs : List Int} {Q : VK} (h1 : SqL K H p (gs.map V.int)) (h2 : SqL K H q []) (hq : Q (.bl (!gs.isEmpty)) H) : rNeU K (.ref p) (.ref q) H Q := by
  refine .inr ⟨_, _, .lst h1 (dpInts gs), .lst h2 .nil, PySem.W.ke_shaped_ints gs, PySem.W.ke_shaped_ints [], ?_⟩
  cases gs with
  | nil => exact hq
  | cons g gs => exact hq
theorem at_last (gi : List Int) (x : Int) : atI ((gi ++ [x]).map V.int) (-1) = some (.int x) := by
  unfold atI ixN
  rw [List.length_map, List.length_append, List.length_singleton]
  simp only [List.map_append, List.map_cons, List.map_nil]
  rw [if_neg (by decide), if_pos (by omega), Option.bind_some, show (-1 + ((gi.length + 1 : Nat) : Int)).toNat = (gi.map V.int).length by rw [List.length_map]; omega]
  simp
theorem pop_at (gi : List Int) (x : Int) : ((gi ++ [x]).map V.int)[((gi ++ [x]).map V.int).length - 1]? = some (V.int x) := by
  rw [List.map_append, List.length_append, List.length_map]
  simp
theorem pop_left (gi : List Int) (x : Int) : ((gi ++ [x]).map V.int).dropLast = gi.map V.int := by
  rw [List.map_append]
  exact List.dropLast_concat

/-! ### the signs, numbers -/
def SFEW : List Nat := [32, 33, 35, 36, 38, 39, 40, 41, 42, 43, 44, 45, 46, 47, 48, 49, 50, 51, 52, 53, 54, 55, 56, 57, 58, 59, 60, 61, 62, 63, 64, 91, 93, 94, 95, 123, 124, 125, 126]
def SALP : List Nat := [65, 66, 67, 68, 69, 70, 71, 72, 73, 74, 75, 76, 77, 78, 79, 80, 81, 82, 83, 84, 85, 86, 87, 88, 89, 90, 97, 98, 99, 100, 101, 102, 103, 104, 105, 106, 107, 108, 109, 110, 111, 112, 113, 114, 115, 116, 117, 118, 119, 120, 121, 122]
def SIGNS : List Nat := SFEW ++ SALP ++ [92] ++ [96]
theorem sFew : Str.ofString " !#$&'()*+,-./0123456789:;<=>?\x40[]^_{|}~" = S SFEW := by decide +kernel
theorem sAlp : Str.ofString "ABCDEFGHIJKLMNOPQRSTUVWXYZabcdefghijklmnopqrstuvwxyz" = S SALP := by decide +kernel
theorem sBs : Str.ofString "\\" = S [92] := by decide +kernel
theorem sBt : Str.ofString "`" = S [96] := by decide +kernel
theorem signs_w : ∀ c ∈ SIGNS, M84.wsg c = true := by decide +kernel
theorem s01 : Str.ofString "01" = S [48, 49] := by decide +kernel
theorem sMix : Str.ofString "0-() 1" = S [48, 45, 40, 41, 32, 49] := by decide +kernel
theorem cutV_to (xs : List V) (k : Nat) : cutV xs none (some (k : Int)) = xs.take k := by
  unfold cutV
  rw [HT.sIx_none, HT.sIx_nat, List.drop_zero, Nat.sub_zero]
  by_cases h : k ≤ xs.length
  · rw [Nat.min_eq_left h]
  · rw [Nat.min_eq_right (by omega), List.take_of_length_le (Nat.le_refl _), List.take_of_length_le (by omega)]
theorem fm_if {α : Type} (c : α → Bool) (g : α → V) (d : α) : ∀ l : List α, (List.range l.length).filterMap (fun i => if c (l.getD i d) = true then some (g (l.getD i d)) else none) = (l.filter c).map g := by
  intro l
  have h : (List.range l.length).map (fun i => l.getD i d) = l := by
    have := range_map_list l d (fun x => x)
    rw [List.map_id'] at this
    exact this
  have h2 : (List.range l.length).filterMap (fun i => if c (l.getD i d) = true then some (g (l.getD i d)) else none) = ((List.range l.length).map (fun i => l.getD i d)).filterMap (fun x => if c x = true then some (g x) else none) := by
    rw [List.filterMap_map]
    rfl
  rw [h2, h]
  clear h h2
  induction l with
  | nil => rfl
  | cons x l ih =>
    rw [List.filterMap_cons, List.filter_cons]
    cases hx : c x with
    | true => simp [ih]
    | false => simp [ih]
theorem big2 {x r s : Int} (hx : x = 1 ∨ x = -1) (h0 : 0 ≤ r) (h1 : r < 10 ^ 9) (h2 : 0 ≤ s) (h3 : s < 9) : (x * (10 ^ 98 + r) * (1 + s)).natAbs < 10 ^ 100 := by
  have e : (x * (10 ^ 98 + r) * (1 + s)).natAbs = ((10 : Int) ^ 98 + r).natAbs * (1 + s).natAbs := by
    rw [Int.natAbs_mul, Int.natAbs_mul]
    rcases hx with rfl | rfl
    · rw [Int.natAbs_one, Nat.one_mul]
    · rw [Int.natAbs_neg, Int.natAbs_one, Nat.one_mul]
  rw [e]
  have a1 : ((10 : Int) ^ 98 + r).natAbs ≤ 10 ^ 98 + 10 ^ 9 := by omega
  have a2 : (1 + s).natAbs ≤ 9 := by omega
  exact Nat.lt_of_le_of_lt (Nat.mul_le_mul a1 a2) (by decide +kernel)

/-- a comprehension whose turns draw -/
theorem lcD {J : It} {n : Nat} {G : Hp → Prop} {Y : Nat → Hp → V → Hp → Prop} (w : Walk J n G Y) {b p : Addr} (Inv : Hp → List V → Prop) {g : TG} {tt : TT} {te : TE} {vs : List Nat} {σ : L2.St} {H1 : Hp} {D : Addr} {Qd : Hp → Prop} (nD : H1 D = none) (hD : Deal H1 b p)
    (hn : n ≤ 100000) (hG : ∀ H, DrD b p H1 H → G H) (h0 : Inv (upd H1 D (.lst [])) [])
    (hs : ∀ i x H H' acc, i < n → DrD b p H1 H → H D = some (.lst acc) → Inv H acc → Y i H x H' → ∀ (Ky : V → Hp → Prop) (Kn : Hp → Prop), (∀ y H4, DrD b p H H4 → Inv (upd H4 D (.lst (acc ++ [y]))) (acc ++ [y]) → Ky y H4) →
      g x (wipe σ vs) H' fun σ2 H2 => wipe σ2 vs = wipe σ vs ∧ tt σ2 H2 fun b H3 => if b = true then te σ2 H3 Ky else Kn H3)
    (hd : ∀ H acc, DrD b p H1 H → H D = some (.lst acc) → acc.length = n → Inv H acc → Qd H) :
    ∃ W : Nat → Nat → Hp → Prop, (∃ m, W 0 m (upd H1 D (.lst []))) ∧ ∀ i m H, W i m H →
      (J.stop i H ∧ Qd H) ∨ (J.go i H ∧ ∃ Nx : Hp → Prop, (∀ H', Nx H' → ∃ m', m' < m ∧ W (i + 1) m' H') ∧ ∀ x H', J.yld i H x H' → g x (wipe σ vs) H' fun σ2 H2 => wipe σ2 vs = wipe σ vs ∧ tt σ2 H2 fun b H3 =>
        if b = true then te σ2 H3 fun y H4 => ∃ acc, H4 D = some (.lst acc) ∧ acc.length < sizeLine ∧ Nx (upd H4 D (.lst (acc ++ [y]))) else Nx H3) := by
  obtain ⟨db, dp⟩ := hD.new_ne nD
  refine lc_it w (fun i H => ∃ acc, DrD b p H1 H ∧ H D = some (.lst acc) ∧ acc.length = i ∧ Inv H acc) ⟨[], .of hD (same_new nD), upd_same, rfl, h0⟩ (fun i H _ ⟨_, d, _⟩ => hG H d) (fun i x H H' hi ⟨acc, d, e, l, iv⟩ y => ?_) (fun H ⟨acc, d, e, l, iv⟩ => hd H acc d e l iv)
  refine hs i x H H' acc hi d e iv y _ _ (fun y H4 d4 iv4 => ⟨acc, d4.1 _ _ db dp e, Nat.lt_of_lt_of_le (show acc.length < 1000000 by omega) (by decide), acc ++ [y], ?_, upd_same, by rw [List.length_append, List.length_singleton, l], iv4⟩)
  have s4 : SameD b p H1 (upd H4 D (.lst (acc ++ [y]))) := fun a o ha hp e2 => by
    rw [upd_ne (ne_of_none e2 nD)]
    exact (d.trans d4).1 a o ha hp e2
  refine ⟨s4, ?_⟩
  obtain ⟨gs, z, g1, g2, g3, g4⟩ := d4.2
  exact ⟨gs, z, g1, (upd_ne (Ne.symm db)).trans g2, (upd_ne (Ne.symm dp)).trans g3, g4⟩
/-! ### drawn values -/
def Bd : Nat → Nat
  | 0 => 103
  | n + 1 => 4 * (Bd n + 1) + 2
theorem Bd_le : ∀ n, 103 ≤ Bd n
  | 0 => Nat.le_refl _
  | n + 1 => by
    have := Bd_le n
    unfold Bd
    omega
theorem Bd_len {n : Nat} : ∀ {l : List Val}, (∀ v ∈ l, (M84.txt v).length ≤ Bd n) → (M84.txts l).length ≤ l.length * (Bd n + 1)
  | [], _ => Nat.zero_le _
  | v :: l, h => by
    have h2 : ∀ {l : List Val}, (∀ v ∈ l, (M84.txt v).length ≤ Bd n) → (M84.tail l).length ≤ l.length * (Bd n + 1) := by
      intro l
      induction l with
      | nil => intro _; exact Nat.zero_le _
      | cons w l ih =>
        intro h
        have h3 := ih fun v hv => h v (List.mem_cons_of_mem _ hv)
        have h4 := h w (List.mem_cons_self ..)
        simp only [M84.tail, List.length_cons, List.length_append, Nat.succ_mul]
        omega
    have h3 := h2 fun v hv => h v (List.mem_cons_of_mem _ hv)
    have h4 := h v (List.mem_cons_self ..)
    simp only [M84.txts, List.length_cons, List.length_append, Nat.succ_mul]
    omega
theorem len_int {z : Int} (h : z.natAbs < 10 ^ 100) : (M84.numL z).length ≤ 101 := by
  have := M84.dg_len h
  unfold M84.numL
  split
  · rw [List.length_cons]
    omega
  · omega
def TV (n : Nat) (v : Val) : Prop := M84.isV n v = true ∧ (M84.txt v).length ≤ Bd n
theorem isVs_mem {n : Nat} : ∀ {l : List Val}, (∀ v ∈ l, M84.isV n v = true) → M84.isVs n l = true
  | [], _ => rfl
  | v :: l, h => Bool.and_eq_true_iff.mpr ⟨h v (List.mem_cons_self ..), isVs_mem fun w hw => h w (List.mem_cons_of_mem _ hw)⟩
theorem tv_tup {n : Nat} {l : List Val} (h : ∀ v ∈ l, TV n v) (hl : l.length ≤ 4) : TV (n + 1) (.tup l) := by
  refine ⟨isVs_mem fun v hv => (h v hv).1, ?_⟩
  have h1 := Bd_len fun v hv => (h v hv).2
  have h2 : l.length * (Bd n + 1) ≤ 4 * (Bd n + 1) := Nat.mul_le_mul_right _ hl
  simp only [M84.txt, List.length_cons, List.length_append, List.length_nil]
  show _ ≤ 4 * (Bd n + 1) + 2
  omega
/-- values in a list of the heap, none of them in what changes -/
def IsA (K : PySem.W.Frag) (n : Nat) (H : Hp) (xs : List V) : Prop := ∃ l : List Val, IsVs K H xs l ∧ ∀ v ∈ l, TV n v
mutual
theorem IsV.keepD {K : PySem.W.Frag} {H H' : Hp} {b p : Addr} (hb : ∃ ys, H b = some (.lst ys)) (hp : ∃ ys, H p = some (.lst ys)) (e : SameD b p H H') : ∀ (v : Val) (n : Nat) (x : V), M84.isV n v = true → IsV K H x v → IsV K H' x v
  | .non, _, _, _, h => h
  | .bl _, _, _, _, h => h
  | .int _, _, _, _, h => h
  | .str _, _, _, _, h => h
  | .lst, n, _, hn, _ => by cases n <;> cases hn
  | .tup l, 0, _, hn, _ => by cases hn
  | .tup l, n + 1, x, hn, ⟨a, xs, e1, e2, e3⟩ => by
    refine ⟨a, xs, e1, ?_, IsVs.keepD hb hp e l n xs hn e3⟩
    obtain ⟨y1, hb⟩ := hb
    obtain ⟨y2, hp⟩ := hp
    rcases e2 with (z | ⟨o, z⟩) | z
    · exact .inl (.inl (e _ _ (fun q => by rw [q, hb] at z; cases z) (fun q => by rw [q, hp] at z; cases z) z))
    · exact .inl (.inr ⟨o, e _ _ (fun q => by rw [q, hb] at z; cases z) (fun q => by rw [q, hp] at z; cases z) z⟩)
    · exact .inr z
theorem IsVs.keepD {K : PySem.W.Frag} {H H' : Hp} {b p : Addr} (hb : ∃ ys, H b = some (.lst ys)) (hp : ∃ ys, H p = some (.lst ys)) (e : SameD b p H H') : ∀ (l : List Val) (n : Nat) (xs : List V), M84.isVs n l = true → IsVs K H xs l → IsVs K H' xs l
  | [], _, _, _, h => h
  | v :: l, n, _, hn, ⟨y, ys, e1, e2, e3⟩ => ⟨y, ys, e1, IsV.keepD hb hp e v n y (Bool.and_eq_true_iff.mp hn).1 e2, IsVs.keepD hb hp e l n ys (Bool.and_eq_true_iff.mp hn).2 e3⟩
end
/-! ### depth -/
mutual
def dp : Val → Nat
  | .tup l => 1 + dps l
  | .non => 0
  | .bl _ => 0
  | .int _ => 0
  | .str _ => 0
  | .lst => 0
def dps : List Val → Nat
  | [] => 0
  | v :: l => max (dp v) (dps l)
end
mutual
theorem isV_dp : ∀ (v : Val) (n : Nat), M84.isV n v = true → dp v ≤ n ∧ ∀ m, dp v ≤ m → M84.isV m v = true
  | .non, n, _ => ⟨Nat.zero_le _, fun m _ => iv_non m⟩
  | .bl b, n, h => by cases n <;> cases h
  | .int z, n, h => ⟨Nat.zero_le _, fun m _ => by rw [iv_int] at h ⊢; exact h⟩
  | .str l, n, h => ⟨Nat.zero_le _, fun m _ => by rw [iv_str] at h ⊢; exact h⟩
  | .lst, n, h => by cases n <;> cases h
  | .tup l, 0, h => by cases h
  | .tup l, n + 1, h => by
    obtain ⟨h1, h2⟩ := isVs_dp l n h
    refine ⟨by simp only [dp]; omega, fun m hm => ?_⟩
    simp only [dp] at hm
    cases m with
    | zero => omega
    | succ m => exact h2 m (by omega)
theorem isVs_dp : ∀ (l : List Val) (n : Nat), M84.isVs n l = true → dps l ≤ n ∧ ∀ m, dps l ≤ m → M84.isVs m l = true
  | [], n, _ => ⟨Nat.zero_le _, fun _ _ => rfl⟩
  | v :: l, n, h => by
    obtain ⟨h1, h2⟩ := isV_dp v n (Bool.and_eq_true_iff.mp h).1
    obtain ⟨h3, h4⟩ := isVs_dp l n (Bool.and_eq_true_iff.mp h).2
    refine ⟨by simp only [dps]; omega, fun m hm => ?_⟩
    simp only [dps] at hm
    exact Bool.and_eq_true_iff.mpr ⟨h2 m (by omega), h4 m (by omega)⟩
end
def wr : Nat → Val → Val
  | 0, v => v
  | k + 1, v => .tup [wr k v]
theorem wr_isV : ∀ (k n : Nat) (v : Val), M84.isV (n + k) (wr k v) = M84.isV n v
  | 0, n, v => rfl
  | k + 1, n, v => by
    show (M84.isV (n + k) (wr k v) && true) = _
    rw [Bool.and_true, wr_isV k n v]
theorem wr_len : ∀ (k : Nat) (v : Val), (M84.txt (wr k v)).length = (M84.txt v).length + 2 * k
  | 0, v => rfl
  | k + 1, v => by
    have := wr_len k v
    simp only [wr, M84.txt, M84.txts, M84.tail, List.length_cons, List.length_append, List.length_nil]
    omega
theorem wr_sz : ∀ (k : Nat) (v : Val), sz (wr k v) = sz v + k
  | 0, v => rfl
  | k + 1, v => by
    have := wr_sz k v
    simp only [wr, sz, szs]
    omega
theorem wr_bad : ∀ (k m : Nat) (v : Val), (∀ n, M84.isV n v = false) → M84.isV m (wr k v) = false
  | 0, m, v, h => h m
  | k + 1, 0, v, h => rfl
  | k + 1, m + 1, v, h => by
    show (M84.isV m (wr k v) && true) = false
    rw [Bool.and_true]
    exact wr_bad k m v h
mutual
theorem sz_txt : ∀ (v : Val) (n : Nat), M84.isV n v = true → sz v ≤ (M84.txt v).length
  | .non, n, _ => Nat.le_refl _
  | .bl b, n, h => by cases n <;> cases h
  | .int z, n, h => by
    obtain ⟨c, t, e, _⟩ := M84.hd_txt h
    rw [e, List.length_cons]
    simp only [sz]
    omega
  | .str l, n, h => by
    simp only [sz, M84.txt, List.length_cons, List.length_append, List.length_nil]
    omega
  | .lst, n, h => by cases n <;> cases h
  | .tup l, 0, h => by cases h
  | .tup l, n + 1, h => by
    have := szs_txt l n h
    simp only [sz, M84.txt, List.length_cons, List.length_append, List.length_nil]
    omega
theorem szs_txt : ∀ (l : List Val) (n : Nat), M84.isVs n l = true → szs l ≤ (M84.txts l).length ∧ szs l ≤ (M84.tail l).length
  | [], n, _ => ⟨Nat.le_refl _, Nat.le_refl _⟩
  | v :: l, n, h => by
    have h1 := sz_txt v n (Bool.and_eq_true_iff.mp h).1
    have h2 := szs_txt l n (Bool.and_eq_true_iff.mp h).2
    simp only [szs, M84.txts, M84.tail, List.length_cons, List.length_append]
    omega
end
theorem dps_max : ∀ l : List Val, ∀ y ∈ (0 : Int) :: l.map (fun v => (dp v : Int)), y ≤ (dps l : Int)
  | [], y, hy => by
    simp only [List.map_nil, List.mem_cons, List.not_mem_nil, or_false] at hy
    subst hy
    exact Int.le_refl _
  | v :: l, y, hy => by
    have ih := dps_max l
    simp only [List.map_cons, List.mem_cons] at hy
    simp only [dps]
    rcases hy with e | e | e
    · omega
    · omega
    · have := ih y (List.mem_cons_of_mem _ e)
      omega
theorem dps_mem : ∀ l : List Val, (dps l : Int) ∈ (0 : Int) :: l.map (fun v => (dp v : Int))
  | [] => List.mem_cons_self ..
  | v :: l => by
    have ih := dps_mem l
    simp only [dps, List.map_cons, List.mem_cons] at ih ⊢
    rcases Nat.le_total (dp v) (dps l) with h | h
    · rw [Nat.max_eq_right h]
      rcases ih with e | e
      · exact .inl e
      · exact .inr (.inr e)
    · rw [Nat.max_eq_left h]
      exact .inr (.inl rfl)

theorem at3 (a0 a1 a2 : Bool) : ∀ {i : Nat}, i < 3 → ∃ c : Bool, atI [V.bl a0, V.bl a1, V.bl a2] (i : Int) = some (.bl c)
  | 0, _ => ⟨a0, rfl⟩
  | 1, _ => ⟨a1, rfl⟩
  | 2, _ => ⟨a2, rfl⟩
  | i + 3, h => by omega
theorem int3 {i : Nat} {x : V} (h : [V.int 0, V.int 1, V.int 2][i]? = some x) : i < 3 ∧ x = .int (i : Int) := by
  match i, h with
  | 0, h => cases h; exact ⟨by decide, rfl⟩
  | 1, h => cases h; exact ⟨by decide, rfl⟩
  | 2, h => cases h; exact ⟨by decide, rfl⟩
  | i + 3, h => cases h

/-! ### the table -/
def mV : M84.Md → V
  | .want => .str (Str.ofString "want")
  | .first => .str (Str.ofString "first")
  | .word => .str (Str.ofString "word")
  | .minus => .str (Str.ofString "minus")
  | .done => .str (Str.ofString "done")
  | .cnt k => .int (k : Int)
def isC : M84.Md → Bool
  | .cnt _ => true
  | _ => false
theorem mV_flat (m : M84.Md) : flatV (mV m) = true := by cases m <;> rfl
theorem in_wf : ∀ m : M84.Md, inV (mV m) [.str (Str.ofString "want"), .str (Str.ofString "first")] = decide (m = .want ∨ m = .first)
  | .want => by decide +kernel
  | .first => by decide +kernel
  | .word => by decide +kernel
  | .minus => by decide +kernel
  | .done => by decide +kernel
  | .cnt k => rfl
theorem in_wfw : ∀ m : M84.Md, inV (mV m) [.str (Str.ofString "want"), .str (Str.ofString "first"), .str (Str.ofString "word")] = decide (m = .want ∨ m = .first ∨ m = .word)
  | .want => by decide +kernel
  | .first => by decide +kernel
  | .word => by decide +kernel
  | .minus => by decide +kernel
  | .done => by decide +kernel
  | .cnt k => rfl
theorem eq_word : ∀ m : M84.Md, decide (mV m = .str (Str.ofString "word")) = decide (m = .word)
  | .want => by decide +kernel
  | .first => by decide +kernel
  | .word => by decide +kernel
  | .minus => by decide +kernel
  | .done => by decide +kernel
  | .cnt k => rfl
theorem eq_first : ∀ m : M84.Md, decide (mV m = .str (Str.ofString "first")) = decide (m = .first)
  | .want => by decide +kernel
  | .first => by decide +kernel
  | .word => by decide +kernel
  | .minus => by decide +kernel
  | .done => by decide +kernel
  | .cnt k => rfl
theorem eq_minus : ∀ m : M84.Md, decide (mV m = .str (Str.ofString "minus")) = decide (m = .minus)
  | .want => by decide +kernel
  | .first => by decide +kernel
  | .word => by decide +kernel
  | .minus => by decide +kernel
  | .done => by decide +kernel
  | .cnt k => rfl
def mT : M84.Md → String
  | .cnt _ => "int"
  | _ => "str"
theorem mV_ty {K : PySem.W.Frag} {H : Hp} : ∀ m : M84.Md, TyX K H (mV m) (.type (mT m))
  | .want => .base (.str _)
  | .first => .base (.str _)
  | .word => .base (.str _)
  | .minus => .base (.str _)
  | .done => .base (.str _)
  | .cnt k => .base (.int _)
theorem mV_kit : ∀ m : M84.Md, kitB (mT m) "int" = some (isC m)
  | .want => (by decide +kernel : kitB "str" "int" = some false)
  | .first => (by decide +kernel : kitB "str" "int" = some false)
  | .word => (by decide +kernel : kitB "str" "int" = some false)
  | .minus => (by decide +kernel : kitB "str" "int" = some false)
  | .done => (by decide +kernel : kitB "str" "int" = some false)
  | .cnt k => (by decide +kernel : kitB "int" "int" = some true)
theorem wd {a b : Nat} (h : decide (W [a] = W [b]) = true) : a = b := (List.cons.inj (W_inj (of_decide_eq_true h))).1
theorem wn {a b : Nat} (h : decide (W [a] = W [b]) = false) : a ≠ b := fun e => of_decide_eq_false h (by rw [e])
theorem s19 : Str.ofString "123456789" = S [49, 50, 51, 52, 53, 54, 55, 56, 57] := by decide +kernel
def Pair (K : PySem.W.Frag) (H : Hp) (r : Option (M84.Md × Int)) (Q : VK) : Prop := (r = none → ∀ H', Same H H' → Q .non H') ∧ ∀ m d, r = some (m, d) → ∀ t H', Same H H' → SqT K H' t [mV m, .int d] → Q (.ref t) H'

theorem nxt_out {m : M84.Md} {d : Int} {c : Nat} (h1 : ¬ (m = .want ∨ m = .first)) (h2 : m ≠ .word) (h3 : ¬ (m = .minus ∧ M84.dig1 c = true)) (h4 : ¬ (isC m = true ∧ M84.dig c = true)) : M84.nxt m d c = M84.out d c := by
  cases m with
  | want => exact absurd (.inl rfl) h1
  | first => exact absurd (.inr rfl) h1
  | word => exact absurd rfl h2
  | minus => exact if_neg fun z => h3 ⟨rfl, z⟩
  | done => rfl
  | cnt k => exact if_neg fun z => h4 ⟨rfl, z⟩

/-! ### cut and joined texts, as readings -/
section
variable {K : PySem.W.Frag} {H : Hp} {Q : VK} {l a b : List Nat} {k n c : Nat}
theorem litC {v : V} {σ : L2.St} {H : Hp} {Q : VK} (h : Q v H) : tC v σ H Q := h
theorem slTo (hl : l.length ≤ 1000000) (q : Q (W (l.take k)) H) : rSlU K (W l) none (some (k : Int)) H Q := .inl ⟨S l, rfl, S_small (n := 0) hl, by rw [S_to]; exact q⟩
theorem slFrom (hl : l.length ≤ 1000000) (q : Q (W (l.drop k)) H) : rSlU K (W l) (some (k : Int)) none H Q := .inl ⟨S l, rfl, S_small (n := 0) hl, by rw [S_from]; exact q⟩
theorem slFrom1 (hl : l.length ≤ 1000000) (q : Q (W (l.drop (k + 1))) H) : rSlU K (W l) (some ((k : Int) + 1)) none H Q := slFrom (k := k + 1) hl q
theorem addW (h : a.length + b.length ≤ 1000000) (q : Q (W (a ++ b)) H) : rAddU K (W a) (W b) H Q := .inr (.inl ⟨S a, S b, rfl, rfl, by rw [S_len, S_len]; exact small1m h, by rw [S_app]; exact q⟩)
theorem rep1 (n c : Nat) : (List.replicate n [c]).flatten = List.replicate n c := by
  induction n with
  | zero => rfl
  | succ n ih =>
    rw [List.replicate_succ, List.flatten_cons, ih, List.replicate_succ]
    rfl
theorem mulW (h : n ≤ 1000) (q : Q (W (List.replicate n c)) H) : rMulU (W [c]) (.int (n : Int)) H Q := .inr (.inl ⟨S [c], n, rfl, rfl, by rw [S_len]; show 1 * n ≤ _; omega, by omega, by rw [S_mul, rep1]; exact q⟩)
theorem ixW (hl : l.length ≤ 1000000) (hk : k < l.length) (q : Q (W [l.getD k 0]) H) : rIx K (W l) (.int (k : Int)) H Q := .inr (.inr ⟨S l, k, l.getD k 0, rfl, rfl, S_small (n := 0) hl, S_at hk, q⟩)
end
theorem sPar : Str.ofString "()\"- 0123456789" = S [40, 41, 34, 45, 32, 48, 49, 50, 51, 52, 53, 54, 55, 56, 57] := by decide +kernel
theorem sNl : Str.ofString "\n" = S [10] := by decide +kernel

theorem txt_inj {a b : Val} (ha : M84.isV 40 a = true) (hb : M84.isV 40 b = true) (e : M84.txt a = M84.txt b) : a = b := by
  have h1 := M84.read_txt ha
  have h2 := M84.read_txt hb
  rw [e, h2] at h1
  cases h1
  rfl
theorem ne_dec {a b : List Nat} (h : a = b) : (!decide (W a = W b)) = false := by rw [h, decide_eq_true rfl]; rfl
theorem lst_keep {b p a : Addr} {H H' : Hp} {xs : List V} (hD : Deal H b p) (d : SameD b p H H') (n1 : a ≠ b) (n2 : a ≠ p) (h : H a = some (.lst xs)) : H' a = some (.lst xs) := d a _ n1 n2 h
theorem bad_tup {v : Val} (h : ∀ n, M84.isV n v = false) : ∀ n, M84.isV n (.tup [.non, v, .int 5]) = false
  | 0 => rfl
  | n + 1 => by
    show (M84.isV n .non && (M84.isV n v && _)) = false
    rw [h n, Bool.false_and, Bool.and_false]
theorem sA : Str.ofString "a" = S [97] := by decide +kernel
theorem sAnB : Str.ofString "a\nb" = S [97, 10, 98] := by decide +kernel
theorem sAqB : Str.ofString "a\"b" = S [97, 34, 98] := by decide +kernel
theorem sTab : Str.ofString "\t" = S [9] := by decide +kernel

/-! ### the text -/
def topS (i : Nat) : Stmt := PySem.Challenge.pw_beadasks_k84_values_written_and_read.main.body.getD i (.Pass ⟨0, 0, 0, 0⟩)
abbrev s_is_integer : Stmt := topS 5
abbrev s_is_text : Stmt := topS 6
abbrev s_is_word_sign : Stmt := topS 13
abbrev s_is_value : Stmt := topS 14
abbrev s_written : Stmt := topS 15
abbrev s_value_text : Stmt := topS 16
abbrev s_ValueReader_init : Stmt := inClass (topS 17) 0
abbrev s_ValueReader_next_sign : Stmt := inClass (topS 17) 1
abbrev s_ValueReader_is_at : Stmt := inClass (topS 17) 2
abbrev s_ValueReader_need : Stmt := inClass (topS 17) 3
abbrev s_ValueReader_value : Stmt := inClass (topS 17) 4
abbrev s_ValueReader_word : Stmt := inClass (topS 17) 5
abbrev s_ValueReader_number : Stmt := inClass (topS 17) 6
abbrev s_ValueReader_parts : Stmt := inClass (topS 17) 7
abbrev s_read_value : Stmt := topS 18
abbrev s_law_dealt : Stmt := topS 20
abbrev s_law_any : Stmt := topS 21
abbrev s_law_of : Stmt := topS 22
abbrev s_law_signs : Stmt := topS 23
abbrev s_law_number : Stmt := topS 24
abbrev s_law_word : Stmt := topS 25
abbrev s_law_thing : Stmt := topS 26
abbrev s_law_within : Stmt := topS 27
abbrev s_law_deep : Stmt := topS 28
abbrev s_law_written : Stmt := topS 29
abbrev s_law_same : Stmt := topS 30
abbrev s_law_begun : Stmt := topS 31
abbrev s_law_next : Stmt := topS 32
abbrev s_law_stop : Stmt := topS 33
abbrev s_law_bent : Stmt := topS 34
abbrev s_law_refused : Stmt := topS 35
abbrev s_law_not_written : Stmt := topS 36
abbrev s_law : Stmt := topS 37
abbrev N_is_integer : List Str := ["value"]
theorem sc_is_integer : FnScope N_is_integer ["value"] (defScope s_is_integer) := ⟨rfl, rfl, rfl, by decide +kernel, rfl, by decide +kernel, by decide +kernel⟩
theorem b_is_integer : By "is_integer" "is_integer" s_is_integer ["value"] := fun _ _ _ _ _ _ us hl => match us, hl with | [_], _ => rfl
abbrev N_is_text : List Str := ["value"]
theorem sc_is_text : FnScope N_is_text ["value"] (defScope s_is_text) := ⟨rfl, rfl, rfl, by decide +kernel, rfl, by decide +kernel, by decide +kernel⟩
theorem b_is_text : By "is_text" "is_text" s_is_text ["value"] := fun _ _ _ _ _ _ us hl => match us, hl with | [_], _ => rfl
abbrev N_is_word_sign : List Str := ["sign"]
theorem sc_is_word_sign : FnScope N_is_word_sign ["sign"] (defScope s_is_word_sign) := ⟨rfl, rfl, rfl, by decide +kernel, rfl, by decide +kernel, by decide +kernel⟩
theorem b_is_word_sign : By "is_word_sign" "is_word_sign" s_is_word_sign ["sign"] := fun _ _ _ _ _ _ us hl => match us, hl with | [_], _ => rfl
abbrev N_is_value : List Str := ["value", "deep", "sign", "part"]
theorem sc_is_value : FnScope N_is_value ["value", "deep"] (defScope s_is_value) := ⟨rfl, rfl, rfl, by decide +kernel, rfl, by decide +kernel, by decide +kernel⟩
abbrev N_written : List Str := ["value", "part"]
theorem sc_written : FnScope N_written ["value"] (defScope s_written) := ⟨rfl, rfl, rfl, by decide +kernel, rfl, by decide +kernel, by decide +kernel⟩
theorem b_written : By "written" "written" s_written ["value"] := fun _ _ _ _ _ _ us hl => match us, hl with | [_], _ => rfl
abbrev N_value_text : List Str := ["value"]
theorem sc_value_text : FnScope N_value_text ["value"] (defScope s_value_text) := ⟨rfl, rfl, rfl, by decide +kernel, rfl, by decide +kernel, by decide +kernel⟩
theorem b_value_text : By "value_text" "value_text" s_value_text ["value"] := fun _ _ _ _ _ _ us hl => match us, hl with | [_], _ => rfl
abbrev N_ValueReader_init : List Str := ["self", "text"]
theorem sc_ValueReader_init : FnScope N_ValueReader_init ["self", "text"] (defScope s_ValueReader_init) := ⟨rfl, rfl, rfl, by decide +kernel, rfl, by decide +kernel, by decide +kernel⟩
theorem b_ValueReader_init : By "__init__" "ValueReader.__init__" s_ValueReader_init ["self", "text"] := fun _ _ _ _ _ _ us hl => match us, hl with | [_, _], _ => rfl
abbrev N_ValueReader_next_sign : List Str := ["self"]
theorem sc_ValueReader_next_sign : FnScope N_ValueReader_next_sign ["self"] (defScope s_ValueReader_next_sign) := ⟨rfl, rfl, rfl, by decide +kernel, rfl, by decide +kernel, by decide +kernel⟩
theorem b_ValueReader_next_sign : By "next_sign" "ValueReader.next_sign" s_ValueReader_next_sign ["self"] := fun _ _ _ _ _ _ us hl => match us, hl with | [_], _ => rfl
abbrev N_ValueReader_is_at : List Str := ["self", "signs"]
theorem sc_ValueReader_is_at : FnScope N_ValueReader_is_at ["self", "signs"] (defScope s_ValueReader_is_at) := ⟨rfl, rfl, rfl, by decide +kernel, rfl, by decide +kernel, by decide +kernel⟩
theorem b_ValueReader_is_at : By "is_at" "ValueReader.is_at" s_ValueReader_is_at ["self", "signs"] := fun _ _ _ _ _ _ us hl => match us, hl with | [_, _], _ => rfl
abbrev N_ValueReader_need : List Str := ["self", "sign"]
theorem sc_ValueReader_need : FnScope N_ValueReader_need ["self", "sign"] (defScope s_ValueReader_need) := ⟨rfl, rfl, rfl, by decide +kernel, rfl, by decide +kernel, by decide +kernel⟩
theorem b_ValueReader_need : By "need" "ValueReader.need" s_ValueReader_need ["self", "sign"] := fun _ _ _ _ _ _ us hl => match us, hl with | [_, _], _ => rfl
abbrev N_ValueReader_value : List Str := ["self", "deep"]
theorem sc_ValueReader_value : FnScope N_ValueReader_value ["self", "deep"] (defScope s_ValueReader_value) := ⟨rfl, rfl, rfl, by decide +kernel, rfl, by decide +kernel, by decide +kernel⟩
theorem b_ValueReader_value : By "value" "ValueReader.value" s_ValueReader_value ["self", "deep"] := fun _ _ _ _ _ _ us hl => match us, hl with | [_, _], _ => rfl
abbrev N_ValueReader_word : List Str := ["self", "start"]
theorem sc_ValueReader_word : FnScope N_ValueReader_word ["self"] (defScope s_ValueReader_word) := ⟨rfl, rfl, rfl, by decide +kernel, rfl, by decide +kernel, by decide +kernel⟩
theorem b_ValueReader_word : By "word" "ValueReader.word" s_ValueReader_word ["self"] := fun _ _ _ _ _ _ us hl => match us, hl with | [_], _ => rfl
abbrev N_ValueReader_number : List Str := ["self", "start", "first"]
theorem sc_ValueReader_number : FnScope N_ValueReader_number ["self"] (defScope s_ValueReader_number) := ⟨rfl, rfl, rfl, by decide +kernel, rfl, by decide +kernel, by decide +kernel⟩
theorem b_ValueReader_number : By "number" "ValueReader.number" s_ValueReader_number ["self"] := fun _ _ _ _ _ _ us hl => match us, hl with | [_], _ => rfl
abbrev N_ValueReader_parts : List Str := ["self", "deep", "found"]
theorem sc_ValueReader_parts : FnScope N_ValueReader_parts ["self", "deep"] (defScope s_ValueReader_parts) := ⟨rfl, rfl, rfl, by decide +kernel, rfl, by decide +kernel, by decide +kernel⟩
theorem b_ValueReader_parts : By "parts" "ValueReader.parts" s_ValueReader_parts ["self", "deep"] := fun _ _ _ _ _ _ us hl => match us, hl with | [_, _], _ => rfl
abbrev N_read_value : List Str := ["text", "reader", "value"]
theorem sc_read_value : FnScope N_read_value ["text"] (defScope s_read_value) := ⟨rfl, rfl, rfl, by decide +kernel, rfl, by decide +kernel, by decide +kernel⟩
theorem b_read_value : By "read_value" "read_value" s_read_value ["text"] := fun _ _ _ _ _ _ us hl => match us, hl with | [_], _ => rfl
abbrev N_law_dealt : List Str := ["_law_script", "_law_base", "_law_cells", "_law_cell", "_law_blend"]
theorem sc_law_dealt : FnScope N_law_dealt ["_law_script", "_law_base"] (defScope s_law_dealt) := ⟨rfl, rfl, rfl, by decide +kernel, rfl, by decide +kernel, by decide +kernel⟩
theorem b_law_dealt : By "_law_dealt" "_law_dealt" s_law_dealt ["_law_script", "_law_base"] := fun _ _ _ _ _ _ us hl => match us, hl with | [_, _], _ => rfl
abbrev N_law_any : List Str := ["_law_deal", "_law_bound", "_law_rest"]
theorem sc_law_any : FnScope N_law_any ["_law_deal", "_law_bound"] (defScope s_law_any) := ⟨rfl, rfl, rfl, by decide +kernel, rfl, by decide +kernel, by decide +kernel⟩
theorem b_law_any : By "_law_any" "_law_any" s_law_any ["_law_deal", "_law_bound"] := fun _ _ _ _ _ _ us hl => match us, hl with | [_, _], _ => rfl
abbrev N_law_of : List Str := ["_law_deal", "_law_some"]
theorem sc_law_of : FnScope N_law_of ["_law_deal", "_law_some"] (defScope s_law_of) := ⟨rfl, rfl, rfl, by decide +kernel, rfl, by decide +kernel, by decide +kernel⟩
theorem b_law_of : By "_law_of" "_law_of" s_law_of ["_law_deal", "_law_some"] := fun _ _ _ _ _ _ us hl => match us, hl with | [_, _], _ => rfl
abbrev N_law_signs : List Str := ["_law_few"]
theorem sc_law_signs : FnScope N_law_signs [] (defScope s_law_signs) := ⟨rfl, rfl, rfl, by decide +kernel, rfl, by decide +kernel, by decide +kernel⟩
theorem b_law_signs : By "_law_signs" "_law_signs" s_law_signs [] := fun _ _ _ _ _ _ us hl => match us, hl with | [], _ => rfl
abbrev N_law_number : List Str := ["_law_deal", "_law_kind"]
theorem sc_law_number : FnScope N_law_number ["_law_deal"] (defScope s_law_number) := ⟨rfl, rfl, rfl, by decide +kernel, rfl, by decide +kernel, by decide +kernel⟩
theorem b_law_number : By "_law_number" "_law_number" s_law_number ["_law_deal"] := fun _ _ _ _ _ _ us hl => match us, hl with | [_], _ => rfl
abbrev N_law_word : List Str := ["_law_deal", "_law_some", "_law_at"]
theorem sc_law_word : FnScope N_law_word ["_law_deal"] (defScope s_law_word) := ⟨rfl, rfl, rfl, by decide +kernel, rfl, by decide +kernel, by decide +kernel⟩
theorem b_law_word : By "_law_word" "_law_word" s_law_word ["_law_deal"] := fun _ _ _ _ _ _ us hl => match us, hl with | [_], _ => rfl
abbrev N_law_thing : List Str := ["_law_deal", "_law_deep_here", "_law_kind", "_law_at"]
theorem sc_law_thing : FnScope N_law_thing ["_law_deal", "_law_deep_here"] (defScope s_law_thing) := ⟨rfl, rfl, rfl, by decide +kernel, rfl, by decide +kernel, by decide +kernel⟩
theorem b_law_thing : By "_law_thing" "_law_thing" s_law_thing ["_law_deal", "_law_deep_here"] := fun _ _ _ _ _ _ us hl => match us, hl with | [_, _], _ => rfl
abbrev N_law_within : List Str := ["_law_value", "_law_times", "_law_turn"]
theorem sc_law_within : FnScope N_law_within ["_law_value", "_law_times"] (defScope s_law_within) := ⟨rfl, rfl, rfl, by decide +kernel, rfl, by decide +kernel, by decide +kernel⟩
theorem b_law_within : By "_law_within" "_law_within" s_law_within ["_law_value", "_law_times"] := fun _ _ _ _ _ _ us hl => match us, hl with | [_, _], _ => rfl
abbrev N_law_deep : List Str := ["_law_value", "_law_part"]
theorem sc_law_deep : FnScope N_law_deep ["_law_value"] (defScope s_law_deep) := ⟨rfl, rfl, rfl, by decide +kernel, rfl, by decide +kernel, by decide +kernel⟩
theorem b_law_deep : By "_law_deep" "_law_deep" s_law_deep ["_law_value"] := fun _ _ _ _ _ _ us hl => match us, hl with | [_], _ => rfl
abbrev N_law_written : List Str := ["_law_value", "_law_part"]
theorem sc_law_written : FnScope N_law_written ["_law_value"] (defScope s_law_written) := ⟨rfl, rfl, rfl, by decide +kernel, rfl, by decide +kernel, by decide +kernel⟩
theorem b_law_written : By "_law_written" "_law_written" s_law_written ["_law_value"] := fun _ _ _ _ _ _ us hl => match us, hl with | [_], _ => rfl
abbrev N_law_same : List Str := ["_law_one", "_law_other", "_law_kind", "_law_here", "_law_there", "_law_at"]
theorem sc_law_same : FnScope N_law_same ["_law_one", "_law_other"] (defScope s_law_same) := ⟨rfl, rfl, rfl, by decide +kernel, rfl, by decide +kernel, by decide +kernel⟩
theorem b_law_same : By "_law_same" "_law_same" s_law_same ["_law_one", "_law_other"] := fun _ _ _ _ _ _ us hl => match us, hl with | [_, _], _ => rfl
abbrev N_law_begun : List Str := ["_law_mode", "_law_deep_here", "_law_sign"]
theorem sc_law_begun : FnScope N_law_begun ["_law_mode", "_law_deep_here", "_law_sign"] (defScope s_law_begun) := ⟨rfl, rfl, rfl, by decide +kernel, rfl, by decide +kernel, by decide +kernel⟩
theorem b_law_begun : By "_law_begun" "_law_begun" s_law_begun ["_law_mode", "_law_deep_here", "_law_sign"] := fun _ _ _ _ _ _ us hl => match us, hl with | [_, _, _], _ => rfl
abbrev N_law_next : List Str := ["_law_mode", "_law_deep_here", "_law_sign"]
theorem sc_law_next : FnScope N_law_next ["_law_mode", "_law_deep_here", "_law_sign"] (defScope s_law_next) := ⟨rfl, rfl, rfl, by decide +kernel, rfl, by decide +kernel, by decide +kernel⟩
theorem b_law_next : By "_law_next" "_law_next" s_law_next ["_law_mode", "_law_deep_here", "_law_sign"] := fun _ _ _ _ _ _ us hl => match us, hl with | [_, _, _], _ => rfl
abbrev N_law_stop : List Str := ["_law_text", "_law_mode", "_law_deep_here", "_law_at", "_law_after"]
theorem sc_law_stop : FnScope N_law_stop ["_law_text"] (defScope s_law_stop) := ⟨rfl, rfl, rfl, by decide +kernel, rfl, by decide +kernel, by decide +kernel⟩
theorem b_law_stop : By "_law_stop" "_law_stop" s_law_stop ["_law_text"] := fun _ _ _ _ _ _ us hl => match us, hl with | [_], _ => rfl
abbrev N_law_bent : List Str := ["_law_deal", "_law_text", "_law_at", "_law_sign", "_law_made"]
theorem sc_law_bent : FnScope N_law_bent ["_law_deal", "_law_text"] (defScope s_law_bent) := ⟨rfl, rfl, rfl, by decide +kernel, rfl, by decide +kernel, by decide +kernel⟩
theorem b_law_bent : By "_law_bent" "_law_bent" s_law_bent ["_law_deal", "_law_text"] := fun _ _ _ _ _ _ us hl => match us, hl with | [_, _], _ => rfl
abbrev N_law_refused : List Str := ["_law_text", "_law_due", "e"]
theorem sc_law_refused : FnScope N_law_refused ["_law_text", "_law_due"] (defScope s_law_refused) := ⟨rfl, rfl, rfl, by decide +kernel, rfl, by decide +kernel, by decide +kernel⟩
theorem b_law_refused : By "_law_refused" "_law_refused" s_law_refused ["_law_text", "_law_due"] := fun _ _ _ _ _ _ us hl => match us, hl with | [_, _], _ => rfl
abbrev N_law_not_written : List Str := ["_law_thing_here", "e"]
theorem sc_law_not_written : FnScope N_law_not_written ["_law_thing_here"] (defScope s_law_not_written) := ⟨rfl, rfl, rfl, by decide +kernel, rfl, by decide +kernel, by decide +kernel⟩
theorem b_law_not_written : By "_law_not_written" "_law_not_written" s_law_not_written ["_law_thing_here"] := fun _ _ _ _ _ _ us hl => match us, hl with | [_], _ => rfl
abbrev N_law : List Str := ["_law_script", "_law_deal", "_law_turn", "_law_value", "_law_text", "_law_bend", "_law_bent_here", "_law_due", "_law_odd"]
theorem sc_law : FnScope N_law ["_law_script"] (defScope s_law) := ⟨rfl, rfl, rfl, by decide +kernel, rfl, by decide +kernel, by decide +kernel⟩
theorem b_law : By "law" "law" s_law ["_law_script"] := fun _ _ _ _ _ _ us hl => match us, hl with | [_], _ => rfl
abbrev s_BadText_init : Stmt := inClass (topS 2) 0
theorem eb_BadText : BBX.ErrBody "at" (defArgs s_BadText_init) (defBody s_BadText_init) (defScope s_BadText_init) where
  self := ⟨_, rfl, rfl⟩
  bind := fun _ _ _ _ _ _ _ _ _ _ _ => rfl
  body := ⟨_, _, _, _, _, _, _, _, _, _, _, _, _, rfl, fun _ => rfl, fun _ => rfl, fun _ => rfl⟩
  kind := rfl
  co := rfl
  gen := rfl
  cells := by decide +kernel
  nself := rfl
  nf := rfl
  nsup := rfl
  ncls := rfl
  fs := by decide
  fd := by decide

/-! ### the promises -/
def sp_is_integer (K : PySem.W.Frag) : Sp := fun vs H Q _ => ∃ (x : V) (v : Val), vs = [x] ∧ IsV K H x v ∧ Q (.bl (isI v)) H
def sp_is_text (K : PySem.W.Frag) : Sp := fun vs H Q _ => ∃ (x : V) (v : Val), vs = [x] ∧ IsV K H x v ∧ Q (.bl (isS v)) H
def sp_is_word_sign : Sp := fun vs H Q _ => ∃ c : Nat, vs = [W [c]] ∧ Q (.bl (M84.wsg c)) H
def sp_is_value (K : PySem.W.Frag) (n : Nat) : Sp := fun vs H Q _ => ∃ (x : V) (v : Val) (d : Nat), vs = [x, .int (d : Int)] ∧ IsV K H x v ∧ d ≤ 40 ∧ 41 ≤ d + n ∧ sz v ≤ 500000 ∧ ∀ H', Same H H' → Q (.bl (M84.isV (40 - d) v)) H'
def sp_written (K : PySem.W.Frag) (n : Nat) : Sp := fun vs H Q _ => ∃ (x : V) (v : Val), vs = [x] ∧ IsV K H x v ∧ (∃ m, m < n ∧ M84.isV m v = true) ∧ (M84.txt v).length ≤ 500000 ∧ ∀ H', Same H H' → Q (W (M84.txt v)) H'
def sp_value_text (K : PySem.W.Frag) (B : Addr) : Sp := fun vs H Q E => ∃ (x : V) (v : Val), vs = [x] ∧ IsV K H x v ∧ sz v ≤ 500000 ∧ (M84.isV 40 v = true → (M84.txt v).length ≤ 500000 ∧ ∀ H', Same H H' → Q (W (M84.txt v)) H') ∧ (M84.isV 40 v = false → Thr B Same H (-1) E)
def sp_ValueReader_init (C : Addr) : Sp := fun vs H Q _ => ∃ (rd dx : Addr) (l : List Nat), vs = [.ref rd, W l] ∧ H rd = some (.ins C dx []) ∧ l.length ≤ 500000 ∧ ∀ H', SameB rd H H' → RD C H' rd l l → Q .non H'
def sp_ValueReader_next_sign (C : Addr) : Sp := fun vs H Q _ => ∃ (rd : Addr) (l s : List Nat), vs = [.ref rd] ∧ RD C H rd l s ∧ Q (W (s.take 1)) H
def sp_ValueReader_is_at (C : Addr) : Sp := fun vs H Q _ => ∃ (rd : Addr) (l s g : List Nat), vs = [.ref rd, W g] ∧ RD C H rd l s ∧ Q (.bl (at1 s g)) H
def sp_ValueReader_need (B C : Addr) : Sp := fun vs H Q E => ∃ (rd : Addr) (l s : List Nat) (c : Nat), vs = [.ref rd, W [c]] ∧ RD C H rd l s ∧ (∀ t, s = c :: t → ∀ H', SameB rd H H' → RD C H' rd l t → Q .non H') ∧ ((∀ t, s ≠ c :: t) → Thr B (SameB rd) H ((l.length - s.length : Nat) : Int) E)
def sp_ValueReader_word (K : PySem.W.Frag) (B C : Addr) : Sp := fun vs H Q E => ∃ (rd : Addr) (l s : List Nat), vs = [.ref rd] ∧ RD C H rd l (34 :: s) ∧ Aft K B C H rd l (M84.pWord s) Q E
def sp_ValueReader_number (K : PySem.W.Frag) (B C : Addr) : Sp := fun vs H Q E => ∃ (rd : Addr) (l : List Nat) (c : Nat) (s : List Nat), vs = [.ref rd] ∧ RD C H rd l (c :: s) ∧ (c = 45 ∨ M84.dig c = true) ∧ Aft K B C H rd l (M84.pNum (c :: s)) Q E
def sp_ValueReader_value (K : PySem.W.Frag) (B C : Addr) (n : Nat) : Sp := fun vs H Q E => ∃ (rd : Addr) (l s : List Nat) (d : Nat), vs = [.ref rd, .int (d : Int)] ∧ RD C H rd l s ∧ d ≤ 40 ∧ 41 ≤ d + n ∧ Aft K B C H rd l (M84.pv (40 - d) s) Q E
def sp_ValueReader_parts (K : PySem.W.Frag) (B C : Addr) (n : Nat) : Sp := fun vs H Q E => ∃ (rd : Addr) (l s : List Nat) (d : Nat), vs = [.ref rd, .int (d : Int)] ∧ RD C H rd l (40 :: s) ∧ d < 40 ∧ 40 ≤ d + n ∧ Aft K B C H rd l (M84.parts (M84.pv (39 - d)) s) Q E
def sp_read_value (K : PySem.W.Frag) (B : Addr) : Sp := fun vs H Q E => ∃ (x : V) (v : Val), vs = [x] ∧ IsV K H x v ∧ (isS v = false → Thr B Same H (-1) E) ∧ (∀ l, v = .str l → l.length ≤ 500000 ∧
  (M84.stp .want 0 l = none → ∀ v', l = M84.txt v' → M84.isV 40 v' = true → ∀ x' H', Same H H' → IsV K H' x' v' → Q x' H') ∧ (∀ s, M84.stp .want 0 l = some s → Thr B Same H ((l.length - s.length : Nat) : Int) E))

def sp_law_dealt (K : PySem.W.Frag) : Sp := fun vs H Q _ => ∃ (s : Addr) (ns : List Int), vs = [.ref s, .int 84] ∧ SqL K H s (ns.map V.int) ∧ ∀ (H' : Hp) (b p : Addr), Same H H' → H b = none → H p = none → Deal H' b p → Q (.ref b) H'
def sp_law_any : Sp := fun vs H Q _ => ∃ (b p : Addr) (m : Int), vs = [.ref b, .int m] ∧ 0 < m ∧ m < 2 ^ 62 ∧ Deal H b p ∧ ∀ (H' : Hp) (r : Int), DrD b p H H' → 0 ≤ r → r < m → Q (.int r) H'
def sp_law_signs : Sp := fun vs H Q _ => vs = [] ∧ Q (W SIGNS) H
def sp_law_number : Sp := fun vs H Q _ => ∃ (b p : Addr), vs = [.ref b] ∧ Deal H b p ∧ ∀ (H' : Hp) (z : Int), DrD b p H H' → z.natAbs < 10 ^ 100 → Q (.int z) H'
def sp_law_word : Sp := fun vs H Q _ => ∃ (b p : Addr), vs = [.ref b] ∧ Deal H b p ∧ ∀ (H' : Hp) (l : List Nat), DrD b p H H' → (∀ c ∈ l, M84.wsg c = true) → l.length ≤ 9 → Q (W l) H'
def sp_law_thing (K : PySem.W.Frag) (n : Nat) : Sp := fun vs H Q _ => ∃ (b p : Addr) (k : Nat), vs = [.ref b, .int (k : Int)] ∧ k < n ∧ Deal H b p ∧ ∀ (H' : Hp) (x : V) (v : Val), DrD b p H H' → IsV K H' x v → TV k v → Q x H'
def sp_law_within (K : PySem.W.Frag) : Sp := fun vs H Q _ => ∃ (x : V) (v : Val) (k : Nat), vs = [x, .int (k : Int)] ∧ IsV K H x v ∧ k ≤ 100 ∧ ∀ (H' : Hp) (x' : V), Same H H' → IsV K H' x' (wr k v) → Q x' H'
def sp_law_deep (K : PySem.W.Frag) (n : Nat) : Sp := fun vs H Q _ => ∃ (x : V) (v : Val), vs = [x] ∧ IsV K H x v ∧ (∃ m, m < n ∧ M84.isV m v = true) ∧ sz v ≤ 500000 ∧ ∀ H', Same H H' → Q (.int (dp v : Int)) H'
def sp_law_written (K : PySem.W.Frag) (n : Nat) : Sp := fun vs H Q _ => ∃ (x : V) (v : Val), vs = [x] ∧ IsV K H x v ∧ (∃ m, m < n ∧ M84.isV m v = true) ∧ (M84.txt v).length ≤ 500000 ∧ ∀ H', Same H H' → Q (W (M84.txt v)) H'
def sp_law_same (K : PySem.W.Frag) (n : Nat) : Sp := fun vs H Q _ => ∃ (x y : V) (v : Val), vs = [x, y] ∧ IsV K H x v ∧ IsV K H y v ∧ (∃ m, m < n ∧ M84.isV m v = true) ∧ sz v ≤ 500000 ∧ ∀ H', Same H H' → Q (.bl true) H'
def sp_law_begun (K : PySem.W.Frag) : Sp := fun vs H Q _ => ∃ (m : M84.Md) (d : Int) (c : Nat), vs = [mV m, .int d, W [c]] ∧ Pair K H (M84.begun m d c) Q
def sp_law_next (K : PySem.W.Frag) : Sp := fun vs H Q _ => ∃ (m : M84.Md) (d : Int) (c : Nat), vs = [mV m, .int d, W [c]] ∧ Pair K H (M84.nxt m d c) Q
def sp_law_stop : Sp := fun vs H Q _ => ∃ l : List Nat, vs = [W l] ∧ l.length ≤ 500000 ∧ (M84.stp .want 0 l = none → ∀ H', Same H H' → Q .non H') ∧ ∀ s, M84.stp .want 0 l = some s → ∀ H', Same H H' → Q (.int ((l.length - s.length : Nat) : Int)) H'
def sp_law_bent : Sp := fun vs H Q _ => ∃ (b p : Addr) (l : List Nat), vs = [.ref b, W l] ∧ 0 < l.length ∧ l.length ≤ 10000 ∧ Deal H b p ∧ ∀ (H' : Hp) (l' : List Nat), DrD b p H H' → l'.length ≤ 30000 → Q (W l') H'
def sp_law_refused (K : PySem.W.Frag) : Sp := fun vs H Q _ => ∃ (x : V) (v : Val) (k : Int), vs = [x, .int k] ∧ IsV K H x v ∧ ((isS v = false ∧ k = -1) ∨ ∃ l s, v = .str l ∧ l.length ≤ 500000 ∧ M84.stp .want 0 l = some s ∧ k = ((l.length - s.length : Nat) : Int)) ∧ ∀ H', Same H H' → Q (.bl true) H'
def sp_law_not_written (K : PySem.W.Frag) : Sp := fun vs H Q _ => ∃ (x : V) (v : Val), vs = [x] ∧ IsV K H x v ∧ sz v ≤ 500000 ∧ M84.isV 40 v = false ∧ ∀ H', Same H H' → Q (.bl true) H'
def sp_law (K : PySem.W.Frag) : Sp := fun vs H Q _ => ∃ (s : Addr) (ns : List Int), vs = [.ref s] ∧ SqL K H s (ns.map V.int) ∧ ∀ H', Q (.bl true) H'
def sp_law_of (K : PySem.W.Frag) : Sp := fun vs H Q _ => ∃ (b p : Addr) (y : V), vs = [.ref b, y] ∧ Deal H b p ∧ ((∃ (l : Addr) (xs : List V), y = .ref l ∧ l ≠ b ∧ l ≠ p ∧ SqL K H l xs ∧ 0 < xs.length ∧ xs.length ≤ 1000 ∧ ∀ (H' : Hp) (x : V), DrD b p H H' → x ∈ xs → Q x H') ∨
  (∃ l : List Nat, y = W l ∧ 0 < l.length ∧ l.length ≤ 1000 ∧ ∀ (H' : Hp) (c : Nat), DrD b p H H' → c ∈ l → Q (W [c]) H'))

structure Txt (P : Program) (K : PySem.W.Frag) (mg : Str → Option Value) (a_BeadError a_BadText a_Refused a_ValueReader : Addr) : Prop where
  n_isinstance : mg "isinstance" = none
  n_bool : mg "bool" = none
  n_int : mg "int" = none
  n_str : mg "str" = none
  n_abs : mg "abs" = none
  n_all : mg "all" = none
  n_tuple : mg "tuple" = none
  n_len : mg "len" = none
  n_range : mg "range" = none
  n_max : mg "max" = none
  g_QUOTE : ∃ u, mg "QUOTE" = some u ∧ RelV (W [34]) u
  g_BOUND : ∃ u, mg "BOUND" = some u ∧ RelV (.int (10 ^ 100)) u
  g_MOST_DEEP : ∃ u, mg "MOST_DEEP" = some u ∧ RelV (.int 40) u
  g_NUMERALS : ∃ u, mg "NUMERALS" = some u ∧ RelV (W [48, 49, 50, 51, 52, 53, 54, 55, 56, 57]) u
  g_MOST_NUMERALS : ∃ u, mg "MOST_NUMERALS" = some u ∧ RelV (.int 100) u
  k_BeadError : mg "BeadError" = some (.ref a_BeadError)
  k_BadText : mg "BadText" = some (.ref a_BadText)
  e_BadText : BBX.ErrC P K a_BeadError a_BadText "at"
  x_BadText : XfC K a_BadText
  nx_BadText_at : PySem.W.findIn K (.ref a_BadText) "at" = some none
  m_BadText : PySem.W.exmOne K (.ref a_BadText) (.ref a_BadText) = some true
  i_BadText : ExcC K a_BadText
  k_Refused : mg "Refused" = some (.ref a_Refused)
  k_ValueReader : mg "ValueReader" = some (.ref a_ValueReader)
  cl_ValueReader : Cls K a_ValueReader
  na_ValueReader_at : NoAttr K a_ValueReader "at"
  na_ValueReader_text : NoAttr K a_ValueReader "text"
  ki_BadText_BeadError : PySem.W.kitOne K (.ref a_BadText) (.ref a_BeadError) = some true
  ki_BadText_Refused : PySem.W.kitOne K (.ref a_BadText) (.ref a_Refused) = some false
  d_is_integer : Dy K mg "is_integer" s_is_integer []
  d_is_text : Dy K mg "is_text" s_is_text []
  d_is_word_sign : Dy K mg "is_word_sign" s_is_word_sign []
  d_is_value : Dy K mg "is_value" s_is_value [.int 0]
  d_written : Dy K mg "written" s_written []
  d_value_text : Dy K mg "value_text" s_value_text []
  d_ValueReader_init : Di K a_ValueReader "ValueReader.__init__" s_ValueReader_init []
  d_ValueReader_next_sign : Dm K a_ValueReader "next_sign" "ValueReader.next_sign" s_ValueReader_next_sign []
  d_ValueReader_is_at : Dm K a_ValueReader "is_at" "ValueReader.is_at" s_ValueReader_is_at []
  d_ValueReader_need : Dm K a_ValueReader "need" "ValueReader.need" s_ValueReader_need []
  d_ValueReader_value : Dm K a_ValueReader "value" "ValueReader.value" s_ValueReader_value []
  d_ValueReader_word : Dm K a_ValueReader "word" "ValueReader.word" s_ValueReader_word []
  d_ValueReader_number : Dm K a_ValueReader "number" "ValueReader.number" s_ValueReader_number []
  d_ValueReader_parts : Dm K a_ValueReader "parts" "ValueReader.parts" s_ValueReader_parts []
  d_read_value : Dy K mg "read_value" s_read_value []
  d_law_dealt : Dy K mg "_law_dealt" s_law_dealt []
  d_law_any : Dy K mg "_law_any" s_law_any []
  d_law_of : Dy K mg "_law_of" s_law_of []
  d_law_signs : Dy K mg "_law_signs" s_law_signs []
  d_law_number : Dy K mg "_law_number" s_law_number []
  d_law_word : Dy K mg "_law_word" s_law_word []
  d_law_thing : Dy K mg "_law_thing" s_law_thing []
  d_law_within : Dy K mg "_law_within" s_law_within []
  d_law_deep : Dy K mg "_law_deep" s_law_deep []
  d_law_written : Dy K mg "_law_written" s_law_written []
  d_law_same : Dy K mg "_law_same" s_law_same []
  d_law_begun : Dy K mg "_law_begun" s_law_begun []
  d_law_next : Dy K mg "_law_next" s_law_next []
  d_law_stop : Dy K mg "_law_stop" s_law_stop []
  d_law_bent : Dy K mg "_law_bent" s_law_bent []
  d_law_refused : Dy K mg "_law_refused" s_law_refused []
  d_law_not_written : Dy K mg "_law_not_written" s_law_not_written []
  d_law : Dy K mg "law" s_law []
end K84

namespace K84
open PySem PySem.Spec PyProof.Rows L2 BB
section
variable {P : Program} {w : World} {K : PySem.W.Frag} {mg : Str → Option Value} {base : Heap} {a_BeadError a_BadText a_Refused a_ValueReader : Addr}
theorem ok_is_integer (T : Txt P K mg a_BeadError a_BadText a_Refused a_ValueReader) : Cy P w K mg base 1 "is_integer" s_is_integer [] ["value"] (sp_is_integer K) := by
  have nd := sc_is_integer.nd
  refine Cy.mk' T.d_is_integer sc_is_integer (fun vs H Q E h => ?_) (fun f cdv A outer s H vs Q E hr tk po h => ?_)
  · obtain ⟨_, _, rfl, _⟩ := h
    rfl
  · obtain ⟨x, v, rfl, hv, q⟩ := h
    refine ⟨_, (pss_one (ps_ret (pe_and (pe_callB (r := rIsi K) call_isi (by rfl) T.n_isinstance (by decide +kernel) (pa_cons (pv 0) (pa_cons (pe_bltn (v := .ty "int") (by rfl) T.n_int (by decide +kernel) rfl) pa_nil))) (pe_one (pe_not (pe_callB (r := rIsi K) call_isi (by rfl) T.n_isinstance (by decide +kernel) (pa_cons (pv 0) (pa_cons (pe_bltn (v := .ty "bool") (by rfl) T.n_bool (by decide +kernel) rfl) pa_nil)))))))), ?_⟩
    refine ⟨x, rfl, x, .ty "int", _, .type "int", _, rfl, .ty _, tyX hv, kit_ty (kInt v), _, rfl, ite_b (fun hc => ⟨x, rfl, x, .ty "bool", _, .type "bool", _, rfl, .ty _, tyX hv, kit_ty (kBool v), _, rfl, ?_⟩) (fun hc => ?_)⟩
    · cases v <;> first | exact q | cases hc
    · cases v <;> first | exact q | cases hc

theorem ok_is_text (T : Txt P K mg a_BeadError a_BadText a_Refused a_ValueReader) : Cy P w K mg base 1 "is_text" s_is_text [] ["value"] (sp_is_text K) := by
  have nd := sc_is_text.nd
  refine Cy.mk' T.d_is_text sc_is_text (fun vs H Q E h => ?_) (fun f cdv A outer s H vs Q E hr tk po h => ?_)
  · obtain ⟨_, _, rfl, _⟩ := h
    rfl
  · obtain ⟨x, v, rfl, hv, q⟩ := h
    refine ⟨_, (pss_one (ps_ret (pe_callB (r := rIsi K) call_isi (by rfl) T.n_isinstance (by decide +kernel) (pa_cons (pv 0) (pa_cons (pe_bltn (v := .ty "str") (by rfl) T.n_str (by decide +kernel) rfl) pa_nil))))), ?_⟩
    exact ⟨x, rfl, x, .ty "str", _, .type "str", _, rfl, .ty _, tyX hv, kit_ty (kStr v), q⟩

theorem ok_is_word_sign (T : Txt P K mg a_BeadError a_BadText a_Refused a_ValueReader) : Cy P w K mg base 1 "is_word_sign" s_is_word_sign [] ["sign"] sp_is_word_sign := by
  have nd := sc_is_word_sign.nd
  refine Cy.mk' T.d_is_word_sign sc_is_word_sign (fun vs H Q E h => ?_) (fun f cdv A outer s H vs Q E hr tk po h => ?_)
  · obtain ⟨_, rfl, _⟩ := h
    rfl
  · obtain ⟨c, rfl, q⟩ := h
    refine ⟨_, (pss_one (ps_ret (pe_and (pe_chain op_le_str op_le_str pe_str (pv 0) pe_str) (pe_one (pe_cmpR (r := rNeU K) (op_neU hr.units) (pv 0) (pe_gl T.g_QUOTE (by rfl)) (nomark _)))))), ?_⟩
    refine ⟨_, rfl, _, _, rfl, rfl, _, rfl, ?_⟩
    try dsimp only
    rw [sSp, W_le]
    refine ite_b (fun hc => ⟨_, _, rfl, rfl, ?_⟩) (fun hc => ?_)
    · try dsimp only
      rw [sTi, W_le]
      refine ⟨_, rfl, ite_b (fun hc2 => ⟨_, rfl, .inl ⟨rfl, ?_⟩⟩) (fun hc2 => ?_)⟩
      · try dsimp only
        rw [wsg_eq hc hc2]
        exact q
      · rw [wsg_no (.inr hc2)] at q
        exact q
    · rw [wsg_no (.inl hc)] at q
      exact ⟨_, rfl, iteF q⟩

theorem ok_is_value {n : Nat} (T : Txt P K mg a_BeadError a_BadText a_Refused a_ValueReader) (c_is_integer : Cy P w K mg base 1 "is_integer" s_is_integer [] ["value"] (sp_is_integer K)) (c_is_text : Cy P w K mg base 1 "is_text" s_is_text [] ["value"] (sp_is_text K)) (c_is_word_sign : Cy P w K mg base 1 "is_word_sign" s_is_word_sign [] ["sign"] sp_is_word_sign) (c_is_value : Cy P w K mg base (3 + n) "is_value" s_is_value [.int 0] ["value", "deep"] (sp_is_value K n)) : Cy P w K mg base (3 + n + 1) "is_value" s_is_value [.int 0] ["value", "deep"] (sp_is_value K (n + 1)) := by
  have nd := sc_is_value.nd
  refine Cy.mk' T.d_is_value sc_is_value (fun vs H Q E h => ?_) (fun f cdv A outer s H vs Q E hr tk po h => ?_)
  · obtain ⟨_, _, _, rfl, _⟩ := h
    rfl
  · obtain ⟨x, v, d, rfl, hv, hd, hn, hs, q⟩ := h
    refine ⟨_, (pss_cons (ps_if (pt_cmpR op_isU (pv 0) pe_non (nomark _)) (pss_one (ps_ret pe_bl)) pss_nil)
      (pss_cons (ps_if (pt_val (pe_y c_is_integer b_is_integer hr (by omega) (by rfl) takes0 (pa_cons (pv 0) pa_nil))) (pss_one (ps_ret (pe_cmpR op_lt (pe_callB call_abs (by rfl) T.n_abs (by decide +kernel) (pa_cons (pv 0) pa_nil)) (pe_gl T.g_BOUND (by rfl)) (nomark _)))) pss_nil)
      (pss_cons (ps_if (pt_val (pe_y c_is_text b_is_text hr (by omega) (by rfl) takes0 (pa_cons (pv 0) pa_nil))) (pss_one (ps_ret (pe_callB (r := rAll K) (cr_all rfl) (by rfl) T.n_all (by decide +kernel) (pa_cons (pe_lc (own := [("sign", 2)]) (g := (gName 2)) (tt := tYes) rfl nd (pi_str (pv 0)) (blkOk_by (by rfl)) (fun _ _ _ _ _ => (pg_name (i := 2) nd rfl (Or.inl rfl))) (fun _ _ _ _ _ => pts_nil) (fun _ _ _ _ _ => (pe_y c_is_word_sign b_is_word_sign hr (by omega) (by rfl) takes0 (pa_cons (pv 2) pa_nil)))) pa_nil)))) pss_nil)
      (pss_cons (ps_if (PW.pt (pw_or (pt_not (pt_val (pe_callB (r := rIsi K) call_isi (by rfl) T.n_isinstance (by decide +kernel) (pa_cons (pv 0) (pa_cons (pe_bltn (v := .ty "tuple") (by rfl) T.n_tuple (by decide +kernel) rfl) pa_nil))))) (pw_or1 (pt_cmpR (r := rEqU K) (op_eqU hr.units) (pv 1) (pe_gl T.g_MOST_DEEP (by rfl)) (nomark _))))) (pss_one (ps_ret pe_bl)) pss_nil)
      (pss_one (ps_ret (pe_callB (r := rAll K) (cr_all rfl) (by rfl) T.n_all (by decide +kernel) (pa_cons (pe_lc (own := [("part", 3)]) (g := (gName 3)) (tt := tYes) rfl nd (pi_tup (pv 0)) (blkOk_by (by rfl)) (fun _ _ _ _ _ => (pg_name (i := 3) nd rfl (Or.inl rfl))) (fun _ _ _ _ _ => pts_nil) (fun _ _ _ _ _ => (pe_yd c_is_value (n := 2) (i := 1) (fun _ _ _ _ _ _ _ us its h1 h2 => match us, its, h1, h2 with | [_, _], [_], _, _ => ⟨_, rfl, rfl⟩) (by decide) hr (by omega) (by rfl) takes0 (pa_cons (pv 3) (pa_cons (pe_op (r := rAddU K) op_addU (pv 1) pe_int) pa_nil))))) pa_nil)))))))), ?_⟩
    refine ⟨x, rfl, .inl ⟨rfl, _, rfl, ite_b (fun hc => ?_) (fun hc => ?_)⟩⟩
    · have e := is_non hv hc
      subst e
      have := q H (Same.refl _)
      rw [iv_non] at this
      exact this
    have h0 := no_non hv hc
    refine ⟨x, rfl, x, v, rfl, hv, _, rfl, ite_b (fun hi => ?_) (fun hi => ?_)⟩
    · obtain ⟨z, rfl⟩ := v_int hi
      cases hv
      refine ⟨_, rfl, z, rfl, _, _, rfl, rfl, ?_⟩
      try dsimp only
      rw [abs_dec]
      have := q H (Same.refl _)
      rw [iv_int] at this
      exact this
    refine ⟨x, rfl, x, v, rfl, hv, _, rfl, ite_b (fun h1 => ?_) (fun h1 => ?_)⟩
    · obtain ⟨l, rfl⟩ := v_str h1
      cases hv
      have hl : l.length ≤ 500000 := by
        simp only [sz] at hs
        omega
      refine ⟨_, rfl, _, rfl, fun Dl nD => lcP walk_str (fun i => some (.bl (M84.wsg (l.getD i 0)))) nD (by show l.length ≤ 1000000; omega) (fun _ _ => trivial) (fun i x H1 H' hi s y Ky Kn hy hn => ?_) (fun H2 s2 e2 => ?_)⟩
      · obtain ⟨rfl, c, ec, rfl⟩ := y
        have ec2 : l[i]? = some c := by simpa using ec
        refine ⟨rfl, yes ⟨_, rfl, c, rfl, hy _ _ (Same.refl _) ?_⟩⟩
        try dsimp only
        rw [List.getD_eq_getElem?_getD, ec2]
        rfl
      have e3 : H2 Dl = some (.lst ((l.map M84.wsg).map V.bl)) := by
        try dsimp only
        rw [e2, fm_map]
        have := range_map_list l 0 (fun c => V.bl (M84.wsg c))
        try dsimp only
        rw [List.map_map]
        exact congrArg (fun z => some (HO.lst z)) this
      refine ⟨Dl, _, rfl, lst_of e3, ?_⟩
      have := q H2 s2
      rw [iv_str] at this
      try dsimp only
      rw [List.all_map]
      exact this
    refine ⟨x, rfl, x, .ty "tuple", _, .type "tuple", _, rfl, .ty _, tyX hv, kit_ty (kTup v), _, rfl, ite_b (fun h2 => ?_) (fun h2 => ?_)⟩
    · have := q H (Same.refl _)
      rw [iv_odd _ h0 hi h1 (by simpa using h2)] at this
      exact iteT this
    obtain ⟨l, rfl⟩ := v_tup (by simpa using h2)
    obtain ⟨a, xs, rfl, hT, hVs⟩ := hv
    refine ⟨_, rfl, .inl ⟨rfl, _, rfl, ite_b (fun h3 => ?_) (fun h3 => ?_)⟩⟩
    · have h40 : d = 40 := by
        have := V.int.inj (of_decide_eq_true h3)
        omega
      subst h40
      have := q H (Same.refl _)
      exact this
    have h40 : d < 40 := by
      have : ¬ ((d : Int) = 40) := fun e => of_decide_eq_false h3 (by rw [e])
      omega
    have hlen := vs_len hVs
    have hll := szs_len l
    have hsz : szs l < 500000 := by
      simp only [sz] at hs
      omega
    have e40 : 40 - d = (39 - d) + 1 := by omega
    refine ⟨_, rfl, a, rfl, ⟨xs, hT⟩, fun Dl nD => lcP (n := xs.length) (walk_tup (xs := xs)) (fun i => some (.bl (M84.isV (39 - d) (l.getD i .non)))) nD (by omega) (fun _ s => tupS s hT) (fun i x H1 H' hi s y Ky Kn hy hn' => ?_) (fun H2 s2 e2 => ?_)⟩
    · obtain ⟨rfl, ex⟩ := y
      obtain ⟨v, ev, hv⟩ := vs_at hVs ex
      have hsv := sz_at ev
      refine ⟨rfl, yes ⟨_, rfl, _, rfl, .inl ⟨_, _, rfl, rfl, rfl, _, v, d + 1, rfl, hv.same s, by omega, by omega, by omega, fun H3 s3 => hy _ _ s3 ?_⟩⟩⟩
      try dsimp only
      rw [List.getD_eq_getElem?_getD, ev]
      try dsimp only
      rw [show 40 - (d + 1) = 39 - d by omega]
      rfl
    have e3 : H2 Dl = some (.lst ((l.map (M84.isV (39 - d))).map V.bl)) := by
      try dsimp only
      rw [e2, fm_map]
      have := range_map_list l .non (fun v => V.bl (M84.isV (39 - d) v))
      try dsimp only
      rw [List.map_map, hlen]
      exact congrArg (fun z => some (HO.lst z)) this
    refine ⟨Dl, _, rfl, lst_of e3, ?_⟩
    have := q H2 s2
    rw [e40] at this
    try dsimp only
    rw [← ivs_all]
    exact this

theorem all_is_value (T : Txt P K mg a_BeadError a_BadText a_Refused a_ValueReader) (c_is_integer : Cy P w K mg base 1 "is_integer" s_is_integer [] ["value"] (sp_is_integer K)) (c_is_text : Cy P w K mg base 1 "is_text" s_is_text [] ["value"] (sp_is_text K)) (c_is_word_sign : Cy P w K mg base 1 "is_word_sign" s_is_word_sign [] ["sign"] sp_is_word_sign) : ∀ n : Nat, Cy P w K mg base (3 + n) "is_value" s_is_value [.int 0] ["value", "deep"] (sp_is_value K n)
  | 0 => Cy.none T.d_is_value (fun vs H Q E h => by obtain ⟨_, _, d, _, _, h1, h2, _⟩ := h; omega)
  | n + 1 => ok_is_value T c_is_integer c_is_text c_is_word_sign (all_is_value T c_is_integer c_is_text c_is_word_sign n)
theorem ok_written {n : Nat} (T : Txt P K mg a_BeadError a_BadText a_Refused a_ValueReader) (c_is_integer : Cy P w K mg base 1 "is_integer" s_is_integer [] ["value"] (sp_is_integer K)) (c_is_text : Cy P w K mg base 1 "is_text" s_is_text [] ["value"] (sp_is_text K)) (c_written : Cy P w K mg base (3 + n) "written" s_written [] ["value"] (sp_written K n)) : Cy P w K mg base (3 + n + 1) "written" s_written [] ["value"] (sp_written K (n + 1)) := by
  have nd := sc_written.nd
  refine Cy.mk' T.d_written sc_written (fun vs H Q E h => ?_) (fun f cdv A outer s H vs Q E hr tk po h => ?_)
  · obtain ⟨_, _, rfl, _⟩ := h
    rfl
  · obtain ⟨x, v, rfl, hv, ⟨m, hm, hV⟩, hl, q⟩ := h
    refine ⟨_, (pss_cons (ps_if (pt_cmpR op_isU (pv 0) pe_non (nomark _)) (pss_one (ps_ret pe_str)) pss_nil)
      (pss_cons (ps_if (pt_val (pe_y c_is_integer b_is_integer hr (by omega) (by rfl) takes0 (pa_cons (pv 0) pa_nil))) (pss_one (ps_ret (pe_callTy call_str_int (by rfl) T.n_str (by decide +kernel) (pa_cons (pv 0) pa_nil)))) pss_nil)
      (pss_cons (ps_if (pt_val (pe_y c_is_text b_is_text hr (by omega) (by rfl) takes0 (pa_cons (pv 0) pa_nil))) (pss_one (ps_ret (pe_op (r := rAddU K) op_addU (pe_op (r := rAddU K) op_addU (pe_gl T.g_QUOTE (by rfl)) (pv 0)) (pe_gl T.g_QUOTE (by rfl))))) pss_nil)
      (pss_one (ps_ret (pe_op (r := rAddU K) op_addU (pe_op (r := rAddU K) op_addU pe_str (pe_join pe_str (pe_lc (own := [("part", 1)]) (g := (gName 1)) (tt := tYes) rfl nd (pi_tup (pv 0)) (blkOk_by (by rfl)) (fun _ _ _ _ _ => (pg_name (i := 1) nd rfl (Or.inl rfl))) (fun _ _ _ _ _ => pts_nil) (fun _ _ _ _ _ => (pe_y c_written b_written hr (by omega) (by rfl) takes0 (pa_cons (pv 1) pa_nil)))))) pe_str)))))), ?_⟩
    refine ⟨x, rfl, .inl ⟨rfl, _, rfl, ite_b (fun hc => ?_) (fun hc => ?_)⟩⟩
    · have e := is_non hv hc
      subst e
      try dsimp only
      rw [sMi]
      exact q H (Same.refl _)
    refine ⟨x, rfl, x, v, rfl, hv, _, rfl, ite_b (fun hi => ?_) (fun hi => ?_)⟩
    · obtain ⟨z, rfl⟩ := v_int hi
      cases hv
      rw [iv_int] at hV
      refine ⟨_, rfl, z, rfl, log_ok (of_decide_eq_true hV), ?_⟩
      have := q H (Same.refl _)
      show Q (V.str (Str.ofString (toString z))) H
      try dsimp only
      rw [numL_str]
      exact this
    refine ⟨x, rfl, x, v, rfl, hv, _, rfl, ite_b (fun h1 => ?_) (fun h1 => ?_)⟩
    · obtain ⟨l, rfl⟩ := v_str h1
      cases hv
      have hl2 : l.length + 2 ≤ 500000 := by
        simp only [M84.txt, List.length_cons, List.length_append, List.length_nil] at hl
        omega
      refine ⟨_, rfl, .inr (.inl ⟨_, _, rfl, rfl, ?_, .inr (.inl ⟨_, _, rfl, rfl, ?_, ?_⟩)⟩)⟩
      · try dsimp only
        rw [S_len, S_len]
        exact small1m (by show 1 + l.length ≤ 1000000; omega)
      · try dsimp only
        rw [S_app, S_len, S_len, List.length_append]
        exact small1m (by show 1 + l.length + 1 ≤ 1000000; omega)
      · try dsimp only
        rw [S_app, S_app]
        exact q H (Same.refl _)
    have h0 := no_non hv hc
    obtain ⟨m', l, rfl, rfl, hVs⟩ : ∃ m' l, v = .tup l ∧ m = m' + 1 ∧ M84.isVs m' l = true := by
      rcases ok_non m hV with e | e | e | e
      · exact absurd e h0
      · rw [hi] at e; cases e
      · rw [h1] at e; cases e
      · exact e
    obtain ⟨a, xs, rfl, hT, hIs⟩ := hv
    have hlen := vs_len hIs
    have hll := len_txts l
    have htl : (M84.txts l).length + 2 ≤ 500000 := by
      simp only [M84.txt, List.length_cons, List.length_append, List.length_nil] at hl
      omega
    refine ⟨⟨_, rfl⟩, _, rfl, a, rfl, ⟨xs, hT⟩, fun Dl nD => lcP (n := xs.length) (walk_tup (xs := xs)) (fun i => some (W (M84.txt (l.getD i .non)))) nD (by omega) (fun _ s => tupS s hT) (fun i x H1 H' hi s y Ky Kn hy hn' => ?_) (fun H2 s2 e2 => ?_)⟩
    · obtain ⟨rfl, ex⟩ := y
      obtain ⟨v, ev, hv⟩ := vs_at hIs ex
      have hlv := txt_at ev
      refine ⟨rfl, yes ⟨_, rfl, _, v, rfl, hv.same s, ⟨m', by omega, isV_at hVs ev⟩, by omega, fun H3 s3 => hy _ _ s3 ?_⟩⟩
      try dsimp only
      rw [List.getD_eq_getElem?_getD, ev]
      rfl
    have e3 : H2 Dl = some (.lst (((l.map M84.txt).map S).map V.str)) := by
      try dsimp only
      rw [e2, fm_map]
      have := range_map_list l .non (fun v => W (M84.txt v))
      try dsimp only
      rw [List.map_map, List.map_map, hlen]
      exact congrArg (fun z => some (HO.lst z)) this
    refine ⟨_, Dl, _, rfl, rfl, .inl (lst_of e3), ?_, .inr (.inl ⟨_, _, rfl, rfl, ?_, .inr (.inl ⟨_, _, rfl, rfl, ?_, ?_⟩)⟩)⟩
    · try dsimp only
      rw [len_join, List.length_map, List.length_map]
      have := sum_txts l
      show _ + l.length * 1 ≤ 16777216
      omega
    · try dsimp only
      rw [sSp, join_any, joinL_txts, sOp, S_len, S_len]
      exact small1m (by show 1 + (M84.txts l).length ≤ 1000000; omega)
    · try dsimp only
      rw [sSp, join_any, joinL_txts, sOp, sCl, S_app, S_len, S_len, List.length_append]
      exact small1m (by show 1 + (M84.txts l).length + 1 ≤ 1000000; omega)
    · try dsimp only
      rw [sSp, join_any, joinL_txts, sOp, sCl, S_app, S_app]
      exact q H2 s2

theorem all_written (T : Txt P K mg a_BeadError a_BadText a_Refused a_ValueReader) (c_is_integer : Cy P w K mg base 1 "is_integer" s_is_integer [] ["value"] (sp_is_integer K)) (c_is_text : Cy P w K mg base 1 "is_text" s_is_text [] ["value"] (sp_is_text K)) : ∀ n : Nat, Cy P w K mg base (3 + n) "written" s_written [] ["value"] (sp_written K n)
  | 0 => Cy.none T.d_written (fun vs H Q E h => by obtain ⟨_, _, _, _, ⟨m, h1, _⟩, _⟩ := h; omega)
  | n + 1 => ok_written T c_is_integer c_is_text (all_written T c_is_integer c_is_text n)
theorem ok_value_text (T : Txt P K mg a_BeadError a_BadText a_Refused a_ValueReader) (c_is_value : Cy P w K mg base 44 "is_value" s_is_value [.int 0] ["value", "deep"] (sp_is_value K 41)) (c_written : Cy P w K mg base 44 "written" s_written [] ["value"] (sp_written K 41)) : Cy P w K mg base 50 "value_text" s_value_text [] ["value"] (sp_value_text K a_BadText) := by
  have nd := sc_value_text.nd
  refine Cy.mk' T.d_value_text sc_value_text (fun vs H Q E h => ?_) (fun f cdv A outer s H vs Q E hr tk po h => ?_)
  · obtain ⟨_, _, rfl, _⟩ := h
    rfl
  · obtain ⟨x, v, rfl, hv, hs, q1, q2⟩ := h
    refine ⟨_, (pss_cons (ps_if (pt_not (pt_val (pe_yd c_is_value (n := 1) (i := 0) (fun _ _ _ _ _ _ _ us its h1 h2 => match us, its, h1, h2 with | [_], [_], _, _ => ⟨_, rfl, rfl⟩) (by decide) hr (by omega) (by rfl) takes0 (pa_cons (pv 0) pa_nil)))) (pss_one (ps_raise rfl tk (pmk_err (k := 0) T.e_BadText (hr.mono (by omega)) (by rfl) T.k_BadText (pa_cons (pe_un un_neg pe_int) pa_nil)))) pss_nil)
      (pss_one (ps_ret (pe_y c_written b_written hr (by omega) (by rfl) takes0 (pa_cons (pv 0) pa_nil))))), ?_⟩
    refine ⟨x, rfl, rfl, x, v, 0, rfl, hv, by decide, by decide, hs, fun H1 s1 => ⟨_, rfl, ite_b (fun hc => ?_) (fun hc => ?_)⟩⟩
    · have hb : M84.isV 40 v = false := by simpa using hc
      exact ⟨_, rfl, _, rfl, fun d H2 nd s2 e2 => q2 hb d H2 (free_of s1 nd) (s1.trans s2) e2⟩
    · have hb : M84.isV 40 v = true := by simpa using hc
      obtain ⟨hl, q⟩ := q1 hb
      exact ⟨x, rfl, x, v, rfl, hv.same s1, ⟨40, by decide, hb⟩, hl, fun H2 s2 => q H2 (s1.trans s2)⟩

theorem ok_ValueReader_init (T : Txt P K mg a_BeadError a_BadText a_Refused a_ValueReader) : Ci P w K mg base 1 a_ValueReader "ValueReader.__init__" s_ValueReader_init [] ["self", "text"] (sp_ValueReader_init a_ValueReader) := by
  have nd := sc_ValueReader_init.nd
  refine Ci.mk' T.d_ValueReader_init sc_ValueReader_init (fun vs H Q E h => ?_) (fun f cdv A outer s H vs Q E hr tk po h => ?_)
  · obtain ⟨_, _, _, rfl, _⟩ := h
    rfl
  · obtain ⟨rd, dx, l, rfl, h, hl, q⟩ := h
    refine ⟨_, (pss_cons (ps_fld (pv 0) (pv 1) rfl)
      (pss_one (ps_fld (pv 0) pe_int rfl))), ?_⟩
    refine ⟨_, rfl, _, rfl, rd, _, dx, _, rfl, h, T.cl_ValueReader, T.na_ValueReader_text, by show 0 < 1000; decide, _, rfl, rd, _, dx, _, rfl, upd_same, T.cl_ValueReader, T.na_ValueReader_at, by show 1 < 1000; decide, ?_⟩
    exact q _ (SameB.put.trans SameB.put) ⟨dx, [], rfl, hl, upd_same⟩

theorem ok_ValueReader_next_sign (T : Txt P K mg a_BeadError a_BadText a_Refused a_ValueReader) : Cm P w K mg base 1 a_ValueReader "next_sign" "ValueReader.next_sign" s_ValueReader_next_sign [] ["self"] (sp_ValueReader_next_sign a_ValueReader) := by
  have nd := sc_ValueReader_next_sign.nd
  refine Cm.mk' T.d_ValueReader_next_sign sc_ValueReader_next_sign (fun vs H Q E h => ?_) (fun f cdv A outer s H vs Q E hr tk po h => ?_)
  · obtain ⟨_, _, _, rfl, _⟩ := h
    rfl
  · obtain ⟨rd, l, s, rfl, ⟨dx, p, e, hl, hH⟩, q⟩ := h
    refine ⟨_, (pss_one (ps_ret (pe_slice (r := rSlU K) sl_U (pe_fld (pv 0) rfl) (po_some (pe_fld (pv 0) rfl)) (po_some (pe_op (r := rAddU K) op_addU (pe_fld (pv 0) rfl) pe_int))))), ?_⟩
    refine ⟨_, rfl, rd, _, dx, _, _, rfl, hH, T.cl_ValueReader, T.na_ValueReader_text, rf_text _ _, _, rfl, rd, _, dx, _, _, rfl, hH, T.cl_ValueReader, T.na_ValueReader_at, rf_at _ _, _, rfl, _, rfl, rd, _, dx, _, _, rfl, hH, T.cl_ValueReader, T.na_ValueReader_at, rf_at _ _, .inl ⟨_, _, rfl, rfl, _, rfl, .inl ⟨_, rfl, S_small (n := 0) (by omega), ?_⟩⟩⟩
    have h1 : cutS (S l) (some (p.length : Int)) (some ((p.length : Int) + 1)) = S (s.take 1) := by
      have := S_mid l (a := p.length) (b := p.length + 1) (by rw [e, List.length_append]; omega)
      rw [show p.length + 1 - p.length = 1 by omega] at this
      try dsimp only
      rw [show ((p.length : Int) + 1) = ((p.length + 1 : Nat) : Int) from rfl, this, e, List.drop_left]
    show Q (V.str (cutS (S l) (some (p.length : Int)) (some ((p.length : Int) + 1)))) H
    try dsimp only
    rw [h1]
    exact q

theorem ok_ValueReader_is_at (T : Txt P K mg a_BeadError a_BadText a_Refused a_ValueReader) (c_ValueReader_next_sign : Cm P w K mg base 1 a_ValueReader "next_sign" "ValueReader.next_sign" s_ValueReader_next_sign [] ["self"] (sp_ValueReader_next_sign a_ValueReader)) : Cm P w K mg base 2 a_ValueReader "is_at" "ValueReader.is_at" s_ValueReader_is_at [] ["self", "signs"] (sp_ValueReader_is_at a_ValueReader) := by
  have nd := sc_ValueReader_is_at.nd
  refine Cm.mk' T.d_ValueReader_is_at sc_ValueReader_is_at (fun vs H Q E h => ?_) (fun f cdv A outer s H vs Q E hr tk po h => ?_)
  · obtain ⟨_, _, _, _, rfl, _⟩ := h
    rfl
  · obtain ⟨rd, l, s, gs, rfl, hR, q⟩ := h
    obtain ⟨dx, p, e, hl, hH⟩ := id hR
    refine ⟨_, (pss_one (ps_ret (pe_and (pe_cmpR (r := rNeU K) (op_neU hr.units) (pe_ym0 c_ValueReader_next_sign b_ValueReader_next_sign T.cl_ValueReader hr (by omega) takes0 (pv 0)) pe_str (nomark _)) (pe_one (pe_cmpR (r := rInU K) op_inU (pe_ym0 c_ValueReader_next_sign b_ValueReader_next_sign T.cl_ValueReader hr (by omega) takes0 (pv 0)) (pv 1) rfl))))), ?_⟩
    refine ⟨_, rfl, rd, dx, _, rfl, hH, rf_no (by decide +kernel) (by decide +kernel), rd, l, s, rfl, hR, .inl ⟨rfl, _, rfl, ?_⟩⟩
    try dsimp only
    rw [sE]
    show (if (!decide (W (s.take 1) = W [])) = true then _ else _)
    try dsimp only
    rw [nonempty_dec]
    cases s with
    | nil => exact iteF q
    | cons c t =>
      refine iteT ⟨_, rfl, rd, dx, _, rfl, hH, rf_no (by decide +kernel) (by decide +kernel), rd, l, c :: t, rfl, hR, _, rfl, .inl ⟨c, _, rfl, rfl, ?_⟩⟩
      exact q

theorem ok_ValueReader_need (T : Txt P K mg a_BeadError a_BadText a_Refused a_ValueReader) (c_ValueReader_next_sign : Cm P w K mg base 1 a_ValueReader "next_sign" "ValueReader.next_sign" s_ValueReader_next_sign [] ["self"] (sp_ValueReader_next_sign a_ValueReader)) : Cm P w K mg base 2 a_ValueReader "need" "ValueReader.need" s_ValueReader_need [] ["self", "sign"] (sp_ValueReader_need a_BadText a_ValueReader) := by
  have nd := sc_ValueReader_need.nd
  refine Cm.mk' T.d_ValueReader_need sc_ValueReader_need (fun vs H Q E h => ?_) (fun f cdv A outer s H vs Q E hr tk po h => ?_)
  · obtain ⟨_, _, _, _, rfl, _⟩ := h
    rfl
  · obtain ⟨rd, l, s, c, rfl, hR, q1, q2⟩ := h
    obtain ⟨dx, p, e, hl, hH⟩ := id hR
    refine ⟨_, (pss_cons (ps_if (pt_cmpR (r := rNeU K) (op_neU hr.units) (pe_ym0 c_ValueReader_next_sign b_ValueReader_next_sign T.cl_ValueReader hr (by omega) takes0 (pv 0)) (pv 1) (nomark _)) (pss_one (ps_raise rfl tk (pmk_err (k := 0) T.e_BadText (hr.mono (by omega)) (by rfl) T.k_BadText (pa_cons (pe_fld (pv 0) rfl) pa_nil)))) pss_nil)
      (pss_one (ps_fldaug (pv 0) pe_int iop_add))), ?_⟩
    refine ⟨_, rfl, rd, dx, _, rfl, hH, rf_no (by decide +kernel) (by decide +kernel), rd, l, s, rfl, hR, _, rfl, .inl ⟨rfl, _, rfl, ite_b (fun hc => ?_) (fun hc => ?_)⟩⟩
    · have hno : ∀ t, s ≠ c :: t := by
        rintro t rfl
        rw [show ((c :: t).take 1) = [c] from rfl, decide_eq_true rfl] at hc
        cases hc
      refine ⟨_, rfl, rd, _, dx, _, _, rfl, hH, T.cl_ValueReader, T.na_ValueReader_at, rf_at _ _, _, rfl, fun d H2 nd s2 e2 => q2 hno d H2 nd (SameB.of s2) ?_⟩
      try dsimp only
      rw [pos_of e]
      exact e2
    · obtain ⟨t, rfl⟩ : ∃ t, s = c :: t := by
        rw [W_dec] at hc
        cases s with
        | nil => cases hc
        | cons d t =>
          have h1 : ([d] == [c]) = true := by simpa using hc
          exact ⟨t, by rw [(List.cons.inj (eq_of_beq h1)).1]⟩
      exact ⟨_, rfl, rd, _, dx, _, _, rfl, hH, T.cl_ValueReader, T.na_ValueReader_at, rf_at _ _, _, _, rfl, rfl, dx, _, hH, by rw [rf_eq]; show 2 < 1000; decide, q1 t rfl _ SameB.put (RD.step e hl)⟩

theorem ok_ValueReader_value {n : Nat} (T : Txt P K mg a_BeadError a_BadText a_Refused a_ValueReader) (c_ValueReader_is_at : Cm P w K mg base 2 a_ValueReader "is_at" "ValueReader.is_at" s_ValueReader_is_at [] ["self", "signs"] (sp_ValueReader_is_at a_ValueReader)) (c_ValueReader_word : Cm P w K mg base 3 a_ValueReader "word" "ValueReader.word" s_ValueReader_word [] ["self"] (sp_ValueReader_word K a_BadText a_ValueReader)) (c_ValueReader_parts : Cm P w K mg base (7 + 2 * n) a_ValueReader "parts" "ValueReader.parts" s_ValueReader_parts [] ["self", "deep"] (sp_ValueReader_parts K a_BadText a_ValueReader n)) (c_ValueReader_number : Cm P w K mg base 3 a_ValueReader "number" "ValueReader.number" s_ValueReader_number [] ["self"] (sp_ValueReader_number K a_BadText a_ValueReader)) : Cm P w K mg base (7 + 2 * n + 1) a_ValueReader "value" "ValueReader.value" s_ValueReader_value [] ["self", "deep"] (sp_ValueReader_value K a_BadText a_ValueReader (n + 1)) := by
  have nd := sc_ValueReader_value.nd
  refine Cm.mk' T.d_ValueReader_value sc_ValueReader_value (fun vs H Q E h => ?_) (fun f cdv A outer s H vs Q E hr tk po h => ?_)
  · obtain ⟨_, _, _, _, rfl, _⟩ := h
    rfl
  · obtain ⟨rd, l, s, d, rfl, hR, hd, hn, hA1, hA2⟩ := h
    obtain ⟨dx, p, e, hl, hH⟩ := id hR
    refine ⟨_, (pss_cons (ps_if (pt_val (pe_ym c_ValueReader_is_at b_ValueReader_is_at T.cl_ValueReader hr (by omega) takes0 (pv 0) (pa_cons (pe_gl T.g_QUOTE (by rfl)) pa_nil))) (pss_one (ps_ret (pe_ym0 c_ValueReader_word b_ValueReader_word T.cl_ValueReader hr (by omega) tk (pv 0)))) pss_nil)
      (pss_cons (ps_if (PW.pt (pw_and (pt_val (pe_ym c_ValueReader_is_at b_ValueReader_is_at T.cl_ValueReader hr (by omega) takes0 (pv 0) (pa_cons pe_str pa_nil))) (pw_and1 (pt_cmpR op_lt (pv 1) (pe_gl T.g_MOST_DEEP (by rfl)) (nomark _))))) (pss_one (ps_ret (pe_ym c_ValueReader_parts b_ValueReader_parts T.cl_ValueReader hr (by omega) tk (pv 0) (pa_cons (pv 1) pa_nil)))) pss_nil)
      (pss_cons (ps_if (pt_val (pe_ym c_ValueReader_is_at b_ValueReader_is_at T.cl_ValueReader hr (by omega) takes0 (pv 0) (pa_cons (pe_op (r := rAddU K) op_addU pe_str (pe_gl T.g_NUMERALS (by rfl))) pa_nil))) (pss_one (ps_ret (pe_ym0 c_ValueReader_number b_ValueReader_number T.cl_ValueReader hr (by omega) tk (pv 0)))) pss_nil)
      (pss_one (ps_raise rfl tk (pmk_err (k := 0) T.e_BadText (hr.mono (by omega)) (by rfl) T.k_BadText (pa_cons (pe_fld (pv 0) rfl) pa_nil))))))), ?_⟩
    refine ⟨_, rfl, rd, dx, _, rfl, hH, rf_no (by decide +kernel) (by decide +kernel), rd, l, s, [34], rfl, hR, _, rfl, ite_b (fun h1 => ?_) (fun h1 => ?_)⟩
    · obtain ⟨t, rfl⟩ := at1_yes h1
      refine ⟨_, rfl, rd, dx, _, rfl, hH, rf_no (by decide +kernel) (by decide +kernel), rd, l, t, rfl, hR, fun v s' hw => hA1 v s' ?_, fun s' hw => hA2 s' ?_⟩
      · try dsimp only
        rw [M84.pv_34]
        exact hw
      · try dsimp only
        rw [M84.pv_34]
        exact hw
    have h34 := at1_no h1
    refine ⟨_, rfl, rd, dx, _, rfl, hH, rf_no (by decide +kernel) (by decide +kernel), ?_⟩
    try dsimp only
    rw [sOp]
    refine ⟨rd, l, s, [40], rfl, hR, _, rfl, ?_⟩
    have rest : (d = 40 ∨ ∀ t, s ≠ 40 :: t) → _ := fun h40 : (d = 40 ∨ ∀ t, s ≠ 40 :: t) => (show (40 - d = 0 ∨ ∀ t, s ≠ 40 :: t) from h40.imp (fun z => by omega) id)
    refine ite_b (fun h2 => ?_) (fun h2 => ?_)
    · obtain ⟨t, rfl⟩ := at1_yes h2
      refine ⟨_, rfl, _, _, rfl, rfl, _, rfl, ite_b (fun h3 => ?_) (fun h3 => ?_)⟩
      · have hd40 : d < 40 := by
          have := of_decide_eq_true h3
          omega
        have e40 : 40 - d = (39 - d) + 1 := by omega
        rw [e40] at hA1 hA2
        exact ⟨_, rfl, rd, dx, _, rfl, hH, rf_no (by decide +kernel) (by decide +kernel), _, rfl, rd, l, t, d, rfl, hR, hd40, by omega, fun v s' hw => hA1 v s' hw, fun s' hw => hA2 s' hw⟩
      · have hd40 : d = 40 := by
          have := of_decide_eq_false h3
          omega
        have h4 := rest (.inl hd40)
        refine ⟨_, rfl, rd, dx, _, rfl, hH, rf_no (by decide +kernel) (by decide +kernel), .inr (.inl ⟨_, _, rfl, rfl, by decide, ?_⟩)⟩
        try dsimp only
        rw [sMi, S_app]
        refine ⟨rd, l, _, 45 :: NUM, rfl, hR, _, rfl, ite_b (fun h5 => ?_) (fun h5 => ?_)⟩
        · obtain ⟨c, t2, es, hcc⟩ := at1_numq h5
          rw [es] at hR hA1 hA2
          refine ⟨_, rfl, rd, dx, _, rfl, hH, rf_no (by decide +kernel) (by decide +kernel), rd, l, c, t2, rfl, hR, hcc, fun v s' hw => hA1 v s' ?_, fun s' hw => hA2 s' ?_⟩
          · try dsimp only
            rw [M84.pv_num _ _ hcc]
            exact hw
          · try dsimp only
            rw [M84.pv_num _ _ hcc]
            exact hw
        · refine ⟨_, rfl, rd, _, dx, _, _, rfl, hH, T.cl_ValueReader, T.na_ValueReader_at, rf_at _ _, _, rfl, fun d2 H2 nd s2 e2 => hA2 _ (pv_bad h34 h4 h5) d2 H2 nd (SameB.of s2) ?_⟩
          try dsimp only
          rw [pos_of e]
          exact e2
    · have h4 := rest (.inr (at1_no h2))
      refine ⟨_, rfl, rd, dx, _, rfl, hH, rf_no (by decide +kernel) (by decide +kernel), .inr (.inl ⟨_, _, rfl, rfl, by decide, ?_⟩)⟩
      try dsimp only
      rw [sMi, S_app]
      refine ⟨rd, l, _, 45 :: NUM, rfl, hR, _, rfl, ite_b (fun h5 => ?_) (fun h5 => ?_)⟩
      · obtain ⟨c, t2, es, hcc⟩ := at1_numq h5
        rw [es] at hR hA1 hA2
        refine ⟨_, rfl, rd, dx, _, rfl, hH, rf_no (by decide +kernel) (by decide +kernel), rd, l, c, t2, rfl, hR, hcc, fun v s' hw => hA1 v s' ?_, fun s' hw => hA2 s' ?_⟩
        · try dsimp only
          rw [M84.pv_num _ _ hcc]
          exact hw
        · try dsimp only
          rw [M84.pv_num _ _ hcc]
          exact hw
      · refine ⟨_, rfl, rd, _, dx, _, _, rfl, hH, T.cl_ValueReader, T.na_ValueReader_at, rf_at _ _, _, rfl, fun d2 H2 nd s2 e2 => hA2 _ (pv_bad h34 h4 h5) d2 H2 nd (SameB.of s2) ?_⟩
        try dsimp only
        rw [pos_of e]
        exact e2

theorem ok_ValueReader_word (T : Txt P K mg a_BeadError a_BadText a_Refused a_ValueReader) (c_ValueReader_need : Cm P w K mg base 2 a_ValueReader "need" "ValueReader.need" s_ValueReader_need [] ["self", "sign"] (sp_ValueReader_need a_BadText a_ValueReader)) (c_is_word_sign : Cy P w K mg base 1 "is_word_sign" s_is_word_sign [] ["sign"] sp_is_word_sign) (c_ValueReader_next_sign : Cm P w K mg base 1 a_ValueReader "next_sign" "ValueReader.next_sign" s_ValueReader_next_sign [] ["self"] (sp_ValueReader_next_sign a_ValueReader)) : Cm P w K mg base 3 a_ValueReader "word" "ValueReader.word" s_ValueReader_word [] ["self"] (sp_ValueReader_word K a_BadText a_ValueReader) := by
  have nd := sc_ValueReader_word.nd
  refine Cm.mk' T.d_ValueReader_word sc_ValueReader_word (fun vs H Q E h => ?_) (fun f cdv A outer s H vs Q E hr tk po h => ?_)
  · obtain ⟨_, _, _, rfl, _⟩ := h
    rfl
  · obtain ⟨rd, l, s, rfl, hR, hA1, hA2⟩ := h
    obtain ⟨dx, p, e, hl, hH⟩ := id hR
    refine ⟨_, (pss_cons (ps_expr (pe_ym c_ValueReader_need b_ValueReader_need T.cl_ValueReader hr (by omega) tk (pv 0) (pa_cons (pe_gl T.g_QUOTE (by rfl)) pa_nil)))
      (pss_cons (ps_set (i := 1) nd rfl (.inl rfl) (pe_fld (pv 0) rfl))
      (Evl.pss_cut (ps_while po (PW.pt (pw_and (pt_cmpR (r := rNeU K) (op_neU hr.units) (pe_ym0 c_ValueReader_next_sign b_ValueReader_next_sign T.cl_ValueReader hr (by omega) takes0 (pv 0)) pe_str (nomark _)) (pw_and1 (pt_val (pe_y c_is_word_sign b_is_word_sign hr (by omega) (by rfl) takes0 (pa_cons (pe_ym0 c_ValueReader_next_sign b_ValueReader_next_sign T.cl_ValueReader hr (by omega) takes0 (pv 0)) pa_nil)))))) (pss_one (ps_fldaug (pv 0) pe_int iop_add)))
      (pss_cons (ps_expr (pe_ym c_ValueReader_need b_ValueReader_need T.cl_ValueReader hr (by omega) tk (pv 0) (pa_cons (pe_gl T.g_QUOTE (by rfl)) pa_nil)))
      (pss_one (ps_ret (pe_slice (r := rSlU K) sl_U (pe_fld (pv 0) rfl) (po_some (pv 1)) (po_some (pe_op op_sub (pe_fld (pv 0) rfl) pe_int))))))))), ?_⟩
    refine ⟨_, rfl, rd, dx, _, rfl, hH, rf_no (by decide +kernel) (by decide +kernel), rd, l, 34 :: s, 34, rfl, hR, fun t et H1 sb1 r1 => ?_, fun no => absurd rfl (no s)⟩
    cases et
    obtain ⟨dx1, p1, e1, hl1, h1⟩ := id r1
    refine ⟨_, rfl, rd, _, dx1, _, _, rfl, h1, T.cl_ValueReader, T.na_ValueReader_at, rf_at _ _, ?_⟩
    refine ⟨fun σ' H' => σ' = [some (.ref rd), some (.int (p1.length : Int))] ∧ SameB rd H H' ∧ RD a_ValueReader H' rd l (s.dropWhile M84.wsg), ?_, fun σ' H' hm => ?_⟩
    · refine ⟨fun m σ' H' => ∃ k, k ≤ (s.takeWhile M84.wsg).length ∧ m = (s.takeWhile M84.wsg).length - k ∧ σ' = [some (.ref rd), some (.int (p1.length : Int))] ∧ SameB rd H H' ∧ RD a_ValueReader H' rd l (s.drop k), ⟨_, 0, Nat.zero_le _, rfl, rfl, sb1, r1⟩, fun m σ' H' hw => ?_⟩
      obtain ⟨k, hk, rfl, rfl, sb, hR⟩ := hw
      obtain ⟨dx, p, e, hl, hH⟩ := id hR
      refine ⟨_, rfl, rd, dx, _, rfl, hH, rf_no (by decide +kernel) (by decide +kernel), rd, l, s.drop k, rfl, hR, .inl ⟨rfl, _, rfl, ?_⟩⟩
      try dsimp only
      rw [sE]
      show (if (!decide (W ((s.drop k).take 1) = W [])) = true then _ else _)
      try dsimp only
      rw [nonempty_dec]
      cases ed : s.drop k with
      | nil =>
        obtain ⟨h2, h3⟩ := tw_end hk (fun c t e2 => by rw [ed] at e2; cases e2)
        rw [h3] at hR
        exact iteF ⟨rfl, sb, hR⟩
      | cons c t =>
        rw [ed] at hR e
        refine iteT ⟨_, rfl, rd, dx, _, rfl, hH, rf_no (by decide +kernel) (by decide +kernel), rd, l, c :: t, rfl, hR, c, rfl, _, rfl, ite_b (fun hc => ?_) (fun hc => ?_)⟩
        · have hk2 := tw_more hk ed hc
          refine ⟨fun σ2 H2 => σ2 = [some (.ref rd), some (.int (p1.length : Int))] ∧ SameB rd H H2 ∧ RD a_ValueReader H2 rd l t, fun σ2 H2 hN => ?_, ?_⟩
          · obtain ⟨e2, sb2, r2⟩ := hN
            refine ⟨(s.takeWhile M84.wsg).length - (k + 1), by omega, k + 1, hk2, rfl, e2, sb2, ?_⟩
            have : s.drop (k + 1) = t := by rw [← List.drop_drop, ed]; rfl
            try dsimp only
            rw [this]
            exact r2
          · exact ⟨_, rfl, rd, _, dx, _, _, rfl, hH, T.cl_ValueReader, T.na_ValueReader_at, rf_at _ _, _, _, rfl, rfl, dx, _, hH, by rw [rf_eq]; show 2 < 1000; decide, rfl, sb.trans SameB.put, RD.step e hl⟩
        · obtain ⟨h2, h3⟩ := tw_end hk (fun c2 t2 e2 => by rw [ed] at e2; cases e2; exact hc)
          rw [← ed, h3] at hR
          exact ⟨rfl, sb, hR⟩
    obtain ⟨rfl, sb, hR⟩ := hm
    obtain ⟨dx, p, e, hl, hH⟩ := id hR
    refine ⟨_, rfl, rd, dx, _, rfl, hH, rf_no (by decide +kernel) (by decide +kernel), rd, l, _, 34, rfl, hR, fun t et H2 sb2 r2 => ?_, fun no d H2 nd sb2 e2 => ?_⟩
    · have hw : M84.pWord s = .ok (.str (s.takeWhile M84.wsg)) t := by
        unfold M84.pWord
        try dsimp only
        rw [et]
        rfl
      obtain ⟨dx2, p2, e2, hl2, h2⟩ := id r2
      refine ⟨_, rfl, rd, _, dx2, _, _, rfl, h2, T.cl_ValueReader, T.na_ValueReader_text, rf_text _ _, _, rfl, _, rfl, _, rfl, rd, _, dx2, _, _, rfl, h2, T.cl_ValueReader, T.na_ValueReader_at, rf_at _ _, _, _, rfl, rfl, _, rfl, .inl ⟨_, rfl, S_small (n := 0) (by omega), ?_⟩⟩
      have h12 : p1 ++ (s.takeWhile M84.wsg ++ 34 :: t) = p2 ++ t := by
        try dsimp only
        rw [← et, M84.take_drop_while, ← e1, e2]
      have hp2 : p2.length = p1.length + (s.takeWhile M84.wsg).length + 1 := by
        have := congrArg List.length h12
        simp only [List.length_append, List.length_cons] at this
        omega
      have hcut : cutS (S l) (some (p1.length : Int)) (some ((p2.length : Int) - 1)) = S (s.takeWhile M84.wsg) := by
        have h3 := S_mid l (a := p1.length) (b := p1.length + (s.takeWhile M84.wsg).length) (by rw [e1, List.length_append]; omega)
        try dsimp only
        rw [show ((p2.length : Int) - 1) = ((p1.length + (s.takeWhile M84.wsg).length : Nat) : Int) by omega, h3, e1, List.drop_left, Nat.add_sub_cancel_left, tw_take]
      show Q (V.str (cutS (S l) (some (p1.length : Int)) (some ((p2.length : Int) - 1)))) H2
      try dsimp only
      rw [hcut]
      exact hA1 _ _ hw _ H2 (sb.trans sb2) r2 rfl
    · have hw : M84.pWord s = .bad (s.dropWhile M84.wsg) := by
        unfold M84.pWord
        split
        · rename_i r er
          exact absurd er (no r)
        · rfl
      have hfree : H d = none := by
        cases ho : H d with
        | none => rfl
        | some o =>
          by_cases hdr : d = rd
          · rw [hdr, hH] at nd
            cases nd
          · rw [sb d o hdr ho] at nd
            cases nd
      exact hA2 _ hw d H2 hfree (sb.trans sb2) e2

theorem ok_ValueReader_number (T : Txt P K mg a_BeadError a_BadText a_Refused a_ValueReader) (c_ValueReader_is_at : Cm P w K mg base 2 a_ValueReader "is_at" "ValueReader.is_at" s_ValueReader_is_at [] ["self", "signs"] (sp_ValueReader_is_at a_ValueReader)) : Cm P w K mg base 3 a_ValueReader "number" "ValueReader.number" s_ValueReader_number [] ["self"] (sp_ValueReader_number K a_BadText a_ValueReader) := by
  have nd := sc_ValueReader_number.nd
  refine Cm.mk' T.d_ValueReader_number sc_ValueReader_number (fun vs H Q E h => ?_) (fun f cdv A outer s H vs Q E hr tk po h => ?_)
  · obtain ⟨_, _, _, _, rfl, _⟩ := h
    rfl
  · obtain ⟨rd, l, c, s, rfl, hR, hc, hA1, hA2⟩ := h
    obtain ⟨dx, p, e, hl, hH⟩ := id hR
    refine ⟨_, (pss_cons (ps_set (i := 1) nd rfl (.inl rfl) (pe_fld (pv 0) rfl))
      (Evl.pss_cut (ps_if (pt_val (pe_ym c_ValueReader_is_at b_ValueReader_is_at T.cl_ValueReader hr (by omega) takes0 (pv 0) (pa_cons pe_str pa_nil))) (pss_cons (ps_fldaug (pv 0) pe_int iop_add)
      (pss_one (ps_if (pt_not (pt_val (pe_ym c_ValueReader_is_at b_ValueReader_is_at T.cl_ValueReader hr (by omega) takes0 (pv 0) (pa_cons (pe_slice (r := rSlU K) sl_U (pe_gl T.g_NUMERALS (by rfl)) (po_some pe_int) po_none) pa_nil)))) (pss_one (ps_ret pe_non)) pss_nil))) pss_nil)
      (pss_cons (ps_set (i := 2) nd rfl (.inl rfl) (pe_fld (pv 0) rfl))
      (pss_cons (ps_if (pt_val (pe_ym c_ValueReader_is_at b_ValueReader_is_at T.cl_ValueReader hr (by omega) takes0 (pv 0) (pa_cons pe_str pa_nil))) (pss_cons (ps_fldaug (pv 0) pe_int iop_add)
      (pss_one (ps_ret pe_int))) pss_nil)
      (Evl.pss_cut (ps_while po (PW.pt (pw_and (pt_val (pe_ym c_ValueReader_is_at b_ValueReader_is_at T.cl_ValueReader hr (by omega) takes0 (pv 0) (pa_cons (pe_gl T.g_NUMERALS (by rfl)) pa_nil))) (pw_and1 (pt_cmpR op_lt (pe_fld (pv 0) rfl) (pe_op (r := rAddU K) op_addU (pv 2) (pe_gl T.g_MOST_NUMERALS (by rfl))) (nomark _))))) (pss_one (ps_fldaug (pv 0) pe_int iop_add)))
      (pss_one (ps_ret (pe_callTy call_int_str (by rfl) T.n_int (by decide +kernel) (pa_cons (pe_slice (r := rSlU K) sl_U (pe_fld (pv 0) rfl) (po_some (pv 1)) (po_some (pe_fld (pv 0) rfl))) pa_nil))))))))), ?_⟩
    refine ⟨_, rfl, rd, _, dx, _, _, rfl, hH, T.cl_ValueReader, T.na_ValueReader_at, rf_at _ _, ?_⟩
    refine ⟨fun σ' H' => σ' = [some (.ref rd), some (.int (p.length : Int)), none] ∧ SameB rd H H' ∧ ∃ sg t, c :: s = sg ++ t ∧ RD a_ValueReader H' rd l t ∧ ((sg = [45] ∧ M84.hd1 t = true) ∨ (sg = [] ∧ M84.hd0 t = true)), ?_, fun σ' H' hm => ?_⟩
    · refine ⟨_, rfl, rd, dx, _, rfl, hH, rf_no (by decide +kernel) (by decide +kernel), ?_⟩
      try dsimp only
      rw [sMi]
      refine ⟨rd, l, c :: s, [45], rfl, hR, _, rfl, ite_b (fun h1 => ?_) (fun h1 => ?_)⟩
      · obtain ⟨t, et⟩ := at1_yes h1
        cases et
        refine ⟨_, rfl, rd, _, dx, _, _, rfl, hH, T.cl_ValueReader, T.na_ValueReader_at, rf_at _ _, _, _, rfl, rfl, dx, _, hH, by rw [rf_eq]; show 2 < 1000; decide, ?_⟩
        have r2 := RD.step (C := a_ValueReader) (rd := rd) (dx := dx) (H := H) e hl
        obtain ⟨dx2, p2, e2, hl2, h2⟩ := id r2
        refine ⟨_, rfl, rd, dx2, _, rfl, h2, rf_no (by decide +kernel) (by decide +kernel), _, rfl, .inl ⟨_, rfl, S_small (n := 0) (by decide), ?_⟩⟩
        have hcut : cutS (S [48, 49, 50, 51, 52, 53, 54, 55, 56, 57]) (some (1 : Int)) none = S (NUM.drop 1) := S_from NUM 1
        try dsimp only
        rw [hcut]
        refine ⟨rd, l, s, NUM.drop 1, rfl, r2, _, rfl, ?_⟩
        try dsimp only
        rw [at1_num1]
        refine ite_b (fun h3 => ?_) (fun h3 => ?_)
        · have hw : M84.pNum (45 :: s) = .ok .non s := if_neg (by simpa using h3)
          exact hA1 _ _ hw _ _ SameB.put r2 rfl
        · exact ⟨rfl, SameB.put, [45], s, rfl, r2, .inl ⟨rfl, by simpa using h3⟩⟩
      · have h45 : c ≠ 45 := fun z => at1_no h1 s (by rw [z])
        exact ⟨rfl, SameB.refl _, [], c :: s, rfl, hR, .inr ⟨rfl, hc.resolve_left h45⟩⟩
    obtain ⟨rfl, sb, sg, t, et, r1, hsg⟩ := hm
    obtain ⟨dx1, p1, e1, hl1, h1⟩ := id r1
    have hp1 : p1 = p ++ sg := by
      have h3 : p ++ (sg ++ t) = p1 ++ t := by rw [← et, ← e, e1]
      rw [← List.append_assoc] at h3
      exact (List.append_cancel_right h3).symm
    refine ⟨_, rfl, rd, _, dx1, _, _, rfl, h1, T.cl_ValueReader, T.na_ValueReader_at, rf_at _ _, ?_⟩
    refine ⟨_, rfl, rd, dx1, _, rfl, h1, rf_no (by decide +kernel) (by decide +kernel), ?_⟩
    try dsimp only
    rw [s0]
    refine ⟨rd, l, t, [48], rfl, r1, _, rfl, ite_b (fun h0 => ?_) (fun h0 => ?_)⟩
    · obtain ⟨t', et'⟩ := at1_yes h0
      subst et'
      rcases hsg with ⟨_, h3⟩ | ⟨rfl, _⟩
      · cases h3
      cases et
      refine ⟨_, rfl, rd, _, dx1, _, _, rfl, h1, T.cl_ValueReader, T.na_ValueReader_at, rf_at _ _, _, _, rfl, rfl, dx1, _, h1, by rw [rf_eq]; show 2 < 1000; decide, ?_⟩
      exact hA1 (.int 0) _ rfl _ _ (sb.trans SameB.put) (RD.step e1 hl1) rfl
    refine ⟨fun σ' H2 => σ' = [some (.ref rd), some (.int (p.length : Int)), some (.int (p1.length : Int))] ∧ SameB rd H H2 ∧ RD a_ValueReader H2 rd l (t.drop (M84.digs t).length), ?_, fun σ' H2 hm => ?_⟩
    · refine ⟨fun m σ' H2 => ∃ k, k ≤ (M84.digs t).length ∧ m = (M84.digs t).length - k ∧ σ' = [some (.ref rd), some (.int (p.length : Int)), some (.int (p1.length : Int))] ∧ SameB rd H H2 ∧ RD a_ValueReader H2 rd l (t.drop k), ⟨_, 0, Nat.zero_le _, rfl, rfl, sb, r1⟩, fun m σ' H2 hw => ?_⟩
      obtain ⟨k, hk, rfl, rfl, sb, hR⟩ := hw
      obtain ⟨dx, p', e', hl, hH⟩ := id hR
      have hmd := more_digs hk
      have hkt : k ≤ t.length := by
        have h3 : (M84.digs t).length ≤ t.length := by
          have := congrArg List.length (M84.digs_app t)
          rw [List.length_append] at this
          omega
        omega
      have hp' : p'.length = p1.length + k := by
        have := congrArg List.length (e'.symm.trans e1)
        rw [List.length_append, List.length_append, List.length_drop] at this
        omega
      refine ⟨_, rfl, rd, dx, _, rfl, hH, rf_no (by decide +kernel) (by decide +kernel), rd, l, t.drop k, NUM, rfl, hR, _, rfl, ?_⟩
      try dsimp only
      rw [at1_num]
      have stop : ¬ (k < (M84.digs t).length) → RD a_ValueReader H2 rd l (t.drop (M84.digs t).length) := fun z => by
        have : k = (M84.digs t).length := by omega
        try dsimp only
        rw [← this]
        exact hR
      refine ite_b (fun h3 => ?_) (fun h3 => ?_)
      · refine ⟨_, rfl, rd, _, dx, _, _, rfl, hH, T.cl_ValueReader, T.na_ValueReader_at, rf_at _ _, _, rfl, .inl ⟨_, _, rfl, rfl, _, _, rfl, rfl, _, rfl, ite_b (fun h4 => ?_) (fun h4 => ?_)⟩⟩
        · have h5 : k < (M84.digs t).length := hmd.mp ⟨h3, by have := of_decide_eq_true h4; omega⟩
          cases ed : t.drop k with
          | nil =>
            rw [ed] at h3
            cases h3
          | cons c2 t2 =>
            rw [ed] at hR e'
            refine ⟨fun σ2 H3 => σ2 = [some (.ref rd), some (.int (p.length : Int)), some (.int (p1.length : Int))] ∧ SameB rd H H3 ∧ RD a_ValueReader H3 rd l t2, fun σ2 H3 hN => ?_, ?_⟩
            · obtain ⟨e2, sb2, r2⟩ := hN
              refine ⟨(M84.digs t).length - (k + 1), by omega, k + 1, by omega, rfl, e2, sb2, ?_⟩
              have : t.drop (k + 1) = t2 := by rw [← List.drop_drop, ed]; rfl
              try dsimp only
              rw [this]
              exact r2
            · exact ⟨_, rfl, rd, _, dx, _, _, rfl, hH, T.cl_ValueReader, T.na_ValueReader_at, rf_at _ _, _, _, rfl, rfl, dx, _, hH, by rw [rf_eq]; show 2 < 1000; decide, rfl, sb.trans SameB.put, RD.step e' hl⟩
        · exact ⟨rfl, sb, stop fun z => of_decide_eq_false h4 (by have := (hmd.mpr z).2; omega)⟩
      · exact ⟨rfl, sb, stop fun z => by rw [(hmd.mpr z).1] at h3; cases h3⟩
    obtain ⟨rfl, sb2, r2⟩ := hm
    obtain ⟨dx2, p2, e2, hl2, h2⟩ := id r2
    have hp2 : p2.length = p.length + (sg ++ M84.digs t).length := by
      have h3 := congrArg List.length (e2.symm.trans e1)
      have h4 := congrArg List.length (M84.digs_app t)
      rw [List.length_append] at h4
      rw [List.length_append, List.length_append, hp1, List.length_append] at h3
      try dsimp only
      rw [List.length_append]
      omega
    have hcut : cutS (S l) (some (p.length : Int)) (some (p2.length : Int)) = S (sg ++ M84.digs t) := by
      have h3 := S_mid l (a := p.length) (b := p2.length) (by rw [e, List.length_append]; omega)
      try dsimp only
      rw [h3, e, List.drop_left, hp2, Nat.add_sub_cancel_left, et]
      have h4 : sg ++ t = (sg ++ M84.digs t) ++ t.drop (M84.digs t).length := by rw [List.append_assoc, M84.digs_app]
      try dsimp only
      rw [h4, List.take_left]
    have hdl := M84.digs_len t
    have hsl : (sg ++ M84.digs t).length ≤ 101 := by
      try dsimp only
      rw [List.length_append]
      rcases hsg with ⟨rfl, _⟩ | ⟨rfl, _⟩
      · show 1 + _ ≤ 101
        omega
      · show 0 + _ ≤ 101
        omega
    have key : ∃ z : Int, PySem.intText? (S (sg ++ M84.digs t)) = some z ∧ M84.pNum (c :: s) = .ok (.int z) (t.drop (M84.digs t).length) := by
      rcases hsg with ⟨rfl, h3⟩ | ⟨rfl, h3⟩
      · obtain ⟨cd, rdg, ed, _⟩ := M84.digs_hd (M84.hd1_0 h3)
        refine ⟨_, PySem.intText_neg (cs := M84.digs t) rfl (M84.digs_all t) (by rw [ed]; exact List.cons_ne_nil _ _) (by rw [S_len]; omega), ?_⟩
        try dsimp only
        rw [et]
        exact if_pos h3
      · obtain ⟨cd, rdg, ed, eh⟩ := M84.digs_hd h3
        refine ⟨_, PySem.intText_digits (x := S ([] ++ M84.digs t)) (M84.digs_all t) (by rw [List.nil_append, S_cps, ed]; exact List.cons_ne_nil _ _) (by rw [S_len]; omega), ?_⟩
        have et2 : t = c :: s := et.symm
        subst et2
        have h9 : 49 ≤ c ∧ c ≤ 57 := by
          have h4 := of_decide_eq_true (show M84.dig c = true from h3)
          have h5 : c ≠ 48 := fun z => at1_no h0 s (by rw [z])
          omega
        exact M84.pNum_pos h9
    obtain ⟨z, hz, hw⟩ := key
    refine ⟨_, rfl, rd, _, dx2, _, _, rfl, h2, T.cl_ValueReader, T.na_ValueReader_text, rf_text _ _, _, rfl, _, rfl, _, rfl, rd, _, dx2, _, _, rfl, h2, T.cl_ValueReader, T.na_ValueReader_at, rf_at _ _, _, rfl, .inl ⟨_, rfl, S_small (n := 0) (by omega), ?_⟩⟩
    refine ⟨_, z, rfl, ?_, ?_, hA1 _ _ hw _ H2 sb2 r2 rfl⟩
    · try dsimp only
      rw [hcut]
      exact hz
    · try dsimp only
      rw [hcut, S_len]
      omega

theorem ok_ValueReader_parts {n : Nat} (T : Txt P K mg a_BeadError a_BadText a_Refused a_ValueReader) (c_ValueReader_need : Cm P w K mg base 2 a_ValueReader "need" "ValueReader.need" s_ValueReader_need [] ["self", "sign"] (sp_ValueReader_need a_BadText a_ValueReader)) (c_ValueReader_is_at : Cm P w K mg base 2 a_ValueReader "is_at" "ValueReader.is_at" s_ValueReader_is_at [] ["self", "signs"] (sp_ValueReader_is_at a_ValueReader)) (c_ValueReader_value : Cm P w K mg base (6 + 2 * n) a_ValueReader "value" "ValueReader.value" s_ValueReader_value [] ["self", "deep"] (sp_ValueReader_value K a_BadText a_ValueReader n)) : Cm P w K mg base (6 + 2 * n + 1) a_ValueReader "parts" "ValueReader.parts" s_ValueReader_parts [] ["self", "deep"] (sp_ValueReader_parts K a_BadText a_ValueReader n) := by
  have nd := sc_ValueReader_parts.nd
  refine Cm.mk' T.d_ValueReader_parts sc_ValueReader_parts (fun vs H Q E h => ?_) (fun f cdv A outer s H vs Q E hr tk po h => ?_)
  · obtain ⟨_, _, _, _, rfl, _⟩ := h
    rfl
  · obtain ⟨rd, l, s, d, rfl, hR, hd, hn, hA1, hA2⟩ := h
    obtain ⟨dx, p, e, hl, hH⟩ := id hR
    refine ⟨_, (pss_cons (ps_expr (pe_ym c_ValueReader_need b_ValueReader_need T.cl_ValueReader hr (by omega) tk (pv 0) (pa_cons pe_str pa_nil)))
      (pss_cons (ps_if (pt_val (pe_ym c_ValueReader_is_at b_ValueReader_is_at T.cl_ValueReader hr (by omega) takes0 (pv 0) (pa_cons pe_str pa_nil))) (pss_cons (ps_fldaug (pv 0) pe_int iop_add)
      (pss_one (ps_ret (pe_tupN pa_nil)))) pss_nil)
      (pss_cons (ps_set (i := 2) nd rfl (.inl rfl) (pe_lstN (pa_cons (pe_ym c_ValueReader_value b_ValueReader_value T.cl_ValueReader hr (by omega) tk (pv 0) (pa_cons (pe_op (r := rAddU K) op_addU (pv 1) pe_int) pa_nil)) pa_nil)))
      (Evl.pss_cut (ps_while po (pt_val (pe_ym c_ValueReader_is_at b_ValueReader_is_at T.cl_ValueReader hr (by omega) takes0 (pv 0) (pa_cons pe_str pa_nil))) (pss_cons (ps_fldaug (pv 0) pe_int iop_add)
      (pss_one (ps_expr (pe_bm PySem.F.plainAttrs_list PySem.F.slot_list_append PySem.F.type_list_append mt_append (pv 2) (pa_cons (pe_ym c_ValueReader_value b_ValueReader_value T.cl_ValueReader hr (by omega) tk (pv 0) (pa_cons (pe_op (r := rAddU K) op_addU (pv 1) pe_int) pa_nil)) pa_nil))))))
      (pss_cons (ps_expr (pe_ym c_ValueReader_need b_ValueReader_need T.cl_ValueReader hr (by omega) tk (pv 0) (pa_cons pe_str pa_nil)))
      (pss_one (ps_ret (pe_callTy (r := rTupleN K) cr_tupleN (by rfl) T.n_tuple (by decide +kernel) (pa_cons (pv 2) pa_nil))))))))), ?_⟩
    refine ⟨_, rfl, rd, dx, _, rfl, hH, rf_no (by decide +kernel) (by decide +kernel), ?_⟩
    try dsimp only
    rw [sOp]
    refine ⟨rd, l, 40 :: s, 40, rfl, hR, fun t et H1 sb1 r1 => ?_, fun no => absurd rfl (no s)⟩
    cases et
    obtain ⟨dx1, p1, e1, hl1, h1⟩ := id r1
    refine ⟨_, rfl, rd, dx1, _, rfl, h1, rf_no (by decide +kernel) (by decide +kernel), ?_⟩
    try dsimp only
    rw [sCl]
    refine ⟨rd, l, s, [41], rfl, r1, _, rfl, ite_b (fun h2 => ?_) (fun h2 => ?_)⟩
    · obtain ⟨t, rfl⟩ := at1_yes h2
      refine ⟨_, rfl, rd, _, dx1, _, _, rfl, h1, T.cl_ValueReader, T.na_ValueReader_at, rf_at _ _, _, _, rfl, rfl, dx1, _, h1, by rw [rf_eq]; show 2 < 1000; decide, ?_⟩
      refine ⟨by decide, fun q H3 nq s3 e3 => ?_⟩
      exact hA1 (.tup []) t rfl _ H3 ((sb1.trans SameB.put).trans (SameB.of s3)) (RD.same s3 (RD.step e1 hl1)) ⟨q, [], rfl, tup_of e3, rfl⟩
    have h41 := at1_no h2
    have hp : M84.parts (M84.pv (39 - d)) s = (match M84.pv (39 - d) s with | .ok v s' => M84.more (M84.pv (39 - d)) (s'.length + 1) [v] s' | .bad s' => .bad s') := by
      unfold M84.parts
      split
      · rename_i t2; exact absurd rfl (h41 t2)
      · rfl
    refine ⟨_, rfl, rd, dx1, _, rfl, h1, rf_no (by decide +kernel) (by decide +kernel), _, rfl, .inl ⟨_, _, rfl, rfl, ?_⟩⟩
    refine ⟨rd, l, s, d + 1, rfl, r1, by omega, by omega, fun v s' hw x H2 sb2 r2 iv => ?_, fun s' hw d2 H2 nd sb2 e2 => ?_⟩
    rotate_left
    · rw [show 40 - (d + 1) = 39 - d by omega] at hw
      rw [hw] at hp
      replace hp : M84.parts (M84.pv (39 - d)) s = .bad s' := hp
      exact hA2 s' hp d2 H2 (sb_free sb1 h1 nd) (sb1.trans sb2) e2
    rw [show 40 - (d + 1) = 39 - d by omega] at hw
    rw [hw] at hp
    replace hp : M84.parts (M84.pv (39 - d)) s = M84.more (M84.pv (39 - d)) (s'.length + 1) [v] s' := hp
    rw [hp] at hA1 hA2
    obtain ⟨ev, hV⟩ := M84.b_base hw
    refine ⟨by show 1 ≤ sizeLine; decide, fun fl H3 nfl s3 e3 => ?_⟩
    have sb3 : SameB rd H H3 := (sb1.trans sb2).trans (SameB.of s3)
    obtain ⟨dx2, p2, e2, hl2, h2'⟩ := id r2
    have nrd : rd ≠ fl := ne_of_none h2' nfl
    have hfl : H fl = none := sb_free (sb1.trans sb2) h2' nfl
    have small : s'.length + 1 ≤ 500000 := by
      have h5 := congrArg List.length ev
      have h6 := congrArg List.length e1
      simp only [List.length_append] at h5 h6
      obtain ⟨c1, t1, et1, _⟩ := M84.hd_txt hV
      rw [et1] at h5
      simp only [List.length_cons] at h5
      omega
    refine ⟨fun σ' H' => ∃ acc xs s2 f, s2.length < f + 1 ∧ M84.more (M84.pv (39 - d)) (s'.length + 1) [v] s' = M84.more (M84.pv (39 - d)) (f + 1) acc s2 ∧ (∀ t, s2 ≠ 32 :: t) ∧ σ' = [some (.ref rd), some (.int (d : Int)), some (.ref fl)] ∧ SameB rd H H' ∧ H' fl = some (.lst xs) ∧ IsVs K H' xs acc ∧ RD a_ValueReader H' rd l s2, ?_, fun σ' H' hm => ?_⟩
    · refine ⟨fun m σ' H' => ∃ acc xs s2 f, m = s2.length ∧ s2.length < f + 1 ∧ acc.length + s2.length ≤ 500000 ∧ M84.more (M84.pv (39 - d)) (s'.length + 1) [v] s' = M84.more (M84.pv (39 - d)) (f + 1) acc s2 ∧ M84.isVs (39 - d) acc = true ∧ σ' = [some (.ref rd), some (.int (d : Int)), some (.ref fl)] ∧ SameB rd H H' ∧ H' fl = some (.lst xs) ∧ IsVs K H' xs acc ∧ RD a_ValueReader H' rd l s2, ⟨_, [v], [x], s', s'.length, rfl, Nat.lt_succ_self _, by show 1 + s'.length ≤ 500000; omega, rfl, Bool.and_eq_true_iff.mpr ⟨hV, rfl⟩, rfl, sb3, e3, ⟨x, [], rfl, iv.same s3, rfl⟩, r2.same s3⟩, fun m σ' H' hw => ?_⟩
      obtain ⟨acc, xs, s2, f, rfl, hf, hsz, hm, hVa, rfl, sb, hfl', his, hR⟩ := hw
      obtain ⟨dx, p, e, hl, hH⟩ := id hR
      refine ⟨_, rfl, rd, dx, _, rfl, hH, rf_no (by decide +kernel) (by decide +kernel), ?_⟩
      try dsimp only
      rw [sSp]
      refine ⟨rd, l, s2, [32], rfl, hR, _, rfl, ite_b (fun h3 => ?_) (fun h3 => ?_)⟩
      · obtain ⟨t, rfl⟩ := at1_yes h3
        rw [List.length_cons] at hsz hf
        have hxl := vs_len his
        refine ⟨fun σ' H4 => ∃ acc xs s2 f, s2.length < (32 :: t).length ∧ s2.length < f + 1 ∧ acc.length + s2.length ≤ 500000 ∧ M84.more (M84.pv (39 - d)) (s'.length + 1) [v] s' = M84.more (M84.pv (39 - d)) (f + 1) acc s2 ∧ M84.isVs (39 - d) acc = true ∧ σ' = [some (.ref rd), some (.int (d : Int)), some (.ref fl)] ∧ SameB rd H H4 ∧ H4 fl = some (.lst xs) ∧ IsVs K H4 xs acc ∧ RD a_ValueReader H4 rd l s2, fun σ' H4 hN => ?_, ?_⟩
        · obtain ⟨acc2, xs2, s3, f2, h5, h6⟩ := hN
          exact ⟨_, h5, acc2, xs2, s3, f2, rfl, h6⟩
        have r3 := RD.step (C := a_ValueReader) (rd := rd) (dx := dx) (H := H') e hl
        have sb4 : SameB rd H' (upd H' rd (.ins a_ValueReader dx (putF "at" (.int ((p.length : Int) + 1)) (rf (W l) (.int (p.length : Int)))))) := SameB.put
        refine ⟨_, rfl, rd, _, dx, _, _, rfl, hH, T.cl_ValueReader, T.na_ValueReader_at, rf_at _ _, _, _, rfl, rfl, dx, _, hH, by rw [rf_eq]; show 2 < 1000; decide, ?_⟩
        have hfl4 := sb4 fl _ (Ne.symm nrd) hfl'
        have his4 := IsVs.keepB (not_ins hH) sb4 acc (39 - d) xs hVa his
        obtain ⟨dx3, p3, e3', hl3, hH3⟩ := id r3
        refine ⟨_, rfl, .inl ⟨rfl, _, lst_of hfl4⟩, _, rfl, rd, dx3, _, rfl, hH3, rf_no (by decide +kernel) (by decide +kernel), _, rfl, .inl ⟨_, _, rfl, rfl, ?_⟩⟩
        refine ⟨rd, l, t, d + 1, rfl, r3, by omega, by omega, fun v2 s3 hw2 x2 H5 sb5 r5 iv5 => ?_, fun s3 hw2 d2 H5 nd sb5 e5 => ?_⟩
        · rw [show 40 - (d + 1) = 39 - d by omega] at hw2
          obtain ⟨ev2, hV2⟩ := M84.b_base hw2
          have hlen2 : s3.length < t.length := by
            obtain ⟨c1, t1, et1, _⟩ := M84.hd_txt hV2
            have := congrArg List.length ev2
            rw [List.length_append, et1, List.length_cons] at this
            omega
          have hfl5 := sb5 fl _ (Ne.symm nrd) hfl4
          have his5 := IsVs.keepB (not_ins hH3) sb5 acc (39 - d) xs hVa his4
          refine ⟨fl, xs, x2, rfl, rfl, hfl5, Nat.lt_of_lt_of_le (show xs.length < 1000000 by omega) (by decide), ?_⟩
          obtain ⟨dx5, p5, e5', hl5, hH5⟩ := id r5
          have sb6 : SameB fl H5 (upd H5 fl (.lst (xs ++ [x2]))) := SameB.put
          cases f with
          | zero => omega
          | succ f =>
            refine ⟨acc ++ [v2], xs ++ [x2], s3, f, by rw [List.length_cons]; omega, by omega, by rw [List.length_append]; show acc.length + 1 + s3.length ≤ 500000; omega, ?_, by rw [M84.isVs_app, hVa]; exact Bool.and_eq_true_iff.mpr ⟨rfl, Bool.and_eq_true_iff.mpr ⟨hV2, rfl⟩⟩, rfl, ?_, upd_same, IsVs.snoc (IsV.keepB (not_lst hfl5) sb6 v2 (39 - d) x2 hV2 iv5) (IsVs.keepB (not_lst hfl5) sb6 acc (39 - d) xs hVa his5), RD.sameB nrd sb6 r5⟩
            · try dsimp only
              rw [hm]
              show (match M84.pv (39 - d) t with | .ok v s' => M84.more (M84.pv (39 - d)) (f + 1) (acc ++ [v]) s' | .bad s' => .bad s') = _
              try dsimp only
              rw [hw2]
            · exact ((sb.trans sb4).trans sb5).putN hfl
        · rw [show 40 - (d + 1) = 39 - d by omega] at hw2
          refine hA2 s3 ?_ d2 H5 (sb_free (sb.trans sb4) hH3 nd) ((sb.trans sb4).trans sb5) e5
          try dsimp only
          rw [hm]
          show (match M84.pv (39 - d) t with | .ok v s' => M84.more (M84.pv (39 - d)) f (acc ++ [v]) s' | .bad s' => .bad s') = _
          try dsimp only
          rw [hw2]
      · exact ⟨acc, xs, s2, f, hf, hm, at1_no h3, rfl, sb, hfl', his, hR⟩
    obtain ⟨acc, xs, s2, f, hf, hm, h32, rfl, sb, hfl', his, hR⟩ := hm
    obtain ⟨dx, p, e, hl, hH⟩ := id hR
    rw [hm] at hA1 hA2
    refine ⟨_, rfl, rd, dx, _, rfl, hH, rf_no (by decide +kernel) (by decide +kernel), ?_⟩
    refine ⟨rd, l, s2, 41, rfl, hR, fun t et H5 sb5 r5 => ?_, fun no d2 H5 nd sb5 e5 => ?_⟩
    · subst et
      have hfl5 := sb5 fl _ (Ne.symm nrd) hfl'
      have hVx : ∃ n2, M84.isVs n2 acc = true := by
        have h7 : M84.more (M84.pv (39 - d)) (f + 1) acc (41 :: t) = .ok (.tup acc) t := rfl
        rw [← hm, ← hp] at h7
        have h8 := M84.b_parts (n := 39 - d) (fun s v s' e => M84.b_base e) h7
        exact ⟨_, h8.2⟩
      obtain ⟨n2, hVa⟩ := hVx
      refine ⟨_, rfl, fl, xs, rfl, .inl (lst_of hfl5), fun q H6 s6 e6 => ?_⟩
      exact hA1 (.tup acc) t rfl _ H6 ((sb.trans sb5).trans (SameB.of s6)) (r5.same s6) ⟨q, xs, rfl, e6, IsVs.same s6 acc xs (IsVs.keepB (not_ins hH) sb5 acc n2 xs hVa his)⟩
    · refine hA2 s2 ?_ d2 H5 (sb_free sb hH nd) (sb.trans sb5) e5
      unfold M84.more
      split
      · rename_i t2; exact absurd rfl (h32 t2)
      · rename_i t2; exact absurd rfl (no t2)
      · rfl

theorem all_ValueReader_value (T : Txt P K mg a_BeadError a_BadText a_Refused a_ValueReader) (c_ValueReader_is_at : Cm P w K mg base 2 a_ValueReader "is_at" "ValueReader.is_at" s_ValueReader_is_at [] ["self", "signs"] (sp_ValueReader_is_at a_ValueReader)) (c_ValueReader_word : Cm P w K mg base 3 a_ValueReader "word" "ValueReader.word" s_ValueReader_word [] ["self"] (sp_ValueReader_word K a_BadText a_ValueReader)) (c_ValueReader_number : Cm P w K mg base 3 a_ValueReader "number" "ValueReader.number" s_ValueReader_number [] ["self"] (sp_ValueReader_number K a_BadText a_ValueReader)) (c_ValueReader_need : Cm P w K mg base 2 a_ValueReader "need" "ValueReader.need" s_ValueReader_need [] ["self", "sign"] (sp_ValueReader_need a_BadText a_ValueReader)) : ∀ n : Nat, Cm P w K mg base (6 + 2 * n) a_ValueReader "value" "ValueReader.value" s_ValueReader_value [] ["self", "deep"] (sp_ValueReader_value K a_BadText a_ValueReader n)
  | 0 => Cm.none T.d_ValueReader_value (fun vs H Q E h => by obtain ⟨_, _, _, d, _, _, h1, h2, _⟩ := h; omega)
  | n + 1 => by
    have c_ValueReader_value := all_ValueReader_value T c_ValueReader_is_at c_ValueReader_word c_ValueReader_number c_ValueReader_need n
    have c_ValueReader_parts : Cm P w K mg base (7 + 2 * n) a_ValueReader "parts" "ValueReader.parts" s_ValueReader_parts [] ["self", "deep"] (sp_ValueReader_parts K a_BadText a_ValueReader n) := (ok_ValueReader_parts T c_ValueReader_need c_ValueReader_is_at c_ValueReader_value).mono (by omega)
    exact (ok_ValueReader_value T c_ValueReader_is_at c_ValueReader_word c_ValueReader_parts c_ValueReader_number).mono (by omega)
theorem ok_read_value (T : Txt P K mg a_BeadError a_BadText a_Refused a_ValueReader) (c_is_text : Cy P w K mg base 1 "is_text" s_is_text [] ["value"] (sp_is_text K)) (c_ValueReader_init : Ci P w K mg base 1 a_ValueReader "ValueReader.__init__" s_ValueReader_init [] ["self", "text"] (sp_ValueReader_init a_ValueReader)) (c_ValueReader_value : Cm P w K mg base 88 a_ValueReader "value" "ValueReader.value" s_ValueReader_value [] ["self", "deep"] (sp_ValueReader_value K a_BadText a_ValueReader 41)) : Cy P w K mg base 100 "read_value" s_read_value [] ["text"] (sp_read_value K a_BadText) := by
  have nd := sc_read_value.nd
  refine Cy.mk' T.d_read_value sc_read_value (fun vs H Q E h => ?_) (fun f cdv A outer s H vs Q E hr tk po h => ?_)
  · obtain ⟨_, _, rfl, _⟩ := h
    rfl
  · obtain ⟨x, v, rfl, hv, q1, q2⟩ := h
    refine ⟨_, (pss_cons (ps_if (pt_not (pt_val (pe_y c_is_text b_is_text hr (by omega) (by rfl) takes0 (pa_cons (pv 0) pa_nil)))) (pss_one (ps_raise rfl tk (pmk_err (k := 0) T.e_BadText (hr.mono (by omega)) (by rfl) T.k_BadText (pa_cons (pe_un un_neg pe_int) pa_nil)))) pss_nil)
      (pss_cons (ps_set (i := 1) nd rfl (.inl rfl) (pe_yn c_ValueReader_init b_ValueReader_init hr (by omega) (by rfl) T.k_ValueReader takes0 (pa_cons (pv 0) pa_nil)))
      (pss_cons (ps_set (i := 2) nd rfl (.inl rfl) (pe_ym c_ValueReader_value b_ValueReader_value T.cl_ValueReader hr (by omega) tk (pv 1) (pa_cons pe_int pa_nil)))
      (pss_cons (ps_if (pt_cmpR op_lt (pe_fld (pv 1) rfl) (pe_callB (r := rLenU K) cr_lenU (by rfl) T.n_len (by decide +kernel) (pa_cons (pv 0) pa_nil)) (nomark _)) (pss_one (ps_raise rfl tk (pmk_err (k := 0) T.e_BadText (hr.mono (by omega)) (by rfl) T.k_BadText (pa_cons (pe_fld (pv 1) rfl) pa_nil)))) pss_nil)
      (pss_one (ps_ret (pv 2))))))), ?_⟩
    refine ⟨x, rfl, x, v, rfl, hv, _, rfl, ite_b (fun hc => ?_) (fun hc => ?_)⟩
    · have hb : isS v = false := by simpa using hc
      exact ⟨_, rfl, _, rfl, fun d H2 nd s2 e2 => q1 hb d H2 nd s2 e2⟩
    obtain ⟨l, rfl⟩ := v_str (show isS v = true by simpa using hc)
    cases hv
    obtain ⟨hl, q3, q4⟩ := q2 l rfl
    refine ⟨_, rfl, fun rd dx nrd ndx ne => ?_⟩
    have s1 : Same H (upd (upd H dx (.own rd)) rd (.ins a_ValueReader dx [])) := fun b o e => by
      try dsimp only
      rw [upd_ne (ne_of_none e nrd), upd_ne (ne_of_none e ndx)]
      exact e
    refine ⟨rd, dx, l, rfl, upd_same, hl, fun H1 sb1 r1 => ⟨rfl, ?_⟩⟩
    have s2 : ∀ {H2 : Hp}, SameB rd (upd (upd H dx (.own rd)) rd (.ins a_ValueReader dx [])) H2 → Same H H2 := fun {H2} sb b o e => sb b o (ne_of_none e nrd) (s1 b o e)
    obtain ⟨dx1, p1, e1, hl1, h1⟩ := id r1
    refine ⟨_, rfl, rd, dx1, _, rfl, h1, rf_no (by decide +kernel) (by decide +kernel), rd, l, l, 0, rfl, r1, by decide, by decide, fun v' s' hw x' H2 sb2 r2 iv => ?_, fun s' hw d H2 nd sb2 e2 => ?_⟩
    · have hst := M84.stop_pv l
      rw [show M84.pv 40 l = _ from hw] at hst
      replace hst : M84.stp .want 0 l = if s' = [] then none else some s' := hst
      obtain ⟨ev, hV⟩ := M84.b_base hw
      obtain ⟨dx2, p2, e2, hl2, h2⟩ := id r2
      refine ⟨_, rfl, rd, _, dx2, _, _, rfl, h2, T.cl_ValueReader, T.na_ValueReader_at, rf_at _ _, _, rfl, .inl ⟨_, rfl, S_small (n := 0) (by omega), _, _, rfl, rfl, _, rfl, ite_b (fun h5 => ?_) (fun h5 => ?_)⟩⟩
      · have hne : s' ≠ [] := by
          rintro rfl
          have h6 := of_decide_eq_true h5
          rw [S_len, e2, List.append_nil] at h6
          omega
        rw [if_neg hne] at hst
        refine ⟨_, rfl, rd, _, dx2, _, _, rfl, h2, T.cl_ValueReader, T.na_ValueReader_at, rf_at _ _, _, rfl, fun d H3 nd s3 e3 => ?_⟩
        refine q4 s' hst d H3 (free_of (s2 (sb1.trans sb2)) nd) ((s2 (sb1.trans sb2)).trans s3) ?_
        try dsimp only
        rw [pos_of e2]
        exact e3
      · have hs : s' = [] := by
          have h6 := of_decide_eq_false h5
          rw [S_len, e2, List.length_append] at h6
          exact List.length_eq_zero_iff.mp (by omega)
        subst hs
        rw [if_pos rfl] at hst
        rw [List.append_nil] at ev
        exact ⟨_, rfl, q3 hst v' ev hV x' H2 (s2 (sb1.trans sb2)) iv⟩
    · have hst := M84.stop_pv l
      rw [show M84.pv 40 l = _ from hw] at hst
      exact q4 s' hst d H2 (free_of (s2 sb1) (sb_free (SameB.refl _) h1 nd)) (s2 (sb1.trans sb2)) e2

theorem ok_law_dealt (T : Txt P K mg a_BeadError a_BadText a_Refused a_ValueReader) : Cy P w K mg base 1 "_law_dealt" s_law_dealt [] ["_law_script", "_law_base"] (sp_law_dealt K) := by
  have nd := sc_law_dealt.nd
  refine Cy.mk' T.d_law_dealt sc_law_dealt (fun vs H Q E h => ?_) (fun f cdv A outer s H vs Q E hr tk po h => ?_)
  · obtain ⟨_, _, rfl, _⟩ := h
    rfl
  · obtain ⟨s, ns, rfl, hs, q⟩ := h
    refine ⟨_, (pss_cons (ps_setLc (i := 2) (own := [("_law_cell", 3)]) (g := (gName 3)) (tt := tYes) rfl nd rfl rfl (sw_true rfl rfl rfl (by decide +kernel)) (pi_list (pe_slice (r := rSlU K) sl_U (pv 0) po_none (po_some pe_int))) (blkOk_by (by rfl)) (fun _ _ _ _ _ => (pg_name (i := 3) nd rfl (Or.inl rfl))) (fun _ _ _ _ _ => pts_nil) (fun _ _ _ _ _ => (pe_callB call_abs (by rfl) T.n_abs (by decide +kernel) (pa_cons (pe_callTy call_int1 (by rfl) T.n_int (by decide +kernel) (pa_cons (pv 3) pa_nil)) pa_nil))))
      (pss_cons (ps_set (i := 4) nd rfl (.inl rfl) (pe_op (r := rAddU K) op_addU pe_int (pe_op op_mulU pe_int (pv 1))))
      (pss_cons (ps_for po rfl (pi_list (pv 2)) (pg_name (i := 3) nd rfl (.inl rfl)) (pss_one (ps_set (i := 4) nd rfl (.inl rfl) (pe_op op_mod (pe_callTy call_int1 (by rfl) T.n_int (by decide +kernel) (pa_cons (pe_op (r := rAddU K) op_addU (pe_op (r := rAddU K) op_addU (pe_op op_mulU (pv 4) pe_int) (pe_op op_mod (pv 3) pe_int)) pe_int) pa_nil)) pe_int))))
      (pss_one (ps_ret (pe_lstN (pa_cons (pe_rev (pe_lc (own := [("_law_cell", 3)]) (g := (gName 3)) rfl nd (pi_list (pv 2)) (blkOk_by (by rfl)) (fun _ _ _ _ _ => (pg_name (i := 3) nd rfl (Or.inl rfl))) (fun _ _ _ _ _ => (pts_one (pt_cmpR op_ge (pv 3) (pe_op op_pow pe_int pe_int) (nomark _)))) (fun _ _ _ _ _ => (pv 3))) (po_some (pe_un un_neg pe_int))) (pa_cons (pv 4) pa_nil)))))))), ?_⟩
    refine ⟨_, rfl, _, rfl, .inr (.inl ⟨s, _, rfl, hs, fun p0 G0 np0 t0 g0 => ?_⟩)⟩
    have hcut : cutV (ns.map V.int) none (some (48 : Int)) = (ns.take 48).map V.int := by
      have := cutV_to (ns.map V.int) 48
      rw [← List.map_take] at this
      exact this
    rw [hcut] at g0
    have h48 : (ns.take 48).length ≤ 48 := by rw [List.length_take]; omega
    refine ⟨p0, rfl, ⟨_, lst_of g0⟩, fun Dl nD => lcP (n := ((ns.take 48).map V.int).length) (walk_list (xs := (ns.take 48).map V.int)) (fun i => some (.int (if (ns.take 48).getD i 0 < 0 then -(ns.take 48).getD i 0 else (ns.take 48).getD i 0))) nD (by rw [List.length_map]; omega) (fun _ s => s.seq (lst_of g0)) (fun i x H1 H' hi s y Ky Kn hy hn => ?_) (fun H2 s2 e2 => ?_)⟩
    · obtain ⟨rfl, ex⟩ := y
      rw [List.getElem?_map] at ex
      obtain ⟨z, ez, rfl⟩ := Option.map_eq_some_iff.mp ex
      refine ⟨rfl, yes ⟨_, rfl, .inl ⟨_, rfl, z, rfl, hy _ _ (Same.refl _) ?_⟩⟩⟩
      try dsimp only
      rw [List.getD_eq_getElem?_getD, ez]
      rfl
    obtain ⟨cs, hcs⟩ : ∃ cs, cs = (ns.take 48).map (fun z : Int => if z < 0 then -z else z) := ⟨_, rfl⟩
    have e3 : H2 Dl = some (.lst (cs.map V.int)) := by
      try dsimp only
      rw [e2, fm_map, List.length_map, hcs, List.map_map]
      exact congrArg (fun z => some (HO.lst z)) (range_map_list (ns.take 48) 0 (fun z : Int => V.int (if z < 0 then -z else z)))
    have hc0 : ∀ c ∈ cs, 0 ≤ c := by
      intro c hc
      rw [hcs] at hc
      obtain ⟨z, _, rfl⟩ := List.mem_map.mp hc
      split <;> omega
    have hcl : cs.length ≤ 48 := by rw [hcs, List.length_map]; exact h48
    have s3 : Same H H2 := t0.trans s2
    refine ⟨_, rfl, .inl ⟨_, _, rfl, rfl, mulOk_l (by decide), .inl ⟨_, _, rfl, rfl, ?_⟩⟩⟩
    refine ⟨_, rfl, Dl, rfl, ⟨_, lst_of e3⟩, for_list (K := K) (a := Dl) (xs := cs.map V.int) (fun i σ H' => ∃ (z : Int) (c : Option V), σ = [some (.ref s), some (.int 84), some (.ref Dl), c, some (.int z)] ∧ H' = H2 ∧ 0 ≤ z ∧ z < 2 ^ 40)
      ⟨_, none, rfl, rfl, by decide, by decide⟩ (fun i σ H' _ ⟨_, _, _, e, _⟩ => by rw [e]; exact lst_of e3) ?_ ?_⟩
    · rintro i x σ H' hi ⟨z, c, rfl, rfl, hz0, hz1⟩
      rw [List.getElem?_map] at hi
      obtain ⟨k, ek, rfl⟩ := Option.map_eq_some_iff.mp hi
      have r1 := Int.emod_nonneg k (show (2147483587 : Int) ≠ 0 by decide)
      have r2 := Int.emod_lt_of_pos k (show (0 : Int) < 2147483587 by decide)
      have r3 := Int.emod_nonneg (z * 52981 + k % 2147483587 + 17) (show (2147483629 : Int) ≠ 0 by decide)
      have r4 := Int.emod_lt_of_pos (z * 52981 + k % 2147483587 + 17) (show (0 : Int) < 2147483629 by decide)
      exact ⟨_, rfl, .inl ⟨_, _, rfl, rfl, mulOk_l (by omega), _, rfl, _, _, rfl, rfl, (by first | decide | (dsimp only; decide)), .inl ⟨_, _, rfl, rfl, .inl ⟨_, _, rfl, rfl, .inl ⟨_, rfl, _, _, rfl, rfl, (by first | decide | (dsimp only; decide)), _, _, rfl, rfl, r3, by omega⟩⟩⟩⟩⟩
    rintro σ H' ⟨z, c, rfl, rfl, hz0, hz1⟩
    refine ⟨_, rfl, Dl, rfl, ⟨_, lst_of e3⟩, fun D2 nD2 => lcP (n := (cs.map V.int).length) (walk_list (xs := cs.map V.int)) (fun i => if (decide (10 ^ 18 ≤ cs.getD i 0)) = true then some (.int (cs.getD i 0)) else none) nD2 (by rw [List.length_map]; omega) (fun _ s => s.seq (lst_of e3)) (fun i x H1 H3 hi s y Ky Kn hy hn => ?_) (fun H3 s4 e4 => ?_)⟩
    · obtain ⟨rfl, ex⟩ := y
      rw [List.getElem?_map] at ex
      obtain ⟨k, ek, rfl⟩ := Option.map_eq_some_iff.mp ex
      have hk : cs.getD i 0 = k := by rw [List.getD_eq_getElem?_getD, ek]; rfl
      refine ⟨rfl, _, rfl, _, _, rfl, rfl, ⟨by decide, by decide, by decide⟩, _, _, rfl, rfl, _, rfl, ite_b (fun hc => ⟨_, rfl, hy _ _ (Same.refl _) ?_⟩) (fun hc => hn _ (Same.refl _) ?_)⟩
      · try dsimp only
        rw [hk, if_pos (show decide (10 ^ 18 ≤ k) = true from hc)]
      · try dsimp only
        rw [hk, if_neg (by rw [show decide (10 ^ 18 ≤ k) = false from hc]; decide)]
    have e5 : H3 D2 = some (.lst ((cs.filter fun c => decide (10 ^ 18 ≤ c)).map V.int)) := by
      try dsimp only
      rw [e4, List.length_map]
      exact congrArg (fun z => some (HO.lst z)) (fm_if (fun c : Int => decide (10 ^ 18 ≤ c)) V.int 0 cs)
    refine ⟨_, rfl, _, rfl, D2, _, rfl, rfl, lst_of e5, fun p1 H4 np1 s5 e6 => ⟨_, rfl, small1m (by show 2 ≤ 1000000; decide), fun b H5 nb s6 e7 => ?_⟩⟩
    have sall : Same H H4 := ((s3.trans s4).trans s5)
    refine q H5 b p1 (sall.trans s6) (free_of sall nb) (free_of (s3.trans s4) np1) ⟨(cs.filter fun c => decide (10 ^ 18 ≤ c)).reverse, z, ?_, e7, ?_, ?_, ?_, hz0, hz1⟩
    · rintro rfl
      rw [e6] at nb
      cases nb
    · have := s6 _ _ e6
      rw [← List.map_reverse] at this
      exact this
    · intro c hc
      exact hc0 c (List.mem_filter.mp (List.mem_reverse.mp hc)).1
    · have := List.length_filter_le (fun c : Int => decide (10 ^ 18 ≤ c)) cs
      try dsimp only
      rw [List.length_reverse]
      omega

theorem ok_law_any (T : Txt P K mg a_BeadError a_BadText a_Refused a_ValueReader) : Cy P w K mg base 1 "_law_any" s_law_any [] ["_law_deal", "_law_bound"] sp_law_any := by
  have nd := sc_law_any.nd
  refine Cy.mk' T.d_law_any sc_law_any (fun vs H Q E h => ?_) (fun f cdv A outer s H vs Q E hr tk po h => ?_)
  · obtain ⟨_, _, _, rfl, _⟩ := h
    rfl
  · obtain ⟨b, p, m, rfl, hm0, hm1, hD, q⟩ := h
    refine ⟨_, (Evl.pss_cut (ps_while po (PW.pt (pw_and (pt_cmpR (r := rNeU K) (op_neU hr.units) (pe_ix (r := rIx K) ix_seq (pv 0) pe_int (fun _ _ => rfl)) (pe_lstN pa_nil) (nomark _)) (pw_and1 (pt_cmpR (r := rEqU K) (op_eqU hr.units) (pe_ix (r := rIx K) ix_seq (pe_ix (r := rIx K) ix_seq (pv 0) pe_int (fun _ _ => rfl)) (pe_un un_neg pe_int) (fun _ _ => rfl)) pe_int (nomark _))))) (pss_one (ps_expr (pe_bm0 PySem.F.plainAttrs_list PySem.F.slot_list_pop PySem.F.type_list_pop mt_pop (pe_ix (r := rIx K) ix_seq (pv 0) pe_int (fun _ _ => rfl))))))
      (pss_cons (ps_if (pt_cmpR (r := rNeU K) (op_neU hr.units) (pe_ix (r := rIx K) ix_seq (pv 0) pe_int (fun _ _ => rfl)) (pe_lstN pa_nil) (nomark _)) (pss_cons (ps_set (i := 2) nd rfl (.inl rfl) (pe_callTy call_int1 (by rfl) T.n_int (by decide +kernel) (pa_cons (pe_bm0 PySem.F.plainAttrs_list PySem.F.slot_list_pop PySem.F.type_list_pop mt_pop (pe_ix (r := rIx K) ix_seq (pv 0) pe_int (fun _ _ => rfl))) pa_nil)))
      (pss_cons (ps_expr (pe_bm PySem.F.plainAttrs_list PySem.F.slot_list_append PySem.F.type_list_append mt_append (pe_ix (r := rIx K) ix_seq (pv 0) pe_int (fun _ _ => rfl)) (pa_cons (pe_op op_fdivW (pv 2) (pv 1)) pa_nil)))
      (pss_one (ps_ret (pe_op op_mod (pe_callTy call_int1 (by rfl) T.n_int (by decide +kernel) (pa_cons (pv 2) pa_nil)) (pv 1)))))) pss_nil)
      (pss_cons (ps_asg (pe_op op_mod (pe_callTy call_int1 (by rfl) T.n_int (by decide +kernel) (pa_cons (pe_op (r := rAddU K) op_addU (pe_op op_mulU (pe_ix (r := rIx K) ix_seq (pv 0) pe_int (fun _ _ => rfl)) pe_int) pe_int) pa_nil)) pe_int) (pg_sub (pv 0) pe_int set_list))
      (pss_one (ps_ret (pe_op op_mod (pe_callTy call_int1 (by rfl) T.n_int (by decide +kernel) (pa_cons (pe_op op_fdivW (pe_ix (r := rIx K) ix_seq (pv 0) pe_int (fun _ _ => rfl)) pe_int) pa_nil)) (pv 1))))))), ?_⟩
    refine ⟨fun σ' H' => σ' = [some (.ref b), some (.int m), none] ∧ DrD b p H H', ?_, fun σ' H' hm => ?_⟩
    · refine ⟨fun k σ' H' => ∃ (gs : List Int) (z : Int), k = gs.length ∧ σ' = [some (.ref b), some (.int m), none] ∧ SameD b p H H' ∧ b ≠ p ∧ H' b = some (.lst [.ref p, .int z]) ∧ H' p = some (.lst (gs.map V.int)) ∧ (∀ g ∈ gs, 0 ≤ g) ∧ gs.length ≤ 100 ∧ 0 ≤ z ∧ z < 2 ^ 40, ?_, fun k σ' H' hw => ?_⟩
      · obtain ⟨gs, z, h⟩ := hD
        exact ⟨_, gs, z, rfl, rfl, SameD.refl _, h⟩
      obtain ⟨gs, z, rfl, rfl, sd, hne, eb, ep, hg, hl, hz⟩ := hw
      refine ⟨_, rfl, .inl ⟨b, _, 0, _, rfl, rfl, lst_of eb, rfl, by decide, fun q H1 nq s1 e1 => ne_nil (lst_of (s1 _ _ ep)) (lst_of e1) ⟨_, rfl, ?_⟩⟩⟩
      have eb1 := s1 _ _ eb
      have ep1 := s1 _ _ ep
      rcases List.eq_nil_or_concat gs with rfl | ⟨gi, x, rfl⟩
      · exact iteF ⟨rfl, sd.trans (.of s1), [], z, hne, eb1, ep1, hg, hl, hz⟩
      rw [List.concat_eq_append] at *
      try dsimp only
      rw [show (!(gi ++ [x]).isEmpty) = true by cases gi <;> rfl]
      refine iteT ⟨_, rfl, .inl ⟨b, _, 0, _, rfl, rfl, lst_of eb1, rfl, _, rfl, .inl ⟨p, _, -1, _, rfl, rfl, lst_of ep1, at_last gi x, .inl ⟨rfl, _, rfl, ite_b (fun hc => ?_) (fun hc => ?_)⟩⟩⟩⟩
      · refine ⟨fun σ2 H2 => σ2 = [some (.ref b), some (.int m), none] ∧ SameD b p H H2 ∧ H2 b = some (.lst [.ref p, .int z]) ∧ H2 p = some (.lst (gi.map V.int)), fun σ2 H2 hN => ?_, ?_⟩
        · obtain ⟨e2, sd2, eb2, ep2⟩ := hN
          rw [List.length_append, List.length_singleton] at hl
          exact ⟨gi.length, by rw [List.length_append, List.length_singleton]; omega, gi, z, rfl, e2, sd2, hne, eb2, ep2, fun g hgm => hg g (List.mem_append_left _ hgm), by omega, hz⟩
        · refine ⟨_, rfl, .inl ⟨b, _, 0, _, rfl, rfl, lst_of eb1, rfl, .inl ⟨rfl, _, lst_of ep1⟩, p, _, _, rfl, rfl, ep1, pop_at gi x, rfl, (sd.trans (.of s1)).trans SameD.putP, ?_, ?_⟩⟩
          · try dsimp only
            rw [upd_ne hne]
            exact eb1
          · try dsimp only
            rw [upd_same, pop_left]
      · exact ⟨rfl, sd.trans (.of s1), gi ++ [x], z, hne, eb1, ep1, hg, hl, hz⟩
    obtain ⟨rfl, sd, gs, z, hne, eb, ep, hg, hl, hz0, hz1⟩ := hm
    refine ⟨_, rfl, .inl ⟨b, _, 0, _, rfl, rfl, lst_of eb, rfl, by decide, fun q1 H1 nq s1 e1 => ne_nil (lst_of (s1 _ _ ep)) (lst_of e1) ⟨_, rfl, ?_⟩⟩⟩
    have eb1 := s1 _ _ eb
    have ep1 := s1 _ _ ep
    have sd1 : SameD b p H H1 := sd.trans (.of s1)
    rcases List.eq_nil_or_concat gs with rfl | ⟨gi, x, rfl⟩
    · have r1 := Int.emod_nonneg (z * 52981 + 17) (show (2147483629 : Int) ≠ 0 by decide)
      have r2 := Int.emod_lt_of_pos (z * 52981 + 17) (show (0 : Int) < 2147483629 by decide)
      refine iteF ⟨_, rfl, .inl ⟨b, _, 1, _, rfl, rfl, lst_of eb1, rfl, .inl ⟨_, _, rfl, rfl, mulOk_l (by omega), .inl ⟨_, _, rfl, rfl, .inl ⟨_, rfl, _, _, rfl, rfl, (by first | decide | (dsimp only; decide)), ?_⟩⟩⟩⟩⟩
      refine ⟨_, rfl, b, _, 1, 1, rfl, rfl, eb1, rfl, ?_⟩
      have h1 := Int.emod_nonneg (((z * 52981 + 17) % 2147483629) / 128) (show m ≠ 0 by omega)
      have h2 := Int.emod_lt_of_pos (((z * 52981 + 17) % 2147483629) / 128) hm0
      exact ⟨_, rfl, .inl ⟨b, _, 1, _, rfl, rfl, lst_of upd_same, rfl, _, _, rfl, rfl, divW (by decide) (by decide), .inl ⟨_, rfl, _, rfl, _, _, rfl, rfl, hm0, q _ _ ⟨sd1.trans SameD.putB, [], _, hne, upd_same, (upd_ne (Ne.symm hne)).trans ep1, hg, hl, r1, by omega⟩ h1 h2⟩⟩⟩
    rw [List.concat_eq_append] at *
    try dsimp only
    rw [show (!(gi ++ [x]).isEmpty) = true by cases gi <;> rfl]
    have hx : 0 ≤ x := hg x (List.mem_append_right _ (List.mem_singleton.mpr rfl))
    have h1 := Int.emod_nonneg x (show m ≠ 0 by omega)
    have h2 := Int.emod_lt_of_pos x hm0
    have h3 : 0 ≤ x / m := Int.ediv_nonneg hx (by omega)
    rw [List.length_append, List.length_singleton] at hl
    refine iteT ⟨_, rfl, .inl ⟨b, _, 0, _, rfl, rfl, lst_of eb1, rfl, .inl ⟨rfl, _, lst_of ep1⟩, p, _, _, rfl, rfl, ep1, pop_at gi x, .inl ⟨_, rfl, ?_⟩⟩⟩
    have eb2 : (upd H1 p (.lst ((gi ++ [x]).map V.int).dropLast)) b = some (.lst [.ref p, .int z]) := by
      try dsimp only
      rw [upd_ne hne]
      exact eb1
    have ep2 : (upd H1 p (.lst ((gi ++ [x]).map V.int).dropLast)) p = some (.lst (gi.map V.int)) := by
      try dsimp only
      rw [upd_same, pop_left]
    refine ⟨_, rfl, .inl ⟨b, _, 0, _, rfl, rfl, lst_of eb2, rfl, .inl ⟨rfl, _, lst_of ep2⟩, _, rfl, _, rfl, _, _, rfl, rfl, divW hm0 hm1, p, _, _, rfl, rfl, ep2, ?_, ?_⟩⟩
    · try dsimp only
      rw [List.length_map]
      exact Nat.lt_of_lt_of_le (show gi.length < 1000 by omega) (by decide)
    refine ⟨_, rfl, .inl ⟨_, rfl, _, rfl, _, _, rfl, rfl, hm0, q _ _ ⟨(sd1.trans SameD.putP).trans SameD.putP, gi ++ [x / m], z, hne, ?_, ?_, ?_, ?_, hz0, hz1⟩ h1 h2⟩⟩
    · try dsimp only
      rw [upd_ne hne]
      exact eb2
    · try dsimp only
      rw [upd_same, List.map_append]
      rfl
    · intro g hgm
      rcases List.mem_append.mp hgm with e | e
      · exact hg g (List.mem_append_left _ e)
      · try dsimp only
        rw [List.mem_singleton.mp e]
        exact h3
    · try dsimp only
      rw [List.length_append, List.length_singleton]
      exact hl

theorem ok_law_of (T : Txt P K mg a_BeadError a_BadText a_Refused a_ValueReader) (c_law_any : Cy P w K mg base 1 "_law_any" s_law_any [] ["_law_deal", "_law_bound"] sp_law_any) : Cy P w K mg base 2 "_law_of" s_law_of [] ["_law_deal", "_law_some"] (sp_law_of K) := by
  have nd := sc_law_of.nd
  refine Cy.mk' T.d_law_of sc_law_of (fun vs H Q E h => ?_) (fun f cdv A outer s H vs Q E hr tk po h => ?_)
  · obtain ⟨_, _, _, rfl, _⟩ := h
    rfl
  · obtain ⟨b, p, y, rfl, hD, h⟩ := h
    refine ⟨_, (pss_one (ps_ret (pe_ix (r := rIx K) ix_seq (pv 1) (pe_y c_law_any b_law_any hr (by omega) (by rfl) takes0 (pa_cons (pv 0) (pa_cons (pe_callB (r := rLenU K) cr_lenU (by rfl) T.n_len (by decide +kernel) (pa_cons (pv 1) pa_nil)) pa_nil))) (fun _ _ => rfl)))), ?_⟩
    rcases h with ⟨l, xs, rfl, hb, hp, hl, h0, h1, q⟩ | ⟨l, rfl, h0, h1, q⟩
    · refine ⟨_, rfl, _, rfl, _, rfl, .inr ⟨l, xs, rfl, .inl hl, b, p, _, rfl, by omega, by omega, hD, fun H1 r d r0 r1 => .inl ⟨l, xs, r, xs[r.toNat], rfl, rfl, ?_, ?_, q _ _ d (List.getElem_mem _)⟩⟩⟩
      · rcases hl with (z | ⟨o, z⟩) | z
        · exact .inl (.inl (d.1 _ _ hb hp z))
        · exact .inl (.inr ⟨o, d.1 _ _ hb hp z⟩)
        · exact .inr z
      · exact at_of (j := r.toNat) (by omega) (List.getElem?_eq_getElem (by omega))
    · refine ⟨_, rfl, _, rfl, _, rfl, .inl ⟨_, rfl, S_small (n := 0) (by omega), b, p, _, rfl, by rw [S_len]; omega, by rw [S_len]; omega, hD, fun H1 r d r0 r1 => .inr (.inr ⟨_, r, l.getD r.toNat 0, rfl, rfl, S_small (n := 0) (by omega), ?_, q _ _ d ?_⟩)⟩⟩
      · rw [S_len] at r1
        have := S_at (l := l) (k := r.toNat) (by omega)
        rw [Int.toNat_of_nonneg r0] at this
        exact this
      · rw [S_len] at r1
        try dsimp only
        rw [List.getD_eq_getElem?_getD, List.getElem?_eq_getElem (by omega)]
        exact List.getElem_mem _

theorem ok_law_signs (T : Txt P K mg a_BeadError a_BadText a_Refused a_ValueReader) : Cy P w K mg base 1 "_law_signs" s_law_signs [] [] sp_law_signs := by
  have nd := sc_law_signs.nd
  refine Cy.mk' T.d_law_signs sc_law_signs (fun vs H Q E h => ?_) (fun f cdv A outer s H vs Q E hr tk po h => ?_)
  · obtain ⟨rfl, _⟩ := h
    rfl
  · obtain ⟨rfl, q⟩ := h
    refine ⟨_, (pss_cons (ps_set (i := 0) nd rfl (.inl rfl) pe_str)
      (pss_one (ps_ret (pe_op (r := rAddU K) op_addU (pe_op (r := rAddU K) op_addU (pe_op (r := rAddU K) op_addU (pv 0) pe_str) pe_str) pe_str)))), ?_⟩
    refine ⟨_, rfl, .inr (.inl ⟨_, _, rfl, rfl, ?_, .inr (.inl ⟨_, _, rfl, rfl, ?_, .inr (.inl ⟨_, _, rfl, rfl, ?_, ?_⟩)⟩)⟩)⟩
    · try dsimp only
      rw [sFew, sAlp]
      exact small1m (by decide)
    · try dsimp only
      rw [sFew, sAlp, sBs, S_app]
      exact small1m (by decide)
    · try dsimp only
      rw [sFew, sAlp, sBs, sBt, S_app, S_app]
      exact small1m (by decide)
    · try dsimp only
      rw [sFew, sAlp, sBs, sBt, S_app, S_app, S_app]
      exact q

theorem ok_law_number (T : Txt P K mg a_BeadError a_BadText a_Refused a_ValueReader) (c_law_any : Cy P w K mg base 1 "_law_any" s_law_any [] ["_law_deal", "_law_bound"] sp_law_any) (c_law_of : Cy P w K mg base 2 "_law_of" s_law_of [] ["_law_deal", "_law_some"] (sp_law_of K)) : Cy P w K mg base 3 "_law_number" s_law_number [] ["_law_deal"] sp_law_number := by
  have nd := sc_law_number.nd
  refine Cy.mk' T.d_law_number sc_law_number (fun vs H Q E h => ?_) (fun f cdv A outer s H vs Q E hr tk po h => ?_)
  · obtain ⟨_, _, rfl, _⟩ := h
    rfl
  · obtain ⟨b, p, rfl, hD, q⟩ := h
    refine ⟨_, (pss_cons (ps_set (i := 1) nd rfl (.inl rfl) (pe_y c_law_any b_law_any hr (by omega) (by rfl) takes0 (pa_cons (pv 0) (pa_cons pe_int pa_nil))))
      (pss_cons (ps_if (pt_cmpR op_lt (pv 1) pe_int (nomark _)) (pss_one (ps_ret (pe_op op_sub (pe_y c_law_any b_law_any hr (by omega) (by rfl) takes0 (pa_cons (pv 0) (pa_cons pe_int pa_nil))) pe_int))) pss_nil)
      (pss_cons (ps_if (pt_cmpR (r := rEqU K) (op_eqU hr.units) (pv 1) pe_int (nomark _)) (pss_one (ps_ret (pe_y c_law_of b_law_of hr (by omega) (by rfl) takes0 (pa_cons (pv 0) (pa_cons (pe_lstN (pa_cons pe_int (pa_cons pe_int (pa_cons pe_int (pa_cons (pe_un un_neg pe_int) (pa_cons pe_int (pa_cons pe_int (pa_cons (pe_un un_neg pe_int) (pa_cons pe_int (pa_cons (pe_op op_pow pe_int pe_int) (pa_cons (pe_un un_neg (pe_op op_pow pe_int pe_int)) pa_nil))))))))))) pa_nil))))) pss_nil)
      (pss_cons (ps_if (pt_cmpR (r := rEqU K) (op_eqU hr.units) (pv 1) pe_int (nomark _)) (pss_one (ps_ret (pe_op op_mulU (pe_y c_law_of b_law_of hr (by omega) (by rfl) takes0 (pa_cons (pv 0) (pa_cons (pe_lstN (pa_cons pe_int (pa_cons (pe_un un_neg pe_int) pa_nil))) pa_nil))) (pe_op op_sub (pe_op op_sub (pe_op op_mulU (pe_op op_pow pe_int pe_int) (pe_op op_pow pe_int pe_int)) pe_int) (pe_y c_law_any b_law_any hr (by omega) (by rfl) takes0 (pa_cons (pv 0) (pa_cons pe_int pa_nil))))))) pss_nil)
      (pss_one (ps_ret (pe_op op_mulU (pe_op op_mulU (pe_y c_law_of b_law_of hr (by omega) (by rfl) takes0 (pa_cons (pv 0) (pa_cons (pe_lstN (pa_cons pe_int (pa_cons (pe_un un_neg pe_int) pa_nil))) pa_nil))) (pe_op (r := rAddU K) op_addU (pe_op op_mulU (pe_op op_pow pe_int pe_int) (pe_op op_pow pe_int pe_int)) (pe_y c_law_any b_law_any hr (by omega) (by rfl) takes0 (pa_cons (pv 0) (pa_cons (pe_op op_pow pe_int pe_int) pa_nil))))) (pe_op (r := rAddU K) op_addU pe_int (pe_y c_law_any b_law_any hr (by omega) (by rfl) takes0 (pa_cons (pv 0) (pa_cons pe_int pa_nil))))))))))), ?_⟩
    refine ⟨_, rfl, b, p, 6, rfl, by decide, by decide, hD, fun H1 r d r0 r1 => ?_⟩
    refine ⟨_, rfl, _, _, rfl, rfl, _, rfl, ite_b (fun hc => ?_) (fun hc => ?_)⟩
    · exact ⟨_, rfl, b, p, 40, rfl, by decide, by decide, d.2, fun H2 r2 d2 r20 r21 => ⟨_, _, rfl, rfl, q _ _ (d.trans d2) (Nat.lt_of_le_of_lt (show (r2 - 12 : Int).natAbs ≤ 1000 by omega) (by decide +kernel))⟩⟩
    refine ⟨_, rfl, .inl ⟨rfl, _, rfl, ite_b (fun hc => ?_) (fun hc => ?_)⟩⟩
    · refine ⟨_, rfl, _, rfl, _, rfl, _, _, rfl, rfl, ⟨by decide, by decide, by decide⟩, _, _, rfl, rfl, ⟨by decide, by decide, by decide⟩, _, rfl, small1m (by show 10 ≤ 1000000; decide), fun l H2 nl s2 e2 => ?_⟩
      have d2 := d.then s2
      obtain ⟨n1, n2⟩ := d.2.new_ne nl
      refine ⟨b, p, _, rfl, d2.2, .inl ⟨l, _, rfl, n1, n2, lst_of e2, by show 0 < 10; decide, by show 10 ≤ 1000; decide, fun H3 x d3 hx => ?_⟩⟩
      simp only [List.mem_cons, List.not_mem_nil, or_false] at hx
      rcases hx with rfl | rfl | rfl | rfl | rfl | rfl | rfl | rfl | rfl | rfl <;> exact q _ _ (d2.trans d3) (by decide +kernel)
    have sgn : ∀ (H1 : Hp) (Q2 : VK), DrD b p H H1 → (∀ (H3 : Hp) (x : Int), DrD b p H H3 → (x = 1 ∨ x = -1) → Q2 (.int x) H3) → NewO H1 (.lst [.int 1, .int (-1)]) (fun l H2 => sp_law_of K [.ref b, l] H2 Q2 (fun _ _ _ => False)) := fun H1 Q2 d hq l H2 nl s2 e2 => by
      have d2 := d.then s2
      obtain ⟨n1, n2⟩ := d.2.new_ne nl
      refine ⟨b, p, _, rfl, d2.2, .inl ⟨l, _, rfl, n1, n2, lst_of e2, by show 0 < 2; decide, by show 2 ≤ 1000; decide, fun H3 x d3 hx => ?_⟩⟩
      simp only [List.mem_cons, List.not_mem_nil, or_false] at hx
      rcases hx with rfl | rfl
      · exact hq _ _ (d2.trans d3) (.inl rfl)
      · exact hq _ _ (d2.trans d3) (.inr rfl)
    refine ⟨_, rfl, .inl ⟨rfl, _, rfl, ite_b (fun hc => ?_) (fun hc => ?_)⟩⟩
    · refine ⟨_, rfl, _, rfl, small1m (by show 2 ≤ 1000000; decide), fun l H2 nl s2 e2 => sgn H1 _ d (fun H3 x d3 hx => ?_) l H2 nl s2 e2⟩
      refine ⟨_, _, rfl, rfl, ⟨by decide, by decide, by decide⟩, _, _, rfl, rfl, ⟨by decide, by decide, by decide⟩, .inl ⟨_, _, rfl, rfl, (wide_mul (a := 200) (b := 200) (by decide +kernel) (by decide +kernel) (by decide) (by decide) (by decide)).ok, _, _, rfl, rfl, ?_⟩⟩
      refine ⟨_, rfl, b, p, 1000, rfl, by decide, by decide, d3.2, fun H4 r2 d4 r20 r21 => ⟨_, _, rfl, rfl, .inl ⟨_, _, rfl, rfl, mulOk_l (by rcases hx with rfl | rfl <;> decide), q _ _ (d3.trans d4) ?_⟩⟩⟩
      have e1 : (10 : Int) ^ Int.toNat 50 * (10 : Int) ^ Int.toNat 50 = 10 ^ 100 := by decide +kernel
      try dsimp only
      rw [e1]
      have h9 : (10 : Int) ^ 100 > 1000 := by decide +kernel
      try dsimp only
      rw [Int.natAbs_mul]
      rcases hx with rfl | rfl
      · try dsimp only
        rw [Int.natAbs_one, Nat.one_mul]
        omega
      · try dsimp only
        rw [Int.natAbs_neg, Int.natAbs_one, Nat.one_mul]
        omega
    refine ⟨_, rfl, _, rfl, small1m (by show 2 ≤ 1000000; decide), fun l H2 nl s2 e2 => sgn H1 _ d (fun H3 x d3 hx => ?_) l H2 nl s2 e2⟩
    refine ⟨_, _, rfl, rfl, ⟨by decide, by decide, by decide⟩, _, _, rfl, rfl, ⟨by decide, by decide, by decide⟩, .inl ⟨_, _, rfl, rfl, (wide_mul (a := 200) (b := 200) (by decide +kernel) (by decide +kernel) (by decide) (by decide) (by decide)).ok, ?_⟩⟩
    refine ⟨_, rfl, _, _, rfl, rfl, ⟨by decide, by decide, by decide⟩, b, p, _, rfl, by decide, by decide, d3.2, fun H4 r2 d4 r20 r21 => ?_⟩
    refine .inl ⟨_, _, rfl, rfl, .inl ⟨_, _, rfl, rfl, mulOk_l (by rcases hx with rfl | rfl <;> decide), ?_⟩⟩
    refine ⟨_, rfl, b, p, 9, rfl, by decide, by decide, d4.2, fun H5 r3 d5 r30 r31 => .inl ⟨_, _, rfl, rfl, .inl ⟨_, _, rfl, rfl, ?_, q _ _ ((d3.trans d4).trans d5) ?_⟩⟩⟩
    · have e1 : (10 : Int) ^ Int.toNat 49 * (10 : Int) ^ Int.toNat 49 = 10 ^ 98 := by decide +kernel
      have r22 : r2 < 10 ^ 9 := r21
      have h0 := big2 (s := 0) hx r20 r22 (by decide) (by decide)
      rw [Int.add_zero, Int.mul_one] at h0
      try dsimp only
      rw [e1]
      exact (wide_mul (a := 400) (b := 10) (Nat.lt_trans h0 (by decide +kernel)) (by omega) (by decide) (by decide) (by decide)).ok
    · have e1 : (10 : Int) ^ Int.toNat 49 * (10 : Int) ^ Int.toNat 49 = 10 ^ 98 := by decide +kernel
      try dsimp only
      rw [e1]
      exact big2 hx r20 r21 r30 r31

theorem ok_law_word (T : Txt P K mg a_BeadError a_BadText a_Refused a_ValueReader) (c_law_of : Cy P w K mg base 2 "_law_of" s_law_of [] ["_law_deal", "_law_some"] (sp_law_of K)) (c_law_signs : Cy P w K mg base 1 "_law_signs" s_law_signs [] [] sp_law_signs) : Cy P w K mg base 3 "_law_word" s_law_word [] ["_law_deal"] sp_law_word := by
  have nd := sc_law_word.nd
  refine Cy.mk' T.d_law_word sc_law_word (fun vs H Q E h => ?_) (fun f cdv A outer s H vs Q E hr tk po h => ?_)
  · obtain ⟨_, _, rfl, _⟩ := h
    rfl
  · obtain ⟨b, p, rfl, hD, q⟩ := h
    refine ⟨_, (pss_cons (ps_set (i := 1) nd rfl (.inr rfl) (pe_y c_law_of b_law_of hr (by omega) (by rfl) takes0 (pa_cons (pv 0) (pa_cons (pe_lstN (pa_cons (pe_y0 c_law_signs b_law_signs hr (by omega) (by rfl) takes0) (pa_cons pe_str (pa_cons pe_str (pa_cons pe_str pa_nil))))) pa_nil))))
      (pss_one (ps_ret (pe_join pe_str (pe_lc (own := [("_law_at", 2)]) (g := (gName 2)) (tt := tYes) rfl nd (pi_range1 (by rfl) T.n_range (pa_cons (pe_y c_law_of b_law_of hr (by omega) (by rfl) takes0 (pa_cons (pv 0) (pa_cons (pe_lstN (pa_cons pe_int (pa_cons pe_int (pa_cons pe_int (pa_cons pe_int (pa_cons pe_int (pa_cons pe_int pa_nil))))))) pa_nil))) pa_nil)) (blkOk_by (by rfl)) (fun _ _ _ _ _ => (pg_name (i := 2) nd rfl (Or.inl rfl))) (fun _ _ _ _ _ => pts_nil) (fun _ _ _ _ _ => (pe_y c_law_of b_law_of hr (by omega) (by rfl) takes0 (pa_cons (pv 0) (pa_cons (pv 1) pa_nil))))))))), ?_⟩
    refine ⟨_, rfl, rfl, small1m (by show 4 ≤ 1000000; decide), fun l H1 nl s1 e1 => ?_⟩
    have d1 := DrD.of hD s1
    obtain ⟨n1, n2⟩ := hD.new_ne nl
    refine ⟨b, p, _, rfl, d1.2, .inl ⟨l, _, rfl, n1, n2, lst_of e1, by show 0 < 4; decide, by show 4 ≤ 1000; decide, fun H2 x d2 hx => ?_⟩⟩
    obtain ⟨ll, rfl, h0, h1, hw⟩ : ∃ ll : List Nat, x = W ll ∧ 0 < ll.length ∧ ll.length ≤ 1000 ∧ ∀ c ∈ ll, M84.wsg c = true := by
      simp only [List.mem_cons, List.not_mem_nil, or_false] at hx
      rcases hx with rfl | rfl | rfl | rfl
      · exact ⟨SIGNS, rfl, by decide, by decide, signs_w⟩
      · exact ⟨[48, 49], by rw [s01], by decide, by decide, by decide⟩
      · exact ⟨[48, 49], by rw [s01], by decide, by decide, by decide⟩
      · exact ⟨[48, 45, 40, 41, 32, 49], by rw [sMix], by decide, by decide, by decide⟩
    refine ⟨⟨_, rfl⟩, _, rfl, small1m (by show 6 ≤ 1000000; decide), fun l2 H3 nl2 s3 e3 => ?_⟩
    have d3 := (d1.trans d2).then s3
    obtain ⟨n1, n2⟩ := (d1.trans d2).2.new_ne nl2
    refine ⟨b, p, _, rfl, d3.2, .inl ⟨l2, _, rfl, n1, n2, lst_of e3, by show 0 < 6; decide, by show 6 ≤ 1000; decide, fun H4 x d4 hx => ?_⟩⟩
    obtain ⟨k, rfl, hk⟩ : ∃ k : Nat, x = .int (k : Int) ∧ k ≤ 9 := by
      simp only [List.mem_cons, List.not_mem_nil, or_false] at hx
      rcases hx with rfl | rfl | rfl | rfl | rfl | rfl
      · exact ⟨0, rfl, by decide⟩
      · exact ⟨1, rfl, by decide⟩
      · exact ⟨2, rfl, by decide⟩
      · exact ⟨3, rfl, by decide⟩
      · exact ⟨5, rfl, by decide⟩
      · exact ⟨9, rfl, by decide⟩
    have d5 := d3.trans d4
    refine ⟨_, rfl, by show -(2 ^ 62) ≤ (k : Int); omega, by show (k : Int) < 2 ^ 62; omega, fun Dl nD => lcD (n := k) walk_range (b := b) (p := p) (fun _ acc => ∃ ls : List Nat, acc = ls.map (fun c => W [c]) ∧ ∀ c ∈ ls, M84.wsg c = true) nD d5.2 (by omega) (fun _ _ => trivial) ⟨[], rfl, fun c hc => by cases hc⟩ (fun i x H5 H6 acc hi dd _ iv y Ky Kn hy => ?_) (fun H5 acc dd e5 l5 iv => ?_)⟩
    · obtain ⟨rfl, rfl⟩ := y
      obtain ⟨ls, rfl, hls⟩ := iv
      refine ⟨rfl, yes ⟨_, rfl, _, rfl, b, p, _, rfl, dd.2, .inr ⟨ll, rfl, h0, h1, fun H7 c d7 hc => hy _ _ d7 ⟨ls ++ [c], by rw [List.map_append]; rfl, fun c2 hc2 => ?_⟩⟩⟩⟩
      rcases List.mem_append.mp hc2 with z | z
      · exact hls c2 z
      · try dsimp only
        rw [List.mem_singleton.mp z]
        exact hw c hc
    obtain ⟨ls, rfl, hls⟩ := iv
    rw [List.length_map] at l5
    have e6 : H5 Dl = some (.lst (((ls.map fun c => [c]).map S).map V.str)) := by
      try dsimp only
      rw [e5, List.map_map, List.map_map]
      rfl
    refine ⟨_, Dl, _, rfl, rfl, .inl (lst_of e6), ?_, ?_⟩
    · try dsimp only
      rw [List.map_map, List.map_map, List.length_map, List.length_map]
      have e7 : (ls.map (((fun x : Str => x.length) ∘ S) ∘ fun c => [c])).sum = ls.length := by
        clear e6 e5 dd hls l5
        induction ls with
        | nil => rfl
        | cons c ls ih =>
          try dsimp only
          rw [List.map_cons, List.sum_cons, ih, List.length_cons]
          show 1 + ls.length = _
          omega
      try dsimp only
      rw [sE, e7]
      show ls.length + ls.length * 0 ≤ 16777216
      omega
    · try dsimp only
      rw [sE, join_codes]
      have e8 : (ls.map fun c => [c]).flatten = ls := by
        clear e6 e5 dd hls l5
        induction ls with
        | nil => rfl
        | cons c ls ih =>
          try dsimp only
          rw [List.map_cons, List.flatten_cons, ih]
          rfl
      try dsimp only
      rw [e8]
      exact q H5 ls (d5.trans dd) hls (by omega)

theorem ok_law_thing {n : Nat} (T : Txt P K mg a_BeadError a_BadText a_Refused a_ValueReader) (c_law_any : Cy P w K mg base 1 "_law_any" s_law_any [] ["_law_deal", "_law_bound"] sp_law_any) (c_law_thing : Cy P w K mg base (5 + n) "_law_thing" s_law_thing [] ["_law_deal", "_law_deep_here"] (sp_law_thing K n)) (c_law_word : Cy P w K mg base 3 "_law_word" s_law_word [] ["_law_deal"] sp_law_word) (c_law_number : Cy P w K mg base 3 "_law_number" s_law_number [] ["_law_deal"] sp_law_number) : Cy P w K mg base (5 + n + 1) "_law_thing" s_law_thing [] ["_law_deal", "_law_deep_here"] (sp_law_thing K (n + 1)) := by
  have nd := sc_law_thing.nd
  refine Cy.mk' T.d_law_thing sc_law_thing (fun vs H Q E h => ?_) (fun f cdv A outer s H vs Q E hr tk po h => ?_)
  · obtain ⟨_, _, _, rfl, _⟩ := h
    rfl
  · obtain ⟨b, p, k, rfl, hk, hD, q⟩ := h
    refine ⟨_, (pss_cons (ps_set (i := 2) nd rfl (.inl rfl) (pe_y c_law_any b_law_any hr (by omega) (by rfl) takes0 (pa_cons (pv 0) (pa_cons pe_int pa_nil))))
      (pss_cons (ps_if (PW.pt (pw_and (pt_cmpR op_gt (pv 1) pe_int (nomark _)) (pw_and1 (pt_cmpR op_gt (pv 2) pe_int (nomark _))))) (pss_one (ps_ret (pe_callTy (r := rTupleN K) cr_tupleN (by rfl) T.n_tuple (by decide +kernel) (pa_cons (pe_lc (own := [("_law_at", 3)]) (g := (gName 3)) (tt := tYes) rfl nd (pi_range1 (by rfl) T.n_range (pa_cons (pe_y c_law_any b_law_any hr (by omega) (by rfl) takes0 (pa_cons (pv 0) (pa_cons pe_int pa_nil))) pa_nil)) (blkOk_by (by rfl)) (fun _ _ _ _ _ => (pg_name (i := 3) nd rfl (Or.inl rfl))) (fun _ _ _ _ _ => pts_nil) (fun _ _ _ _ _ => (pe_y c_law_thing b_law_thing hr (by omega) (by rfl) takes0 (pa_cons (pv 0) (pa_cons (pe_op op_sub (pv 1) pe_int) pa_nil))))) pa_nil)))) pss_nil)
      (pss_cons (ps_if (pt_cmpR (r := rInU K) op_inU (pv 2) (pe_tupN (pa_cons pe_int (pa_cons pe_int pa_nil))) rfl) (pss_one (ps_ret pe_non)) pss_nil)
      (pss_one (ps_ret (pe_ifExp (pt_cmpR (r := rInU K) op_inU (pv 2) (pe_tupN (pa_cons pe_int (pa_cons pe_int (pa_cons pe_int pa_nil)))) rfl) (pe_y c_law_word b_law_word hr (by omega) (by rfl) takes0 (pa_cons (pv 0) pa_nil)) (pe_y c_law_number b_law_number hr (by omega) (by rfl) takes0 (pa_cons (pv 0) pa_nil)))))))), ?_⟩
    refine ⟨_, rfl, b, p, 8, rfl, by decide, by decide, hD, fun H1 r d r0 r1 => ?_⟩
    refine ⟨_, rfl, _, _, rfl, rfl, _, rfl, ite_b (fun h1 => ?_) (fun h1 => ?_)⟩
    · refine ⟨_, rfl, _, _, rfl, rfl, _, rfl, ite_b (fun h2 => ?_) (fun h2 => ?_)⟩
      · have h1' : 0 < k := by
          have := of_decide_eq_true h1
          omega
        obtain ⟨k', rfl⟩ : ∃ k', k = k' + 1 := ⟨k - 1, by omega⟩
        refine ⟨_, rfl, b, p, 5, rfl, by decide, by decide, d.2, fun H2 r2 d2 r20 r21 => ?_⟩
        obtain ⟨j, rfl⟩ := Int.eq_ofNat_of_zero_le r20
        have dd0 := d.trans d2
        refine ⟨_, rfl, by show -(2 ^ 62) ≤ (j : Int); omega, by show (j : Int) < 2 ^ 62; omega, fun Dl nD => lcD (n := j) walk_range (b := b) (p := p) (fun H acc => IsA K k' H acc) nD dd0.2 (by omega) (fun _ _ => trivial) ⟨[], rfl, fun c hc => by cases hc⟩ (fun i x H5 H6 acc hi dd eD iv y Ky Kn hy => ?_) (fun H5 acc dd e5 l5 iv => ?_)⟩
        · obtain ⟨rfl, rfl⟩ := y
          obtain ⟨l, hIs, hT⟩ := iv
          obtain ⟨db, dp⟩ := dd0.2.new_ne nD
          refine ⟨rfl, yes ⟨_, rfl, _, rfl, _, _, rfl, rfl, b, p, k', by show [V.ref b, V.int (((k' + 1 : Nat) : Int) - 1)] = _; rw [show (((k' + 1 : Nat) : Int) - 1) = (k' : Int) by omega], by omega, dd.2, fun H7 x v d7 hv tv => hy _ _ d7 ⟨l ++ [v], ?_, ?_⟩⟩⟩
          · have eD7 := d7.1 _ _ db dp eD
            have sb : SameB Dl H7 (upd H7 Dl (.lst (acc ++ [x]))) := SameB.put
            have hVl : M84.isVs k' l = true := isVs_mem fun v hv => (hT v hv).1
            exact IsVs.snoc (IsV.keepB (not_lst eD7) sb v k' x tv.1 hv) (IsVs.keepB (not_lst eD7) sb l k' acc hVl (IsVs.keepD dd.2.b_lst dd.2.p_lst d7.1 l k' acc hVl hIs))
          · intro w hw
            rcases List.mem_append.mp hw with z | z
            · exact hT w z
            · try dsimp only
              rw [List.mem_singleton.mp z]
              exact tv
        obtain ⟨l, hIs, hT⟩ := iv
        have hll := vs_len hIs
        refine ⟨Dl, acc, rfl, .inl (lst_of e5), fun t H6 s6 e6 => q H6 _ (.tup l) ((dd0.trans dd).then s6) ⟨t, acc, rfl, e6, IsVs.same s6 l acc hIs⟩ (tv_tup hT (by omega))⟩
      · refine ⟨_, rfl, small1m (by show 2 ≤ 1000000; decide), fun t H3 nt s3 e3 => .inr ⟨t, _, rfl, .inr (tup_of e3), rfl, rfl, _, rfl, ite_b (fun h3 => ?_) (fun h3 => ?_)⟩⟩
        · exact q H3 _ .non (d.then s3) rfl ⟨iv_non _, by show 1 ≤ _; have := Bd_le k; omega⟩
        refine ⟨_, rfl, small1m (by show 3 ≤ 1000000; decide), fun t2 H4 nt2 s4 e4 => .inr ⟨t2, _, rfl, .inr (tup_of e4), rfl, rfl, _, rfl, ite_b (fun h4 => ?_) (fun h4 => ?_)⟩⟩
        · refine ⟨_, rfl, b, p, rfl, ((d.then s3).then s4).2, fun H5 l d5 hl hl9 => q H5 _ (.str l) (((d.then s3).then s4).trans d5) rfl ⟨by rw [iv_str]; exact List.all_eq_true.mpr hl, ?_⟩⟩
          have := Bd_le k
          simp only [M84.txt, List.length_cons, List.length_append, List.length_nil]
          omega
        · refine ⟨_, rfl, b, p, rfl, ((d.then s3).then s4).2, fun H5 z d5 hz => q H5 _ (.int z) (((d.then s3).then s4).trans d5) rfl ⟨by rw [iv_int]; exact decide_eq_true hz, ?_⟩⟩
          have := Bd_le k
          have := len_int hz
          show (M84.numL z).length ≤ _
          omega
    · refine ⟨_, rfl, small1m (by show 2 ≤ 1000000; decide), fun t H3 nt s3 e3 => .inr ⟨t, _, rfl, .inr (tup_of e3), rfl, rfl, _, rfl, ite_b (fun h3 => ?_) (fun h3 => ?_)⟩⟩
      · exact q H3 _ .non (d.then s3) rfl ⟨iv_non _, by show 1 ≤ _; have := Bd_le k; omega⟩
      refine ⟨_, rfl, small1m (by show 3 ≤ 1000000; decide), fun t2 H4 nt2 s4 e4 => .inr ⟨t2, _, rfl, .inr (tup_of e4), rfl, rfl, _, rfl, ite_b (fun h4 => ?_) (fun h4 => ?_)⟩⟩
      · refine ⟨_, rfl, b, p, rfl, ((d.then s3).then s4).2, fun H5 l d5 hl hl9 => q H5 _ (.str l) (((d.then s3).then s4).trans d5) rfl ⟨by rw [iv_str]; exact List.all_eq_true.mpr hl, ?_⟩⟩
        have := Bd_le k
        simp only [M84.txt, List.length_cons, List.length_append, List.length_nil]
        omega
      · refine ⟨_, rfl, b, p, rfl, ((d.then s3).then s4).2, fun H5 z d5 hz => q H5 _ (.int z) (((d.then s3).then s4).trans d5) rfl ⟨by rw [iv_int]; exact decide_eq_true hz, ?_⟩⟩
        have := Bd_le k
        have := len_int hz
        show (M84.numL z).length ≤ _
        omega

theorem all_law_thing (T : Txt P K mg a_BeadError a_BadText a_Refused a_ValueReader) (c_law_any : Cy P w K mg base 1 "_law_any" s_law_any [] ["_law_deal", "_law_bound"] sp_law_any) (c_law_word : Cy P w K mg base 3 "_law_word" s_law_word [] ["_law_deal"] sp_law_word) (c_law_number : Cy P w K mg base 3 "_law_number" s_law_number [] ["_law_deal"] sp_law_number) : ∀ n : Nat, Cy P w K mg base (5 + n) "_law_thing" s_law_thing [] ["_law_deal", "_law_deep_here"] (sp_law_thing K n)
  | 0 => Cy.none T.d_law_thing (fun vs H Q E h => by obtain ⟨_, _, k, _, h1, _⟩ := h; omega)
  | n + 1 => ok_law_thing T c_law_any (all_law_thing T c_law_any c_law_word c_law_number n) c_law_word c_law_number
theorem ok_law_within (T : Txt P K mg a_BeadError a_BadText a_Refused a_ValueReader) : Cy P w K mg base 1 "_law_within" s_law_within [] ["_law_value", "_law_times"] (sp_law_within K) := by
  have nd := sc_law_within.nd
  refine Cy.mk' T.d_law_within sc_law_within (fun vs H Q E h => ?_) (fun f cdv A outer s H vs Q E hr tk po h => ?_)
  · obtain ⟨_, _, _, rfl, _⟩ := h
    rfl
  · obtain ⟨x, v, k, rfl, hv, hk, q⟩ := h
    refine ⟨_, (pss_cons (ps_for po rfl (pi_range1 (by rfl) T.n_range (pa_cons (pv 1) pa_nil)) (pg_name (i := 2) nd rfl (.inl rfl)) (pss_one (ps_set (i := 0) nd rfl (.inl rfl) (pe_tupN (pa_cons (pv 0) pa_nil)))))
      (pss_one (ps_ret (pv 0)))), ?_⟩
    refine ⟨_, rfl, _, rfl, by show -(2 ^ 62) ≤ (k : Int); omega, by show (k : Int) < 2 ^ 62; omega, for_range (n := k) (fun i σ' H' => ∃ (x' : V) (o : Option V), σ' = [some x', some (.int (k : Int)), o] ∧ Same H H' ∧ IsV K H' x' (wr i v)) ⟨x, none, rfl, Same.refl _, hv⟩ (fun i σ' H' hi hp => ?_) (fun σ' H' hp => ?_)⟩
    · obtain ⟨x', o, rfl, s, hx⟩ := hp
      exact ⟨_, rfl, small1m (by show 1 ≤ 1000000; decide), fun t H2 nt s2 e2 => ⟨_, _, rfl, s.trans s2, t, [x'], rfl, tup_of e2, x', [], rfl, hx.same s2, rfl⟩⟩
    · obtain ⟨x', o, rfl, s, hx⟩ := hp
      exact ⟨_, rfl, q H' x' s hx⟩

theorem ok_law_deep {n : Nat} (T : Txt P K mg a_BeadError a_BadText a_Refused a_ValueReader) (c_law_deep : Cy P w K mg base (3 + n) "_law_deep" s_law_deep [] ["_law_value"] (sp_law_deep K n)) : Cy P w K mg base (3 + n + 1) "_law_deep" s_law_deep [] ["_law_value"] (sp_law_deep K (n + 1)) := by
  have nd := sc_law_deep.nd
  refine Cy.mk' T.d_law_deep sc_law_deep (fun vs H Q E h => ?_) (fun f cdv A outer s H vs Q E hr tk po h => ?_)
  · obtain ⟨_, _, rfl, _⟩ := h
    rfl
  · obtain ⟨x, v, rfl, hv, ⟨m, hm, hV⟩, hs, q⟩ := h
    refine ⟨_, (pss_one (ps_ret (pe_ifExp (pt_val (pe_callB (r := rIsi K) call_isi (by rfl) T.n_isinstance (by decide +kernel) (pa_cons (pv 0) (pa_cons (pe_bltn (v := .ty "tuple") (by rfl) T.n_tuple (by decide +kernel) rfl) pa_nil)))) (pe_op (r := rAddU K) op_addU pe_int (pe_callB (r := rMax K) (cr_max rfl) (by rfl) T.n_max (by decide +kernel) (pa_cons (pe_op (r := rAddU K) op_addU (pe_lstN (pa_cons pe_int pa_nil)) (pe_lc (own := [("_law_part", 1)]) (g := (gName 1)) (tt := tYes) rfl nd (pi_tup (pv 0)) (blkOk_by (by rfl)) (fun _ _ _ _ _ => (pg_name (i := 1) nd rfl (Or.inl rfl))) (fun _ _ _ _ _ => pts_nil) (fun _ _ _ _ _ => (pe_y c_law_deep b_law_deep hr (by omega) (by rfl) takes0 (pa_cons (pv 1) pa_nil))))) pa_nil))) pe_int))), ?_⟩
    refine ⟨x, rfl, x, .ty "tuple", _, .type "tuple", _, rfl, .ty _, tyX hv, kit_ty (kTup v), _, rfl, ite_b (fun h1 => ?_) (fun h1 => ?_)⟩
    · obtain ⟨l, rfl⟩ := v_tup h1
      obtain ⟨a, xs, rfl, hT, hIs⟩ := hv
      obtain ⟨m', rfl, hVs⟩ : ∃ m', m = m' + 1 ∧ M84.isVs m' l = true := by
        cases m with
        | zero => cases hV
        | succ m' => exact ⟨m', rfl, hV⟩
      have hlen := vs_len hIs
      have hll := szs_len l
      have hsz : szs l < 500000 := by
        simp only [sz] at hs
        omega
      refine ⟨small1m (by show 1 ≤ 1000000; decide), fun l0 H1 nl s1 e1 => ⟨_, rfl, a, rfl, ⟨xs, tupS s1 hT⟩, fun Dl nD => lcP (n := xs.length) (walk_tup (xs := xs)) (fun i => some (.int (dp (l.getD i .non) : Int))) nD (by omega) (fun _ s => tupS (s1.trans s) hT) (fun i x H3 H' hi s y Ky Kn hy hn' => ?_) (fun H2 s2 e2 => ?_)⟩⟩
      · obtain ⟨rfl, ex⟩ := y
        obtain ⟨v, ev, hv⟩ := vs_at hIs ex
        have hsv := sz_at ev
        refine ⟨rfl, yes ⟨_, rfl, _, v, rfl, hv.same (s1.trans s), ⟨m', by omega, isV_at hVs ev⟩, by omega, fun H3 s3 => hy _ _ s3 ?_⟩⟩
        try dsimp only
        rw [List.getD_eq_getElem?_getD, ev]
        rfl
      have e3 : H2 Dl = some (.lst ((l.map fun v => (dp v : Int)).map V.int)) := by
        try dsimp only
        rw [e2, fm_map]
        have := range_map_list l .non (fun v => V.int (dp v : Int))
        try dsimp only
        rw [List.map_map, hlen]
        exact congrArg (fun z => some (HO.lst z)) this
      refine .inr (.inr (.inl ⟨l0, Dl, _, _, rfl, rfl, s2 _ _ e1, e3, ?_, fun t H3 nt s3 e4 => ?_⟩))
      · try dsimp only
        rw [List.length_map, List.length_map]
        exact small1m (by show 1 + l.length ≤ 1000000; omega)
      refine ⟨t, (0 : Int) :: l.map (fun v => (dp v : Int)), rfl, lst_of e4, Nat.succ_pos _, fun mx h5 h6 => ?_⟩
      have h7 := dps_max l mx h5
      have h8 := h6 _ (dps_mem l)
      have h9 : mx = (dps l : Int) := Int.le_antisymm h7 h8
      subst h9
      exact .inl ⟨_, _, rfl, rfl, q H3 ((s1.trans s2).trans s3)⟩
    · have e0 : dp v = 0 := by
        cases v <;> first | rfl | cases h1
      have := q H (Same.refl _)
      rw [e0] at this
      exact this

theorem all_law_deep (T : Txt P K mg a_BeadError a_BadText a_Refused a_ValueReader) : ∀ n : Nat, Cy P w K mg base (3 + n) "_law_deep" s_law_deep [] ["_law_value"] (sp_law_deep K n)
  | 0 => Cy.none T.d_law_deep (fun vs H Q E h => by obtain ⟨_, _, _, _, ⟨m, h1, _⟩, _⟩ := h; omega)
  | n + 1 => ok_law_deep T (all_law_deep T  n)
theorem ok_law_written {n : Nat} (T : Txt P K mg a_BeadError a_BadText a_Refused a_ValueReader) (c_law_written : Cy P w K mg base (3 + n) "_law_written" s_law_written [] ["_law_value"] (sp_law_written K n)) : Cy P w K mg base (3 + n + 1) "_law_written" s_law_written [] ["_law_value"] (sp_law_written K (n + 1)) := by
  have nd := sc_law_written.nd
  refine Cy.mk' T.d_law_written sc_law_written (fun vs H Q E h => ?_) (fun f cdv A outer s H vs Q E hr tk po h => ?_)
  · obtain ⟨_, _, rfl, _⟩ := h
    rfl
  · obtain ⟨x, v, rfl, hv, ⟨m, hm, hV⟩, hl, q⟩ := h
    refine ⟨_, (pss_cons (ps_if (pt_cmpR op_isU (pv 0) pe_non (nomark _)) (pss_one (ps_ret pe_str)) pss_nil)
      (pss_cons (ps_if (pt_val (pe_callB (r := rIsi K) call_isi (by rfl) T.n_isinstance (by decide +kernel) (pa_cons (pv 0) (pa_cons (pe_bltn (v := .ty "str") (by rfl) T.n_str (by decide +kernel) rfl) pa_nil)))) (pss_one (ps_ret (pe_op (r := rAddU K) op_addU (pe_op (r := rAddU K) op_addU pe_str (pv 0)) pe_str))) pss_nil)
      (pss_cons (ps_if (pt_val (pe_callB (r := rIsi K) call_isi (by rfl) T.n_isinstance (by decide +kernel) (pa_cons (pv 0) (pa_cons (pe_bltn (v := .ty "int") (by rfl) T.n_int (by decide +kernel) rfl) pa_nil)))) (pss_one (ps_ret (pe_callTy call_str_int (by rfl) T.n_str (by decide +kernel) (pa_cons (pv 0) pa_nil)))) pss_nil)
      (pss_one (ps_ret (pe_op (r := rAddU K) op_addU (pe_op (r := rAddU K) op_addU pe_str (pe_join pe_str (pe_lc (own := [("_law_part", 1)]) (g := (gName 1)) (tt := tYes) rfl nd (pi_tup (pv 0)) (blkOk_by (by rfl)) (fun _ _ _ _ _ => (pg_name (i := 1) nd rfl (Or.inl rfl))) (fun _ _ _ _ _ => pts_nil) (fun _ _ _ _ _ => (pe_y c_law_written b_law_written hr (by omega) (by rfl) takes0 (pa_cons (pv 1) pa_nil)))))) pe_str)))))), ?_⟩
    refine ⟨x, rfl, .inl ⟨rfl, _, rfl, ite_b (fun hc => ?_) (fun hc => ?_)⟩⟩
    · have e := is_non hv hc
      subst e
      try dsimp only
      rw [sMi]
      exact q H (Same.refl _)
    refine ⟨x, rfl, x, .ty "str", _, .type "str", _, rfl, .ty _, tyX hv, kit_ty (kStr v), _, rfl, ite_b (fun h1 => ?_) (fun h1 => ?_)⟩
    · obtain ⟨l, rfl⟩ := v_str h1
      cases hv
      have hl2 : l.length + 2 ≤ 500000 := by
        simp only [M84.txt, List.length_cons, List.length_append, List.length_nil] at hl
        omega
      refine ⟨_, rfl, .inr (.inl ⟨_, _, rfl, rfl, ?_, .inr (.inl ⟨_, _, rfl, rfl, ?_, ?_⟩)⟩)⟩
      · try dsimp only
        rw [S_len, S_len]
        exact small1m (by show 1 + l.length ≤ 1000000; omega)
      · try dsimp only
        rw [S_app, S_len, S_len, List.length_append]
        exact small1m (by show 1 + l.length + 1 ≤ 1000000; omega)
      · try dsimp only
        rw [S_app, S_app]
        exact q H (Same.refl _)
    refine ⟨x, rfl, x, .ty "int", _, .type "int", _, rfl, .ty _, tyX hv, kit_ty (kInt v), _, rfl, ite_b (fun hi => ?_) (fun hi => ?_)⟩
    · obtain ⟨z, rfl⟩ : ∃ z, v = .int z := by
        cases v with
        | int z => exact ⟨z, rfl⟩
        | bl b => cases m <;> cases hV
        | non => cases hi
        | str l => cases hi
        | lst => cases hi
        | tup l => cases hi
      cases hv
      rw [iv_int] at hV
      refine ⟨_, rfl, z, rfl, log_ok (of_decide_eq_true hV), ?_⟩
      have := q H (Same.refl _)
      show Q (V.str (Str.ofString (toString z))) H
      try dsimp only
      rw [numL_str]
      exact this
    replace hi : isI v = false := by
      cases v <;> first | rfl | cases hi
    have h0 := no_non hv hc
    obtain ⟨m', l, rfl, rfl, hVs⟩ : ∃ m' l, v = .tup l ∧ m = m' + 1 ∧ M84.isVs m' l = true := by
      rcases ok_non m hV with e | e | e | e
      · exact absurd e h0
      · rw [hi] at e; cases e
      · rw [h1] at e; cases e
      · exact e
    obtain ⟨a, xs, rfl, hT, hIs⟩ := hv
    have hlen := vs_len hIs
    have hll := len_txts l
    have htl : (M84.txts l).length + 2 ≤ 500000 := by
      simp only [M84.txt, List.length_cons, List.length_append, List.length_nil] at hl
      omega
    refine ⟨⟨_, rfl⟩, _, rfl, a, rfl, ⟨xs, hT⟩, fun Dl nD => lcP (n := xs.length) (walk_tup (xs := xs)) (fun i => some (W (M84.txt (l.getD i .non)))) nD (by omega) (fun _ s => tupS s hT) (fun i x H1 H' hi s y Ky Kn hy hn' => ?_) (fun H2 s2 e2 => ?_)⟩
    · obtain ⟨rfl, ex⟩ := y
      obtain ⟨v, ev, hv⟩ := vs_at hIs ex
      have hlv := txt_at ev
      refine ⟨rfl, yes ⟨_, rfl, _, v, rfl, hv.same s, ⟨m', by omega, isV_at hVs ev⟩, by omega, fun H3 s3 => hy _ _ s3 ?_⟩⟩
      try dsimp only
      rw [List.getD_eq_getElem?_getD, ev]
      rfl
    have e3 : H2 Dl = some (.lst (((l.map M84.txt).map S).map V.str)) := by
      try dsimp only
      rw [e2, fm_map]
      have := range_map_list l .non (fun v => W (M84.txt v))
      try dsimp only
      rw [List.map_map, List.map_map, hlen]
      exact congrArg (fun z => some (HO.lst z)) this
    refine ⟨_, Dl, _, rfl, rfl, .inl (lst_of e3), ?_, .inr (.inl ⟨_, _, rfl, rfl, ?_, .inr (.inl ⟨_, _, rfl, rfl, ?_, ?_⟩)⟩)⟩
    · try dsimp only
      rw [len_join, List.length_map, List.length_map]
      have := sum_txts l
      show _ + l.length * 1 ≤ 16777216
      omega
    · try dsimp only
      rw [sSp, join_any, joinL_txts, sOp, S_len, S_len]
      exact small1m (by show 1 + (M84.txts l).length ≤ 1000000; omega)
    · try dsimp only
      rw [sSp, join_any, joinL_txts, sOp, sCl, S_app, S_len, S_len, List.length_append]
      exact small1m (by show 1 + (M84.txts l).length + 1 ≤ 1000000; omega)
    · try dsimp only
      rw [sSp, join_any, joinL_txts, sOp, sCl, S_app, S_app]
      exact q H2 s2

theorem all_law_written (T : Txt P K mg a_BeadError a_BadText a_Refused a_ValueReader) : ∀ n : Nat, Cy P w K mg base (3 + n) "_law_written" s_law_written [] ["_law_value"] (sp_law_written K n)
  | 0 => Cy.none T.d_law_written (fun vs H Q E h => by obtain ⟨_, _, _, _, ⟨m, h1, _⟩, _⟩ := h; omega)
  | n + 1 => ok_law_written T (all_law_written T  n)
theorem ok_law_same {n : Nat} (T : Txt P K mg a_BeadError a_BadText a_Refused a_ValueReader) (c_law_same : Cy P w K mg base (3 + n) "_law_same" s_law_same [] ["_law_one", "_law_other"] (sp_law_same K n)) : Cy P w K mg base (3 + n + 1) "_law_same" s_law_same [] ["_law_one", "_law_other"] (sp_law_same K (n + 1)) := by
  have nd := sc_law_same.nd
  refine Cy.mk' T.d_law_same sc_law_same (fun vs H Q E h => ?_) (fun f cdv A outer s H vs Q E hr tk po h => ?_)
  · obtain ⟨_, _, _, rfl, _⟩ := h
    rfl
  · obtain ⟨x, y, v, rfl, hx, hy, ⟨m, hm, hV⟩, hs, q⟩ := h
    refine ⟨_, (pss_cons (ps_if (PW.pt (pw_or (pt_cmpR op_isU (pv 0) pe_non (nomark _)) (pw_or1 (pt_cmpR op_isU (pv 1) pe_non (nomark _))))) (pss_one (ps_ret (pe_and (pe_cmpR op_isU (pv 0) pe_non (nomark _)) (pe_one (pe_cmpR op_isU (pv 1) pe_non (nomark _)))))) pss_nil)
      (pss_cons (ps_for po rfl (pi_tup (pe_tupN (pa_cons pe_int (pa_cons pe_int (pa_cons pe_int pa_nil))))) (pg_name (i := 2) nd rfl (.inl rfl)) (pss_cons (ps_set (i := 3) nd rfl (.inl rfl) (pe_ix (r := rIx K) ix_seq (pe_lstN (pa_cons (pe_callB (r := rIsi K) call_isi (by rfl) T.n_isinstance (by decide +kernel) (pa_cons (pv 0) (pa_cons (pe_bltn (v := .ty "str") (by rfl) T.n_str (by decide +kernel) rfl) pa_nil))) (pa_cons (pe_and (pe_callB (r := rIsi K) call_isi (by rfl) T.n_isinstance (by decide +kernel) (pa_cons (pv 0) (pa_cons (pe_bltn (v := .ty "int") (by rfl) T.n_int (by decide +kernel) rfl) pa_nil))) (pe_one (pe_not (pe_callB (r := rIsi K) call_isi (by rfl) T.n_isinstance (by decide +kernel) (pa_cons (pv 0) (pa_cons (pe_bltn (v := .ty "bool") (by rfl) T.n_bool (by decide +kernel) rfl) pa_nil)))))) (pa_cons (pe_callB (r := rIsi K) call_isi (by rfl) T.n_isinstance (by decide +kernel) (pa_cons (pv 0) (pa_cons (pe_bltn (v := .ty "tuple") (by rfl) T.n_tuple (by decide +kernel) rfl) pa_nil))) pa_nil)))) (pv 2) (fun _ _ => rfl)))
      (pss_cons (ps_set (i := 4) nd rfl (.inl rfl) (pe_ix (r := rIx K) ix_seq (pe_lstN (pa_cons (pe_callB (r := rIsi K) call_isi (by rfl) T.n_isinstance (by decide +kernel) (pa_cons (pv 1) (pa_cons (pe_bltn (v := .ty "str") (by rfl) T.n_str (by decide +kernel) rfl) pa_nil))) (pa_cons (pe_and (pe_callB (r := rIsi K) call_isi (by rfl) T.n_isinstance (by decide +kernel) (pa_cons (pv 1) (pa_cons (pe_bltn (v := .ty "int") (by rfl) T.n_int (by decide +kernel) rfl) pa_nil))) (pe_one (pe_not (pe_callB (r := rIsi K) call_isi (by rfl) T.n_isinstance (by decide +kernel) (pa_cons (pv 1) (pa_cons (pe_bltn (v := .ty "bool") (by rfl) T.n_bool (by decide +kernel) rfl) pa_nil)))))) (pa_cons (pe_callB (r := rIsi K) call_isi (by rfl) T.n_isinstance (by decide +kernel) (pa_cons (pv 1) (pa_cons (pe_bltn (v := .ty "tuple") (by rfl) T.n_tuple (by decide +kernel) rfl) pa_nil))) pa_nil)))) (pv 2) (fun _ _ => rfl)))
      (pss_one (ps_if (pt_cmpR (r := rNeU K) (op_neU hr.units) (pv 3) (pv 4) (nomark _)) (pss_one (ps_ret pe_bl)) pss_nil)))))
      (pss_cons (ps_if (pt_not (pt_val (pe_callB (r := rIsi K) call_isi (by rfl) T.n_isinstance (by decide +kernel) (pa_cons (pv 0) (pa_cons (pe_bltn (v := .ty "tuple") (by rfl) T.n_tuple (by decide +kernel) rfl) pa_nil))))) (pss_one (ps_ret (pe_cmpR (r := rEqU K) (op_eqU hr.units) (pv 0) (pv 1) (nomark _)))) pss_nil)
      (pss_one (ps_ret (pe_and (pe_cmpR (r := rEqU K) (op_eqU hr.units) (pe_callB (r := rLenU K) cr_lenU (by rfl) T.n_len (by decide +kernel) (pa_cons (pv 0) pa_nil)) (pe_callB (r := rLenU K) cr_lenU (by rfl) T.n_len (by decide +kernel) (pa_cons (pv 1) pa_nil)) (nomark _)) (pe_one (pe_cmpR (r := rEqU K) (op_eqU hr.units) (pe_lc (own := [("_law_at", 5)]) (g := (gName 5)) rfl nd (pi_range1 (by rfl) T.n_range (pa_cons (pe_callB (r := rLenU K) cr_lenU (by rfl) T.n_len (by decide +kernel) (pa_cons (pv 0) pa_nil)) pa_nil)) (blkOk_by (by rfl)) (fun _ _ _ _ _ => (pg_name (i := 5) nd rfl (Or.inl rfl))) (fun _ _ _ _ _ => (pts_one (pt_not (pt_val (pe_y c_law_same b_law_same hr (by omega) (by rfl) takes0 (pa_cons (pe_ix (r := rIx K) ix_seq (pv 0) (pv 5) (fun _ _ => rfl)) (pa_cons (pe_ix (r := rIx K) ix_seq (pv 1) (pv 5) (fun _ _ => rfl)) pa_nil))))))) (fun _ _ _ _ _ => (pv 5))) (pe_lstN pa_nil) (nomark _))))))))), ?_⟩
    refine ⟨_, rfl, .inl ⟨rfl, _, rfl, ite_b (fun hc => ?_) (fun hc => ?_)⟩⟩
    · have e := is_non hx hc
      subst e
      cases hx
      cases hy
      exact iteT ⟨_, rfl, .inl ⟨rfl, _, rfl, iteT ⟨_, rfl, .inl ⟨rfl, q H (Same.refl _)⟩⟩⟩⟩
    have h0 := no_non hx hc
    refine ⟨_, rfl, .inl ⟨rfl, _, rfl, ite_b (fun hc2 => absurd (is_non hy hc2) h0) (fun hc2 => ?_)⟩⟩
    cases v with
    | non => exact absurd rfl h0
    | bl b => cases m <;> cases hV
    | lst => cases m <;> cases hV
    | int z =>
      refine ⟨small1m (by show 3 ≤ 1000000; decide), fun t H1 nt s1 e1 => ⟨t, rfl, ⟨_, tup_of e1⟩, for_it (walk_tup (K := K) (a := t) (xs := [V.int 0, V.int 1, V.int 2])) (fun i σ' H' => ∃ a b c : Option V, σ' = [some x, some y, a, b, c, none] ∧ Same H1 H') ⟨none, none, none, rfl, Same.refl _⟩ (fun i σ' H' _ hp => by obtain ⟨_, _, _, _, s⟩ := hp; exact tupS s (tup_of e1)) (fun i z σ' H' H'' hi hp hy => ?_) (fun σ' H2 hp => ?_)⟩⟩
      · obtain ⟨a, b, c, rfl, s⟩ := hp
        obtain ⟨rfl, hz⟩ := hy
        obtain ⟨h3, rfl⟩ := int3 hz
        have hh1 := IsV.same (s1.trans s) _ _ hx
        refine ⟨x, rfl, x, .ty "str", _, .type "str", _, rfl, .ty _, tyX hh1, kit_ty (kStr _), ?_⟩
        refine ⟨x, rfl, x, .ty "int", _, .type "int", _, rfl, .ty _, tyX hh1, kit_ty (kInt _), _, rfl, iteT ⟨x, rfl, x, .ty "bool", _, .type "bool", _, rfl, .ty _, tyX hh1, kit_ty (kBool _), _, rfl, ?_⟩⟩
        refine ⟨x, rfl, x, .ty "tuple", _, .type "tuple", _, rfl, .ty _, tyX hh1, kit_ty (kTup _), small1m (by show 3 ≤ 1000000; decide), fun l1 H5 nl1 s5 e5 => ?_⟩
        obtain ⟨cb, hcb⟩ := at3 false true false h3
        refine ⟨_, rfl, .inl ⟨l1, _, _, .bl cb, rfl, rfl, lst_of e5, hcb, ?_⟩⟩
        have hh2 := IsV.same (((s1.trans s).trans s5)) _ _ hy
        refine ⟨y, rfl, y, .ty "str", _, .type "str", _, rfl, .ty _, tyX hh2, kit_ty (kStr _), ?_⟩
        refine ⟨y, rfl, y, .ty "int", _, .type "int", _, rfl, .ty _, tyX hh2, kit_ty (kInt _), _, rfl, iteT ⟨y, rfl, y, .ty "bool", _, .type "bool", _, rfl, .ty _, tyX hh2, kit_ty (kBool _), _, rfl, ?_⟩⟩
        refine ⟨y, rfl, y, .ty "tuple", _, .type "tuple", _, rfl, .ty _, tyX hh2, kit_ty (kTup _), small1m (by show 3 ≤ 1000000; decide), fun l2 H6 nl2 s6 e6 => ?_⟩
        refine ⟨_, rfl, .inl ⟨l2, _, _, .bl cb, rfl, rfl, lst_of e6, hcb, ?_⟩⟩
        refine ⟨_, rfl, _, rfl, .inl ⟨rfl, _, rfl, ite_b (fun hc => ?_) (fun hc => ?_)⟩⟩
        · rw [decide_eq_true rfl] at hc
          cases hc
        · exact ⟨_, _, _, rfl, (s.trans s5).trans s6⟩
      obtain ⟨a, b, c, rfl, s⟩ := hp
      have sH : Same H H2 := s1.trans s
      have hx2 := IsV.same sH _ _ hx
      have hy2 := IsV.same sH _ _ hy
      refine ⟨x, rfl, x, .ty "tuple", _, .type "tuple", _, rfl, .ty _, tyX hx2, kit_ty (kTup _), _, rfl, iteT ⟨_, rfl, _, rfl, .inl ⟨?_, ?_⟩⟩⟩
      · cases hx
        cases hy
        rfl
      · cases hx
        cases hy
        try dsimp only
        rw [decide_eq_true rfl]
        exact q H2 sH
      
    | str l =>
      refine ⟨small1m (by show 3 ≤ 1000000; decide), fun t H1 nt s1 e1 => ⟨t, rfl, ⟨_, tup_of e1⟩, for_it (walk_tup (K := K) (a := t) (xs := [V.int 0, V.int 1, V.int 2])) (fun i σ' H' => ∃ a b c : Option V, σ' = [some x, some y, a, b, c, none] ∧ Same H1 H') ⟨none, none, none, rfl, Same.refl _⟩ (fun i σ' H' _ hp => by obtain ⟨_, _, _, _, s⟩ := hp; exact tupS s (tup_of e1)) (fun i z σ' H' H'' hi hp hy => ?_) (fun σ' H2 hp => ?_)⟩⟩
      · obtain ⟨a, b, c, rfl, s⟩ := hp
        obtain ⟨rfl, hz⟩ := hy
        obtain ⟨h3, rfl⟩ := int3 hz
        have hh1 := IsV.same (s1.trans s) _ _ hx
        refine ⟨x, rfl, x, .ty "str", _, .type "str", _, rfl, .ty _, tyX hh1, kit_ty (kStr _), ?_⟩
        refine ⟨x, rfl, x, .ty "int", _, .type "int", _, rfl, .ty _, tyX hh1, kit_ty (kInt _), _, rfl, iteF ?_⟩
        refine ⟨x, rfl, x, .ty "tuple", _, .type "tuple", _, rfl, .ty _, tyX hh1, kit_ty (kTup _), small1m (by show 3 ≤ 1000000; decide), fun l1 H5 nl1 s5 e5 => ?_⟩
        obtain ⟨cb, hcb⟩ := at3 true false false h3
        refine ⟨_, rfl, .inl ⟨l1, _, _, .bl cb, rfl, rfl, lst_of e5, hcb, ?_⟩⟩
        have hh2 := IsV.same (((s1.trans s).trans s5)) _ _ hy
        refine ⟨y, rfl, y, .ty "str", _, .type "str", _, rfl, .ty _, tyX hh2, kit_ty (kStr _), ?_⟩
        refine ⟨y, rfl, y, .ty "int", _, .type "int", _, rfl, .ty _, tyX hh2, kit_ty (kInt _), _, rfl, iteF ?_⟩
        refine ⟨y, rfl, y, .ty "tuple", _, .type "tuple", _, rfl, .ty _, tyX hh2, kit_ty (kTup _), small1m (by show 3 ≤ 1000000; decide), fun l2 H6 nl2 s6 e6 => ?_⟩
        refine ⟨_, rfl, .inl ⟨l2, _, _, .bl cb, rfl, rfl, lst_of e6, hcb, ?_⟩⟩
        refine ⟨_, rfl, _, rfl, .inl ⟨rfl, _, rfl, ite_b (fun hc => ?_) (fun hc => ?_)⟩⟩
        · rw [decide_eq_true rfl] at hc
          cases hc
        · exact ⟨_, _, _, rfl, (s.trans s5).trans s6⟩
      obtain ⟨a, b, c, rfl, s⟩ := hp
      have sH : Same H H2 := s1.trans s
      have hx2 := IsV.same sH _ _ hx
      have hy2 := IsV.same sH _ _ hy
      refine ⟨x, rfl, x, .ty "tuple", _, .type "tuple", _, rfl, .ty _, tyX hx2, kit_ty (kTup _), _, rfl, iteT ⟨_, rfl, _, rfl, .inl ⟨?_, ?_⟩⟩⟩
      · cases hx
        cases hy
        rfl
      · cases hx
        cases hy
        try dsimp only
        rw [decide_eq_true rfl]
        exact q H2 sH
      
    | tup l =>
      refine ⟨small1m (by show 3 ≤ 1000000; decide), fun t H1 nt s1 e1 => ⟨t, rfl, ⟨_, tup_of e1⟩, for_it (walk_tup (K := K) (a := t) (xs := [V.int 0, V.int 1, V.int 2])) (fun i σ' H' => ∃ a b c : Option V, σ' = [some x, some y, a, b, c, none] ∧ Same H1 H') ⟨none, none, none, rfl, Same.refl _⟩ (fun i σ' H' _ hp => by obtain ⟨_, _, _, _, s⟩ := hp; exact tupS s (tup_of e1)) (fun i z σ' H' H'' hi hp hy => ?_) (fun σ' H2 hp => ?_)⟩⟩
      · obtain ⟨a, b, c, rfl, s⟩ := hp
        obtain ⟨rfl, hz⟩ := hy
        obtain ⟨h3, rfl⟩ := int3 hz
        have hh1 := IsV.same (s1.trans s) _ _ hx
        refine ⟨x, rfl, x, .ty "str", _, .type "str", _, rfl, .ty _, tyX hh1, kit_ty (kStr _), ?_⟩
        refine ⟨x, rfl, x, .ty "int", _, .type "int", _, rfl, .ty _, tyX hh1, kit_ty (kInt _), _, rfl, iteF ?_⟩
        refine ⟨x, rfl, x, .ty "tuple", _, .type "tuple", _, rfl, .ty _, tyX hh1, kit_ty (kTup _), small1m (by show 3 ≤ 1000000; decide), fun l1 H5 nl1 s5 e5 => ?_⟩
        obtain ⟨cb, hcb⟩ := at3 false false true h3
        refine ⟨_, rfl, .inl ⟨l1, _, _, .bl cb, rfl, rfl, lst_of e5, hcb, ?_⟩⟩
        have hh2 := IsV.same (((s1.trans s).trans s5)) _ _ hy
        refine ⟨y, rfl, y, .ty "str", _, .type "str", _, rfl, .ty _, tyX hh2, kit_ty (kStr _), ?_⟩
        refine ⟨y, rfl, y, .ty "int", _, .type "int", _, rfl, .ty _, tyX hh2, kit_ty (kInt _), _, rfl, iteF ?_⟩
        refine ⟨y, rfl, y, .ty "tuple", _, .type "tuple", _, rfl, .ty _, tyX hh2, kit_ty (kTup _), small1m (by show 3 ≤ 1000000; decide), fun l2 H6 nl2 s6 e6 => ?_⟩
        refine ⟨_, rfl, .inl ⟨l2, _, _, .bl cb, rfl, rfl, lst_of e6, hcb, ?_⟩⟩
        refine ⟨_, rfl, _, rfl, .inl ⟨rfl, _, rfl, ite_b (fun hc => ?_) (fun hc => ?_)⟩⟩
        · rw [decide_eq_true rfl] at hc
          cases hc
        · exact ⟨_, _, _, rfl, (s.trans s5).trans s6⟩
      obtain ⟨a, b, c, rfl, s⟩ := hp
      have sH : Same H H2 := s1.trans s
      have hx2 := IsV.same sH _ _ hx
      have hy2 := IsV.same sH _ _ hy
      obtain ⟨a1, xs, rfl, hT1, hI1⟩ := hx2
      obtain ⟨a2, ys, rfl, hT2, hI2⟩ := hy2
      have hl1 := vs_len hI1
      have hl2 := vs_len hI2
      have hll := szs_len l
      have hsz : szs l < 500000 := by
        simp only [sz] at hs
        omega
      obtain ⟨m', rfl, hVs⟩ : ∃ m', m = m' + 1 ∧ M84.isVs m' l = true := by
        cases m with
        | zero => cases hV
        | succ m' => exact ⟨m', rfl, hV⟩
      refine ⟨.ref a1, rfl, .ref a1, .ty "tuple", _, .type "tuple", _, rfl, .ty _, tyX (v := .tup l) ⟨a1, xs, rfl, hT1, hI1⟩, kit_ty (kTup _), _, rfl, iteF ?_⟩
      refine ⟨_, rfl, .inr ⟨a1, xs, rfl, .inr hT1, _, rfl, .inr ⟨a2, ys, rfl, .inr hT2, .inl ⟨rfl, _, rfl, ite_b (fun hc => ?_) (fun hc => ?_)⟩⟩⟩⟩
      rotate_left
      · exact absurd (by rw [hl1, hl2]) (of_decide_eq_false hc)
      refine ⟨_, rfl, .inr ⟨a1, xs, rfl, .inr hT1, _, rfl, by show -(2 ^ 62) ≤ (xs.length : Int); omega, by show (xs.length : Int) < 2 ^ 62; omega, fun Dl nD => lcP (n := xs.length) walk_range (fun _ => none) nD (by omega) (fun _ _ => trivial) (fun i z H3 H' hi s2 yy Ky Kn hyy hn' => ?_) (fun H3 s2 e2 => ?_)⟩⟩
      · obtain ⟨rfl, rfl⟩ := yy
        have ex : xs[i]? = some xs[i] := List.getElem?_eq_getElem hi
        have hi2 : i < ys.length := by omega
        have ey : ys[i]? = some ys[i] := List.getElem?_eq_getElem hi2
        obtain ⟨v, ev, hv1⟩ := vs_at hI1 ex
        obtain ⟨v2, ev2, hv2⟩ := vs_at hI2 ey
        rw [ev] at ev2
        cases ev2
        have hsv := sz_at ev
        refine ⟨rfl, _, rfl, _, rfl, .inr (.inl ⟨a1, xs, _, _, rfl, rfl, tupS s2 hT1, at_of (j := i) (by omega) ex, _, rfl, _, rfl, .inr (.inl ⟨a2, ys, _, _, rfl, rfl, tupS s2 hT2, at_of (j := i) (by omega) ey, ?_⟩)⟩)⟩
        exact ⟨_, _, v, rfl, hv1.same s2, hv2.same s2, ⟨m', by omega, isV_at hVs ev⟩, by omega, fun H4 s4 => ⟨_, rfl, iteF (hn' _ s4 rfl)⟩⟩
      have e3 : H3 Dl = some (.lst []) := by
        try dsimp only
        rw [e2]
        have : (List.range xs.length).filterMap (fun _ => (none : Option V)) = [] := by
          try dsimp only
          rw [List.filterMap_eq_nil_iff]
          exact fun _ _ => rfl
        try dsimp only
        rw [this]
      refine ⟨by decide, fun l0 H4 nl s4 e4 => .inr ⟨_, _, .lst (lst_of (s4 _ _ e3)) .nil, .lst (lst_of e4) .nil, by decide, by decide, ?_⟩⟩
      exact q H4 ((sH.trans s2).trans s4)
      

theorem all_law_same (T : Txt P K mg a_BeadError a_BadText a_Refused a_ValueReader) : ∀ n : Nat, Cy P w K mg base (3 + n) "_law_same" s_law_same [] ["_law_one", "_law_other"] (sp_law_same K n)
  | 0 => Cy.none T.d_law_same (fun vs H Q E h => by obtain ⟨_, _, _, _, _, _, ⟨m, h1, _⟩, _⟩ := h; omega)
  | n + 1 => ok_law_same T (all_law_same T  n)
theorem ok_law_begun (T : Txt P K mg a_BeadError a_BadText a_Refused a_ValueReader) : Cy P w K mg base 1 "_law_begun" s_law_begun [] ["_law_mode", "_law_deep_here", "_law_sign"] (sp_law_begun K) := by
  have nd := sc_law_begun.nd
  refine Cy.mk' T.d_law_begun sc_law_begun (fun vs H Q E h => ?_) (fun f cdv A outer s H vs Q E hr tk po h => ?_)
  · obtain ⟨_, _, _, rfl, _⟩ := h
    rfl
  · obtain ⟨m, d, c, rfl, q1, q2⟩ := h
    refine ⟨_, (pss_cons (ps_if (pt_cmpR (r := rEqU K) (op_eqU hr.units) (pv 2) pe_str (nomark _)) (pss_one (ps_ret (pe_tupN (pa_cons pe_str (pa_cons (pv 1) pa_nil))))) pss_nil)
      (Evl.pss_cut (ps_if (PW.pt (pw_and (pt_cmpR (r := rEqU K) (op_eqU hr.units) (pv 2) pe_str (nomark _)) (pw_and1 (pt_cmpR op_lt (pv 1) pe_int (nomark _))))) (pss_one (ps_ret (pe_tupN (pa_cons pe_str (pa_cons (pe_op (r := rAddU K) op_addU (pv 1) pe_int) pa_nil))))) pss_nil)
      (Evl.pss_cut (ps_if (PW.pt (pw_and (pt_cmpR (r := rEqU K) (op_eqU hr.units) (pv 2) pe_str (nomark _)) (pw_and1 (pt_cmpR (r := rEqU K) (op_eqU hr.units) (pv 0) pe_str (nomark _))))) (pss_one (ps_ret (pe_tupN (pa_cons pe_str (pa_cons (pe_op op_sub (pv 1) pe_int) pa_nil))))) pss_nil)
      (pss_cons (ps_if (pt_cmpR (r := rEqU K) (op_eqU hr.units) (pv 2) pe_str (nomark _)) (pss_one (ps_ret (pe_tupN (pa_cons pe_str (pa_cons (pv 1) pa_nil))))) pss_nil)
      (pss_cons (ps_if (pt_cmpR (r := rEqU K) (op_eqU hr.units) (pv 2) pe_str (nomark _)) (pss_one (ps_ret (pe_tupN (pa_cons pe_str (pa_cons (pv 1) pa_nil))))) pss_nil)
      (pss_one (ps_ret (pe_ifExp (pt_cmpR (r := rInU K) op_inU (pv 2) pe_str rfl) (pe_tupN (pa_cons pe_int (pa_cons (pv 1) pa_nil))) pe_non)))))))), ?_⟩
    try dsimp only
    rw [sQ, sOp, sCl, sMi, s0, s19]
    refine ⟨_, rfl, .inl ⟨rfl, _, rfl, ite_b (fun h => ?_) (fun h34 => ?_)⟩⟩
    · have e := wd h
      subst e
      exact ⟨_, rfl, small1m (by show 2 ≤ 1000000; decide), fun t H1 nt s1 e1 => q2 .word d (rfl) t H1 s1 (tup_of e1)⟩
    have n34 := wn h34
    refine ⟨fun σ' H' => σ' = [some (mV m), some (.int d), some (W [c])] ∧ H' = H ∧ ¬ (c = 40 ∧ d < 40), ?_, fun σ' H' hm => ?_⟩
    · refine ⟨_, rfl, .inl ⟨rfl, _, rfl, ite_b (fun h => ?_) (fun h => ?_)⟩⟩
      · have e := wd h
        subst e
        refine ⟨_, rfl, _, _, rfl, rfl, _, rfl, ite_b (fun h2 => ?_) (fun h2 => ?_)⟩
        · refine ⟨_, rfl, .inl ⟨_, _, rfl, rfl, small1m (by show 2 ≤ 1000000; decide), fun t H1 nt s1 e1 => q2 .first (d + 1) (?_) t H1 s1 (tup_of e1)⟩⟩
          unfold M84.begun
          try dsimp only
          rw [if_neg n34, if_pos ⟨rfl, of_decide_eq_true h2⟩]
        · exact ⟨rfl, rfl, fun z => of_decide_eq_false h2 z.2⟩
      · exact ⟨rfl, rfl, fun z => wn h z.1⟩
    obtain ⟨rfl, rfl, n40⟩ := hm
    refine ⟨fun σ' H'' => σ' = [some (mV m), some (.int d), some (W [c])] ∧ H'' = H' ∧ ¬ (c = 41 ∧ m = .first), ?_, fun σ' H'' hm => ?_⟩
    · refine ⟨_, rfl, .inl ⟨rfl, _, rfl, ite_b (fun h => ?_) (fun h => ?_)⟩⟩
      · have e := wd h
        subst e
        refine ⟨_, rfl, .inl ⟨by cases m <;> rfl, _, rfl, ?_⟩⟩
        try dsimp only
        rw [eq_first]
        refine ite_b (fun h2 => ?_) (fun h2 => ?_)
        · refine ⟨_, rfl, _, _, rfl, rfl, small1m (by show 2 ≤ 1000000; decide), fun t H1 nt s1 e1 => q2 .done (d - 1) (?_) t H1 s1 (tup_of e1)⟩
          unfold M84.begun
          try dsimp only
          rw [if_neg n34, if_neg n40, if_pos ⟨rfl, of_decide_eq_true h2⟩]
        · exact ⟨rfl, rfl, fun z => of_decide_eq_false h2 z.2⟩
      · exact ⟨rfl, rfl, fun z => wn h z.1⟩
    obtain ⟨rfl, rfl, n41⟩ := hm
    refine ⟨_, rfl, .inl ⟨rfl, _, rfl, ite_b (fun h => ?_) (fun h45 => ?_)⟩⟩
    · have e := wd h
      subst e
      exact ⟨_, rfl, small1m (by show 2 ≤ 1000000; decide), fun t H1 nt s1 e1 => q2 .minus d (by unfold M84.begun; rw [if_neg n34, if_neg n40, if_neg n41, if_pos rfl]) t H1 s1 (tup_of e1)⟩
    refine ⟨_, rfl, .inl ⟨rfl, _, rfl, ite_b (fun h => ?_) (fun h48 => ?_)⟩⟩
    · have e := wd h
      subst e
      exact ⟨_, rfl, small1m (by show 2 ≤ 1000000; decide), fun t H1 nt s1 e1 => q2 .done d (by unfold M84.begun; rw [if_neg n34, if_neg n40, if_neg n41, if_neg (by decide), if_pos rfl]) t H1 s1 (tup_of e1)⟩
    refine ⟨_, rfl, .inl ⟨c, _, rfl, rfl, _, rfl, ?_⟩⟩
    have h19 : decide (c ∈ (S [49, 50, 51, 52, 53, 54, 55, 56, 57]).cps.toList) = M84.dig1 c := num_mem1 c
    try dsimp only
    rw [h19]
    refine ite_b (fun h => ?_) (fun h => ?_)
    · exact ⟨_, rfl, small1m (by show 2 ≤ 1000000; decide), fun t H1 nt s1 e1 => q2 (.cnt 1) d (by unfold M84.begun; rw [if_neg n34, if_neg n40, if_neg n41, if_neg (wn h45), if_neg (wn h48), if_pos h]) t H1 s1 (tup_of e1)⟩
    · exact q1 (by unfold M84.begun; rw [if_neg n34, if_neg n40, if_neg n41, if_neg (wn h45), if_neg (wn h48), if_neg (by rw [h]; decide)]) _ (Same.refl _)

theorem ok_law_next (T : Txt P K mg a_BeadError a_BadText a_Refused a_ValueReader) (c_law_begun : Cy P w K mg base 1 "_law_begun" s_law_begun [] ["_law_mode", "_law_deep_here", "_law_sign"] (sp_law_begun K)) : Cy P w K mg base 2 "_law_next" s_law_next [] ["_law_mode", "_law_deep_here", "_law_sign"] (sp_law_next K) := by
  have nd := sc_law_next.nd
  refine Cy.mk' T.d_law_next sc_law_next (fun vs H Q E h => ?_) (fun f cdv A outer s H vs Q E hr tk po h => ?_)
  · obtain ⟨_, _, _, rfl, _⟩ := h
    rfl
  · obtain ⟨m, d, c, rfl, p1, p2⟩ := h
    refine ⟨_, (pss_cons (ps_if (pt_cmpR (r := rInU K) op_inU (pv 0) (pe_tupN (pa_cons pe_str (pa_cons pe_str pa_nil))) rfl) (pss_one (ps_ret (pe_y c_law_begun b_law_begun hr (by omega) (by rfl) takes0 (pa_cons (pv 0) (pa_cons (pv 1) (pa_cons (pv 2) pa_nil)))))) pss_nil)
      (pss_cons (ps_if (pt_cmpR (r := rEqU K) (op_eqU hr.units) (pv 0) pe_str (nomark _)) (pss_cons (ps_if (pt_cmpR (r := rEqU K) (op_eqU hr.units) (pv 2) pe_str (nomark _)) (pss_one (ps_ret (pe_tupN (pa_cons pe_str (pa_cons (pv 1) pa_nil))))) pss_nil)
      (pss_one (ps_ret (pe_ifExp (pt_chain op_le_str op_le_str pe_str (pv 2) pe_str) (pe_tupN (pa_cons pe_str (pa_cons (pv 1) pa_nil))) pe_non)))) pss_nil)
      (Evl.pss_cut (ps_if (PW.pt (pw_and (pt_cmpR (r := rEqU K) (op_eqU hr.units) (pv 0) pe_str (nomark _)) (pw_and1 (pt_cmpR (r := rInU K) op_inU (pv 2) pe_str rfl)))) (pss_one (ps_ret (pe_tupN (pa_cons pe_int (pa_cons (pv 1) pa_nil))))) pss_nil)
      (Evl.pss_cut (ps_if (PW.pt (pw_and (pt_val (pe_callB (r := rIsi K) call_isi (by rfl) T.n_isinstance (by decide +kernel) (pa_cons (pv 0) (pa_cons (pe_bltn (v := .ty "int") (by rfl) T.n_int (by decide +kernel) rfl) pa_nil)))) (pw_and1 (pt_cmpR (r := rInU K) op_inU (pv 2) pe_str rfl)))) (pss_one (ps_ret (pe_ifExp (pt_cmpR op_lt (pv 0) pe_int (nomark _)) (pe_tupN (pa_cons (pe_op (r := rAddU K) op_addU (pv 0) pe_int) (pa_cons (pv 1) pa_nil))) pe_non))) pss_nil)
      (Evl.pss_cut (ps_if (PW.pt (pw_and (pt_cmpR op_gt (pv 1) pe_int (nomark _)) (pw_and1 (pt_cmpR (r := rEqU K) (op_eqU hr.units) (pv 2) pe_str (nomark _))))) (pss_one (ps_ret (pe_tupN (pa_cons pe_str (pa_cons (pv 1) pa_nil))))) pss_nil)
      (pss_one (ps_ret (pe_ifExp (PW.pt (pw_and (pt_cmpR op_gt (pv 1) pe_int (nomark _)) (pw_and1 (pt_cmpR (r := rEqU K) (op_eqU hr.units) (pv 2) pe_str (nomark _))))) (pe_tupN (pa_cons pe_str (pa_cons (pe_op op_sub (pv 1) pe_int) pa_nil))) pe_non)))))))), ?_⟩
    try dsimp only
    rw [sQ, sSp, sTi, sCl, s19, sNum]
    refine ⟨_, rfl, small1m (by show 2 ≤ 1000000; decide), fun t0 H0 nt0 sH0 e0 => .inr ⟨t0, _, rfl, .inr (tup_of e0), mV_flat m, rfl, _, rfl, ?_⟩⟩
    have hin : (if (false : Bool) = true then !inV (mV m) [.str (Str.ofString "want"), .str (Str.ofString "first")] else inV (mV m) [.str (Str.ofString "want"), .str (Str.ofString "first")]) = decide (m = .want ∨ m = .first) := (if_neg (by decide)).trans (in_wf m)
    try dsimp only
    rw [hin]
    have q1 : M84.nxt m d c = none → ∀ H', Same H0 H' → Q .non H' := fun e H' s => p1 e H' (sH0.trans s)
    have q2 : ∀ m' d', M84.nxt m d c = some (m', d') → ∀ t H', Same H0 H' → SqT K H' t [mV m', .int d'] → Q (.ref t) H' := fun m' d' e t H' s hT => p2 m' d' e t H' (sH0.trans s) hT
    clear p1 p2 hin
    refine ite_b (fun h => ?_) (fun h => ?_)
    · refine ⟨_, rfl, _, rfl, _, rfl, m, d, c, rfl, ?_⟩
      rcases of_decide_eq_true h with rfl | rfl
      · exact ⟨q1, q2⟩
      · exact ⟨q1, q2⟩
    have hwf := of_decide_eq_false h
    refine ⟨_, rfl, .inl ⟨by cases m <;> rfl, _, rfl, ?_⟩⟩
    try dsimp only
    rw [eq_word]
    refine ite_b (fun h => ?_) (fun h => ?_)
    · have e := of_decide_eq_true h
      subst e
      refine ⟨_, rfl, .inl ⟨rfl, _, rfl, ite_b (fun h => ?_) (fun h34 => ?_)⟩⟩
      · have e := wd h
        subst e
        exact ⟨_, rfl, small1m (by show 2 ≤ 1000000; decide), fun t H1 nt s1 e1 => q2 .done d (rfl) t H1 s1 (tup_of e1)⟩
      have n34 := wn h34
      refine ⟨_, rfl, _, _, rfl, rfl, _, rfl, ?_⟩
      try dsimp only
      rw [W_le]
      refine ite_b (fun h1 => ?_) (fun h1 => ?_)
      · refine ⟨_, _, rfl, rfl, _, rfl, ?_⟩
        try dsimp only
        rw [W_le]
        refine ite_b (fun h2 => ?_) (fun h2 => ?_)
        · exact ⟨_, rfl, small1m (by show 2 ≤ 1000000; decide), fun t H1 nt s1 e1 => q2 .word d ((if_neg n34).trans (if_pos ⟨of_decide_eq_true h1, of_decide_eq_true h2⟩)) t H1 s1 (tup_of e1)⟩
        · exact q1 ((if_neg n34).trans (if_neg fun z => of_decide_eq_false h2 z.2)) _ (Same.refl _)
      · exact ⟨_, rfl, iteF (q1 ((if_neg n34).trans (if_neg fun z => of_decide_eq_false h1 z.1)) _ (Same.refl _))⟩
    have hw := of_decide_eq_false h
    refine ⟨fun σ' H' => σ' = [some (mV m), some (.int d), some (W [c])] ∧ H' = H0 ∧ ¬ (m = .minus ∧ M84.dig1 c = true), ?_, fun σ' H' hm => ?_⟩
    · refine ⟨_, rfl, .inl ⟨by cases m <;> rfl, _, rfl, ?_⟩⟩
      try dsimp only
      rw [eq_minus]
      refine ite_b (fun h => ?_) (fun h => ⟨rfl, rfl, fun z => of_decide_eq_false h z.1⟩)
      have e := of_decide_eq_true h
      subst e
      refine ⟨_, rfl, .inl ⟨c, _, rfl, rfl, _, rfl, ?_⟩⟩
      have h19 : decide (c ∈ (S [49, 50, 51, 52, 53, 54, 55, 56, 57]).cps.toList) = M84.dig1 c := num_mem1 c
      try dsimp only
      rw [h19]
      refine ite_b (fun h => ?_) (fun h => ⟨rfl, rfl, fun z => by rw [z.2] at h; cases h⟩)
      exact ⟨_, rfl, small1m (by show 2 ≤ 1000000; decide), fun t H1 nt s1 e1 => q2 (.cnt 1) d (if_pos h) t H1 s1 (tup_of e1)⟩
    obtain ⟨rfl, rfl, nmi⟩ := hm
    refine ⟨fun σ' H'' => σ' = [some (mV m), some (.int d), some (W [c])] ∧ H'' = H' ∧ ¬ (isC m = true ∧ M84.dig c = true), ?_, fun σ' H'' hm => ?_⟩
    · refine ⟨_, rfl, _, .ty "int", _, .type "int", _, rfl, .ty _, mV_ty m, kit_ty (mV_kit m), _, rfl, ite_b (fun h => ?_) (fun h => ⟨rfl, rfl, fun z => by rw [z.1] at h; cases h⟩)⟩
      refine ⟨_, rfl, .inl ⟨c, _, rfl, rfl, _, rfl, ?_⟩⟩
      have h09 : decide (c ∈ (S NUM).cps.toList) = M84.dig c := num_mem c
      try dsimp only
      rw [h09]
      refine ite_b (fun h2 => ?_) (fun h2 => ⟨rfl, rfl, fun z => by rw [z.2] at h2; cases h2⟩)
      cases m with
      | cnt k =>
        refine ⟨_, rfl, _, _, rfl, rfl, _, rfl, ite_b (fun h3 => ?_) (fun h3 => ?_)⟩
        · have h3' : k < 100 := by
            have := of_decide_eq_true h3
            omega
          refine ⟨_, rfl, .inl ⟨_, _, rfl, rfl, _, rfl, small1m (by show 2 ≤ 1000000; decide), fun t H1 nt s1 e1 => q2 (.cnt (k + 1)) d ((if_pos h2).trans (if_pos h3')) t H1 s1 (tup_of e1)⟩⟩
        · exact q1 ((if_pos h2).trans (if_neg fun z => of_decide_eq_false h3 (by omega))) _ (Same.refl _)
      | want => cases h
      | first => cases h
      | word => cases h
      | minus => cases h
      | done => cases h
    obtain ⟨rfl, rfl, nc⟩ := hm
    have ho := nxt_out (d := d) hwf hw nmi nc
    rw [ho] at q1 q2
    refine ⟨fun σ' H3 => σ' = [some (mV m), some (.int d), some (W [c])] ∧ H3 = H'' ∧ ¬ (0 < d ∧ c = 32), ?_, fun σ' H3 hm => ?_⟩
    · refine ⟨_, rfl, _, _, rfl, rfl, _, rfl, ite_b (fun h => ?_) (fun h => ⟨rfl, rfl, fun z => of_decide_eq_false h z.1⟩)⟩
      refine ⟨_, rfl, .inl ⟨rfl, _, rfl, ite_b (fun h2 => ?_) (fun h2 => ⟨rfl, rfl, fun z => wn h2 z.2⟩)⟩⟩
      exact ⟨_, rfl, small1m (by show 2 ≤ 1000000; decide), fun t H1 nt s1 e1 => q2 .want d (if_pos ⟨of_decide_eq_true h, wd h2⟩) t H1 s1 (tup_of e1)⟩
    obtain ⟨rfl, rfl, n32⟩ := hm
    refine ⟨_, rfl, _, _, rfl, rfl, _, rfl, ite_b (fun h => ?_) (fun h => ?_)⟩
    · refine ⟨_, rfl, .inl ⟨rfl, _, rfl, ite_b (fun h2 => ?_) (fun h2 => ?_)⟩⟩
      · exact ⟨_, rfl, _, _, rfl, rfl, small1m (by show 2 ≤ 1000000; decide), fun t H1 nt s1 e1 => q2 .done (d - 1) ((if_neg n32).trans (if_pos ⟨of_decide_eq_true h, wd h2⟩)) t H1 s1 (tup_of e1)⟩
      · exact q1 ((if_neg n32).trans (if_neg fun z => wn h2 z.2)) _ (Same.refl _)
    · exact q1 ((if_neg n32).trans (if_neg fun z => of_decide_eq_false h z.1)) _ (Same.refl _)

theorem ok_law_stop (T : Txt P K mg a_BeadError a_BadText a_Refused a_ValueReader) (c_law_next : Cy P w K mg base 2 "_law_next" s_law_next [] ["_law_mode", "_law_deep_here", "_law_sign"] (sp_law_next K)) : Cy P w K mg base 3 "_law_stop" s_law_stop [] ["_law_text"] sp_law_stop := by
  have nd := sc_law_stop.nd
  refine Cy.mk' T.d_law_stop sc_law_stop (fun vs H Q E h => ?_) (fun f cdv A outer s H vs Q E hr tk po h => ?_)
  · obtain ⟨_, rfl, _⟩ := h
    rfl
  · obtain ⟨l, rfl, hl, q1, q2⟩ := h
    refine ⟨_, (pss_cons (ps_asg (pe_tupN (pa_cons pe_str (pa_cons pe_int pa_nil))) (pg_tup rfl (pgs_cons (pg_name (i := 1) nd rfl (.inl rfl)) (pgs_cons (pg_name (i := 2) nd rfl (.inl rfl)) pgs_nil))))
      (pss_cons (ps_for po rfl (pi_range1 (by rfl) T.n_range (pa_cons (pe_callB (r := rLenU K) cr_lenU (by rfl) T.n_len (by decide +kernel) (pa_cons (pv 0) pa_nil)) pa_nil)) (pg_name (i := 3) nd rfl (.inl rfl)) (pss_cons (ps_set (i := 4) nd rfl (.inl rfl) (pe_y c_law_next b_law_next hr (by omega) (by rfl) takes0 (pa_cons (pv 1) (pa_cons (pv 2) (pa_cons (pe_ix (r := rIx K) ix_seq (pv 0) (pv 3) (fun _ _ => rfl)) pa_nil)))))
      (pss_cons (ps_if (pt_cmpR op_isU (pv 4) pe_non (nomark _)) (pss_one (ps_ret (pv 3))) pss_nil)
      (pss_one (ps_asg (pv 4) (pg_tup rfl (pgs_cons (pg_name (i := 1) nd rfl (.inl rfl)) (pgs_cons (pg_name (i := 2) nd rfl (.inl rfl)) pgs_nil))))))))
      (pss_one (ps_ret (pe_ifExp (PW.pt (pw_and (pt_cmpR (r := rEqU K) (op_eqU hr.units) (pv 2) pe_int (nomark _)) (pw_and1 (pt_cmpR (r := rNotInU K) op_notInU (pv 1) (pe_tupN (pa_cons pe_str (pa_cons pe_str (pa_cons pe_str pa_nil)))) rfl)))) pe_non (pe_callB (r := rLenU K) cr_lenU (by rfl) T.n_len (by decide +kernel) (pa_cons (pv 0) pa_nil))))))), ?_⟩
    refine ⟨small1m (by show 2 ≤ 1000000; decide), fun t0 H0 nt0 sH0 e0 => ⟨t0, _, rfl, tup_of e0, rfl, _, _, rfl, _, _, rfl, rfl, ?_⟩⟩
    refine ⟨_, rfl, .inl ⟨_, rfl, S_small (n := 0) (by omega), _, rfl, by rw [S_len]; omega, by rw [S_len]; omega, ?_⟩⟩
    have fin : ∀ (m : M84.Md) (d : Int) (a b : Option V) (H' : Hp), Same H H' → M84.stp .want 0 l = M84.stp m d [] → _ := fun m d a b H' s e => (show (M84.stp .want 0 l = if d = 0 ∧ m ≠ .want ∧ m ≠ .first ∧ m ≠ .word then none else some []) from e)
    refine for_range (n := l.length) (D := { nx := tRet (tIf (tAnd (tTest (tOp (rEqU K) (tVar 2) (tC (.int 0)))) (tTest (tOp (rNotInU K) (tVar 1) (tTupN (tCons (tC (.str (Str.ofString "want"))) (tCons (tC (.str (Str.ofString "first"))) (tCons (tC (.str (Str.ofString "word"))) tNil))))))) (tC .non) (tCB (rLenU K) (tCons (tVar 0) tNil))) { nx := fun _ H' => Q .non H', rt := Q }, rt := Q }) (fun i σ' H' => ∃ (m : M84.Md) (d : Int) (a b : Option V), σ' = [some (W l), some (mV m), some (.int d), a, b] ∧ Same H H' ∧ M84.stp .want 0 l = M84.stp m d (l.drop i)) ⟨.want, 0, none, none, rfl, sH0, rfl⟩ (fun i σ' H' hi hp => ?_) (fun σ' H' hp => ?_)
    · obtain ⟨m, d, a, b, rfl, s, e⟩ := hp
      try dsimp only
      rw [Int.zero_add]
      have hd : l.drop i = l.getD i 0 :: l.drop (i + 1) := by
        try dsimp only
        rw [List.getD_eq_getElem?_getD, List.getElem?_eq_getElem hi]
        exact List.drop_eq_getElem_cons hi
      refine ⟨_, rfl, _, rfl, _, rfl, _, rfl, .inr (.inr ⟨_, _, l.getD i 0, rfl, rfl, S_small (n := 0) (by omega), S_at hi, m, d, l.getD i 0, rfl, fun en H1 s1 => ?_, fun m' d' en t H1 s1 hT => ?_⟩)⟩
      · rw [hd, M84.stp_stop en, ← hd] at e
        refine ⟨_, rfl, .inl ⟨rfl, _, rfl, ite_b (fun _ => ⟨_, rfl, ?_⟩) (fun hc => absurd rfl (of_decide_eq_false hc))⟩⟩
        have := q2 _ e H1 (s.trans s1)
        rw [List.length_drop, show l.length - (l.length - i) = i by omega] at this
        exact this
      · rw [hd, M84.stp_cons en] at e
        refine ⟨_, rfl, .inl ⟨rfl, _, rfl, ite_b (fun hc => absurd (of_decide_eq_true hc) (fun z => by cases z)) (fun hc => ⟨_, rfl, t, _, rfl, hT, rfl, _, _, rfl, _, _, rfl, rfl, m', d', _, _, rfl, s.trans s1, e⟩)⟩⟩
    obtain ⟨m, d, a, b, rfl, s, e⟩ := hp
    rw [List.drop_length] at e
    have e2 := fin m d a b H' s e
    refine ⟨_, rfl, .inl ⟨rfl, _, rfl, ite_b (fun h => ?_) (fun h => ?_)⟩⟩
    · have hd0 : d = 0 := V.int.inj (of_decide_eq_true h)
      refine ⟨_, rfl, small1m (by show 3 ≤ 1000000; decide), fun t H1 nt s1 e1 => .inr ⟨t, _, rfl, .inr (tup_of e1), mV_flat m, rfl, _, rfl, ?_⟩⟩
      have hin : (if (true : Bool) = true then !inV (mV m) [.str (Str.ofString "want"), .str (Str.ofString "first"), .str (Str.ofString "word")] else inV (mV m) [.str (Str.ofString "want"), .str (Str.ofString "first"), .str (Str.ofString "word")]) = !decide (m = .want ∨ m = .first ∨ m = .word) := (if_pos rfl).trans (by rw [in_wfw])
      try dsimp only
      rw [hin]
      refine ite_b (fun h2 => ?_) (fun h2 => ?_)
      · have h3 : ¬ (m = .want ∨ m = .first ∨ m = .word) := by simpa using h2
        rw [if_pos ⟨hd0, fun z => h3 (.inl z), fun z => h3 (.inr (.inl z)), fun z => h3 (.inr (.inr z))⟩] at e2
        exact q1 e2 H1 (s.trans s1)
      · have h3 : m = .want ∨ m = .first ∨ m = .word := by
          cases hdx : decide (m = .want ∨ m = .first ∨ m = .word) with
          | true => exact of_decide_eq_true hdx
          | false => rw [hdx] at h2; cases h2
        rw [if_neg (fun z => by rcases h3 with h3 | h3 | h3; exact z.2.1 h3; exact z.2.2.1 h3; exact z.2.2.2 h3)] at e2
        refine ⟨_, rfl, .inl ⟨_, rfl, S_small (n := 0) (by omega), ?_⟩⟩
        try dsimp only
        rw [S_len]
        exact q2 [] e2 H1 (s.trans s1)
    · have hd0 : ¬ d = 0 := fun z => of_decide_eq_false h (by rw [z])
      rw [if_neg (fun z => hd0 z.1)] at e2
      refine ⟨_, rfl, .inl ⟨_, rfl, S_small (n := 0) (by omega), ?_⟩⟩
      try dsimp only
      rw [S_len]
      exact q2 [] e2 H' s

theorem ok_law_bent (T : Txt P K mg a_BeadError a_BadText a_Refused a_ValueReader) (c_law_any : Cy P w K mg base 1 "_law_any" s_law_any [] ["_law_deal", "_law_bound"] sp_law_any) (c_law_of : Cy P w K mg base 2 "_law_of" s_law_of [] ["_law_deal", "_law_some"] (sp_law_of K)) (c_law_signs : Cy P w K mg base 1 "_law_signs" s_law_signs [] [] sp_law_signs) : Cy P w K mg base 3 "_law_bent" s_law_bent [] ["_law_deal", "_law_text"] sp_law_bent := by
  have nd := sc_law_bent.nd
  refine Cy.mk' T.d_law_bent sc_law_bent (fun vs H Q E h => ?_) (fun f cdv A outer s H vs Q E hr tk po h => ?_)
  · obtain ⟨_, _, _, rfl, _⟩ := h
    rfl
  · obtain ⟨b, p, l, rfl, hl0, hl1, hD, q⟩ := h
    refine ⟨_, (pss_cons (ps_set (i := 2) nd rfl (.inl rfl) (pe_y c_law_any b_law_any hr (by omega) (by rfl) takes0 (pa_cons (pv 0) (pa_cons (pe_callB (r := rLenU K) cr_lenU (by rfl) T.n_len (by decide +kernel) (pa_cons (pv 1) pa_nil)) pa_nil))))
      (pss_cons (ps_set (i := 3) nd rfl (.inl rfl) (pe_y c_law_of b_law_of hr (by omega) (by rfl) takes0 (pa_cons (pv 0) (pa_cons (pe_lstN (pa_cons (pe_y c_law_of b_law_of hr (by omega) (by rfl) takes0 (pa_cons (pv 0) (pa_cons (pe_y0 c_law_signs b_law_signs hr (by omega) (by rfl) takes0) pa_nil))) (pa_cons (pe_y c_law_of b_law_of hr (by omega) (by rfl) takes0 (pa_cons (pv 0) (pa_cons pe_str pa_nil))) (pa_cons pe_str pa_nil)))) pa_nil))))
      (pss_cons (ps_set (i := 4) nd rfl (.inl rfl) (pe_lstN (pa_cons (pe_op (r := rAddU K) op_addU (pe_slice (r := rSlU K) sl_U (pv 1) po_none (po_some (pv 2))) (pe_slice (r := rSlU K) sl_U (pv 1) (po_some (pe_op (r := rAddU K) op_addU (pv 2) pe_int)) po_none)) (pa_cons (pe_op (r := rAddU K) op_addU (pe_op (r := rAddU K) op_addU (pe_slice (r := rSlU K) sl_U (pv 1) po_none (po_some (pv 2))) (pv 3)) (pe_slice (r := rSlU K) sl_U (pv 1) (po_some (pe_op (r := rAddU K) op_addU (pv 2) pe_int)) po_none)) (pa_cons (pe_op (r := rAddU K) op_addU (pe_op (r := rAddU K) op_addU (pe_slice (r := rSlU K) sl_U (pv 1) po_none (po_some (pv 2))) (pv 3)) (pe_slice (r := rSlU K) sl_U (pv 1) (po_some (pv 2)) po_none)) (pa_cons (pe_slice (r := rSlU K) sl_U (pv 1) po_none (po_some (pv 2))) pa_nil))))))
      (pss_cons (ps_set (i := 4) nd rfl (.inl rfl) (pe_op (r := rAddU K) op_addU (pv 4) (pe_lstN (pa_cons (pe_op (r := rAddU K) op_addU (pe_op (r := rAddU K) op_addU (pe_slice (r := rSlU K) sl_U (pv 1) po_none (po_some (pv 2))) (pe_ix (r := rIx K) ix_seq (pv 1) (pv 2) (fun _ _ => rfl))) (pe_slice (r := rSlU K) sl_U (pv 1) (po_some (pv 2)) po_none)) (pa_cons (pe_op (r := rAddU K) op_addU (pv 1) (pv 3)) (pa_cons (pe_op (r := rAddU K) op_addU (pv 1) pe_str) (pa_cons (pe_op (r := rAddU K) op_addU (pv 1) (pv 1)) (pa_cons (pe_op (r := rAddU K) op_addU (pe_op (r := rAddU K) op_addU pe_str (pv 1)) pe_str) (pa_cons (pe_op (r := rAddU K) op_addU pe_str (pv 1)) (pa_cons (pe_op (r := rAddU K) op_addU (pv 1) pe_str) pa_nil))))))))))
      (pss_cons (ps_set (i := 4) nd rfl (.inl rfl) (pe_op (r := rAddU K) op_addU (pv 4) (pe_lstN (pa_cons (pe_op (r := rAddU K) op_addU (pe_op (r := rAddU K) op_addU (pe_slice (r := rSlU K) sl_U (pv 1) po_none (po_some (pv 2))) (pe_op op_mulU pe_str (pe_y c_law_of b_law_of hr (by omega) (by rfl) takes0 (pa_cons (pv 0) (pa_cons (pe_lstN (pa_cons pe_int (pa_cons pe_int (pa_cons pe_int pa_nil)))) pa_nil))))) (pe_slice (r := rSlU K) sl_U (pv 1) (po_some (pv 2)) po_none)) (pa_cons (pe_op (r := rAddU K) op_addU (pe_op op_mulU pe_str (pe_y c_law_of b_law_of hr (by omega) (by rfl) takes0 (pa_cons (pv 0) (pa_cons (pe_lstN (pa_cons pe_int (pa_cons pe_int (pa_cons pe_int (pa_cons pe_int pa_nil))))) pa_nil)))) (pv 1)) pa_nil)))))
      (pss_one (ps_ret (pe_y c_law_of b_law_of hr (by omega) (by rfl) takes0 (pa_cons (pv 0) (pa_cons (pv 4) pa_nil)))))))))), ?_⟩
    try dsimp only
    rw [sPar, sNl, sSp, sOp, sCl, s1]
    have hl6 : l.length ≤ 1000000 := by omega
    refine ⟨_, rfl, _, rfl, .inl ⟨_, rfl, S_small (n := 0) hl6, b, p, _, rfl, by rw [S_len]; omega, by rw [S_len]; omega, hD, fun H1 r d1 r0 r1 => ?_⟩⟩
    obtain ⟨k, rfl⟩ := Int.eq_ofNat_of_zero_le r0
    have hk : k < l.length := by
      rw [S_len] at r1
      omega
    refine ⟨_, rfl, _, rfl, rfl, b, p, _, rfl, d1.2, .inr ⟨SIGNS, rfl, by decide, by decide, fun H2 c2 d2 _ => ?_⟩⟩
    refine ⟨_, rfl, b, p, _, rfl, d2.2, .inr ⟨_, rfl, by decide, by decide, fun H3 c3 d3 _ => ?_⟩⟩
    refine ⟨small1m (by show 3 ≤ 1000000; decide), fun l4 H4 nl4 s4 e4 => ?_⟩
    have dd := ((d1.trans d2).trans d3).then s4
    obtain ⟨n1, n2⟩ := ((d1.trans d2).trans d3).2.new_ne nl4
    refine ⟨b, p, _, rfl, dd.2, .inl ⟨l4, _, rfl, n1, n2, lst_of e4, by show 0 < 3; decide, by show 3 ≤ 1000; decide, fun H5 x d5 hx => ?_⟩⟩
    obtain ⟨cs, rfl⟩ : ∃ cs : Nat, x = W [cs] := by
      simp only [List.mem_cons, List.not_mem_nil, or_false] at hx
      rcases hx with rfl | rfl | rfl
      · exact ⟨_, rfl⟩
      · exact ⟨_, rfl⟩
      · exact ⟨_, rfl⟩
    have dd5 := dd.trans d5
    clear hx
    refine ⟨_, rfl, _, rfl, _, rfl, slTo hl6 (⟨_, rfl, _, rfl, .inl ⟨_, _, rfl, rfl, _, rfl, slFrom1 hl6 (addW (by (try simp only [List.length_append, List.length_take, List.length_drop, List.length_cons, List.length_nil, List.length_replicate]); omega) (⟨_, rfl, _, rfl, _, rfl, slTo hl6 (⟨_, rfl, addW (by (try simp only [List.length_append, List.length_take, List.length_drop, List.length_cons, List.length_nil, List.length_replicate]); omega) (⟨_, rfl, _, rfl, .inl ⟨_, _, rfl, rfl, _, rfl, slFrom1 hl6 (addW (by (try simp only [List.length_append, List.length_take, List.length_drop, List.length_cons, List.length_nil, List.length_replicate]); omega) (⟨_, rfl, _, rfl, _, rfl, slTo hl6 (⟨_, rfl, addW (by (try simp only [List.length_append, List.length_take, List.length_drop, List.length_cons, List.length_nil, List.length_replicate]); omega) (⟨_, rfl, _, rfl, _, rfl, slFrom hl6 (addW (by (try simp only [List.length_append, List.length_take, List.length_drop, List.length_cons, List.length_nil, List.length_replicate]); omega) (⟨_, rfl, _, rfl, _, rfl, slTo hl6 (⟨small1m (by show 4 ≤ 1000000; decide), fun a1 H6 na1 s6 e6 => ?_⟩)⟩))⟩)⟩)⟩))⟩⟩)⟩)⟩))⟩⟩)⟩
    refine ⟨_, rfl, ⟨_, rfl, _, rfl, _, rfl, slTo hl6 (⟨_, rfl, _, rfl, ixW hl6 hk (addW (by (try simp only [List.length_append, List.length_take, List.length_drop, List.length_cons, List.length_nil, List.length_replicate]); omega) (⟨_, rfl, _, rfl, _, rfl, slFrom hl6 (addW (by (try simp only [List.length_append, List.length_take, List.length_drop, List.length_cons, List.length_nil, List.length_replicate]); omega) (⟨_, rfl, ⟨_, rfl, addW (by (try simp only [List.length_append, List.length_take, List.length_drop, List.length_cons, List.length_nil, List.length_replicate]); omega) (⟨_, rfl, litC (addW (by (try simp only [List.length_append, List.length_take, List.length_drop, List.length_cons, List.length_nil, List.length_replicate]); omega) (⟨_, rfl, ⟨_, rfl, addW (by (try simp only [List.length_append, List.length_take, List.length_drop, List.length_cons, List.length_nil, List.length_replicate]); omega) (⟨_, rfl, addW (by (try simp only [List.length_append, List.length_take, List.length_drop, List.length_cons, List.length_nil, List.length_replicate]); omega) (litC (addW (by (try simp only [List.length_append, List.length_take, List.length_drop, List.length_cons, List.length_nil, List.length_replicate]); omega) (⟨_, rfl, addW (by (try simp only [List.length_append, List.length_take, List.length_drop, List.length_cons, List.length_nil, List.length_replicate]); omega) (⟨_, rfl, litC (addW (by (try simp only [List.length_append, List.length_take, List.length_drop, List.length_cons, List.length_nil, List.length_replicate]); omega) (⟨small1m (by show 7 ≤ 1000000; decide), fun a2 H7 na2 s7 e7 => .inr (.inr (.inl ⟨a1, a2, _, _, rfl, rfl, s7 _ _ e6, e7, small1m (by show 4 + 7 ≤ 1000000; decide), fun a3 H8 na3 s8 e8 => ?_⟩))⟩))⟩)⟩)))⟩)⟩⟩))⟩)⟩⟩))⟩))⟩)⟩⟩
    have dd8 := ((dd5.then s6).then s7).then s8
    obtain ⟨n31, n32⟩ := ((dd5.then s6).then s7).2.new_ne na3
    have mul3 : ∀ (H9 : Hp) (ls : List V) (Q2 : VK), Deal H9 b p → 0 < ls.length → ls.length ≤ 1000 → (∀ x ∈ ls, ∃ n : Nat, x = .int (n : Int) ∧ n ≤ 101) → (∀ (H10 : Hp) (n : Nat), DrD b p H9 H10 → n ≤ 101 → Q2 (.int (n : Int)) H10) → NewO H9 (.lst ls) (fun y H10 => sp_law_of K [.ref b, y] H10 Q2 (fun _ _ _ => False)) := fun H9 ls Q2 hD9 h0 h1 hall hq y H10 ny s10 e10 => by
      obtain ⟨m1, m2⟩ := hD9.new_ne ny
      refine ⟨b, p, _, rfl, hD9.same s10, .inl ⟨y, ls, rfl, m1, m2, lst_of e10, h0, h1, fun H11 x d11 hx => ?_⟩⟩
      obtain ⟨n, rfl, hn⟩ := hall x hx
      exact hq H11 n ((DrD.of hD9 s10).trans d11) hn
    refine ⟨_, rfl, ?_⟩
    refine ⟨_, rfl, _, rfl, _, rfl, slTo hl6 (⟨_, rfl, small1m (by show 3 ≤ 1000000; decide), mul3 H8 _ _ dd8.2 (by show 0 < 3; decide) (by show 3 ≤ 1000; decide) (fun x hx => ?_) (fun H9 n9 d9 h9 => mulW (by omega) (addW (by (try simp only [List.length_append, List.length_take, List.length_drop, List.length_cons, List.length_nil, List.length_replicate]); omega) (⟨_, rfl, _, rfl, _, rfl, slFrom hl6 (addW (by (try simp only [List.length_append, List.length_take, List.length_drop, List.length_cons, List.length_nil, List.length_replicate]); omega) (?_))⟩)))⟩)⟩
    · simp only [List.mem_cons, List.not_mem_nil, or_false] at hx
      rcases hx with rfl | rfl | rfl
      · exact ⟨99, rfl, by decide⟩
      · exact ⟨100, rfl, by decide⟩
      · exact ⟨101, rfl, by decide⟩
    refine ⟨_, rfl, small1m (by show 4 ≤ 1000000; decide), mul3 H9 _ _ d9.2 (by show 0 < 4; decide) (by show 4 ≤ 1000; decide) (fun x hx => ?_) (fun H10 n10 d10 h10 => mulW (by omega) ⟨_, rfl, addW (by (try simp only [List.length_append, List.length_take, List.length_drop, List.length_cons, List.length_nil, List.length_replicate]); omega) ⟨small1m (by show 2 ≤ 1000000; decide), fun a4 H11 na4 s11 e11 => ?_⟩⟩)⟩
    · simp only [List.mem_cons, List.not_mem_nil, or_false] at hx
      rcases hx with rfl | rfl | rfl | rfl
      · exact ⟨38, rfl, by decide⟩
      · exact ⟨39, rfl, by decide⟩
      · exact ⟨40, rfl, by decide⟩
      · exact ⟨41, rfl, by decide⟩
    have e8' := s11 _ _ (d10.1 _ _ n31 n32 (d9.1 _ _ n31 n32 e8))
    refine .inr (.inr (.inl ⟨a3, a4, _, _, rfl, rfl, e8', e11, small1m (by show 11 + 2 ≤ 1000000; decide), fun a5 H12 na5 s12 e12 => ?_⟩))
    have dd12 := (((dd8.trans d9).trans d10).then s11).then s12
    obtain ⟨n51, n52⟩ := (((dd8.trans d9).trans d10).then s11).2.new_ne na5
    refine ⟨_, rfl, _, rfl, b, p, _, rfl, dd12.2, .inl ⟨a5, _, rfl, n51, n52, lst_of e12, by show 0 < 13; decide, by show 13 ≤ 1000; decide, fun H13 x d13 hx => ?_⟩⟩
    have hq : ∀ l' : List Nat, l'.length ≤ 30000 → Q (W l') H13 := fun l' h => q H13 l' (dd12.trans d13) h
    clear e12 e11 e8 e8' e7 e6 mul3
    simp only [List.cons_append, List.nil_append, List.mem_cons, List.not_mem_nil, or_false] at hx
    rcases hx with rfl | rfl | rfl | rfl | rfl | rfl | rfl | rfl | rfl | rfl | rfl | rfl | rfl <;> exact hq _ (by (try simp only [List.length_append, List.length_take, List.length_drop, List.length_cons, List.length_nil, List.length_replicate]); omega)

theorem ok_law_refused (T : Txt P K mg a_BeadError a_BadText a_Refused a_ValueReader) (c_read_value : Cy P w K mg base 100 "read_value" s_read_value [] ["text"] (sp_read_value K a_BadText)) : Cy P w K mg base 101 "_law_refused" s_law_refused [] ["_law_text", "_law_due"] (sp_law_refused K) := by
  have nd := sc_law_refused.nd
  refine Cy.mk' T.d_law_refused sc_law_refused (fun vs H Q E h => ?_) (fun f cdv A outer s H vs Q E hr tk po h => ?_)
  · obtain ⟨_, _, _, rfl, _⟩ := h
    rfl
  · obtain ⟨x, v, k, rfl, hv, h, q⟩ := h
    refine ⟨_, (pss_cons (ps_try_as (i := 2) rfl rfl nd rfl rfl ⟨by rfl, by decide, .inl T.k_BadText⟩ tk (fun _ _ _ tke1 poe1 => (pss_one (ps_expr (pe_yk0 (ks := ["text"]) (g := pick [0]) (gV := pick [0]) c_read_value (fun _ _ _ _ _ _ us ws h1 h2 => match us, ws, h1, h2 with | [], [_], _, _ => rfl) (pick_rel _) hr (by omega) (by rfl) tke1 (pk_cons (pv 0) pk_nil))))) (fun _ _ _ _ _ hze1 hfe1 => (pss_one (ps_ret (pe_and (pe_cmpR (r := rEqU K) (op_eqU hr.units) (pe_xf T.x_BadText T.nx_BadText_at hze1 hfe1 (pv 2)) (pv 1) (nomark _)) (pe_and (pe_callB (call_isX hze1 hfe1) (by rfl) T.n_isinstance (by decide +kernel) (pa_cons (pv 2) (pa_cons (pe_glob (v := .ref a_BeadError) (by rfl) T.k_BeadError rfl) pa_nil))) (pe_one (pe_not (pe_callB (call_isX hze1 hfe1) (by rfl) T.n_isinstance (by decide +kernel) (pa_cons (pv 2) (pa_cons (pe_glob (v := .ref a_Refused) (by rfl) T.k_Refused rfl) pa_nil)))))))))))
      (pss_one (ps_ret pe_bl))), ?_⟩
    have lk : List.lookup ("at" : Str) [(("at" : Str), V.int k)] = some (V.int k) := by simp [List.lookup]
    refine ⟨_, rfl, rfl, rfl, x, v, rfl, hv, fun hs d H' nd s e => ?_, fun l el => ?_⟩
    · rcases h with ⟨_, rfl⟩ | ⟨l, s2, rfl, _⟩
      · refine ⟨true, T.m_BadText, fun _ a ha => ?_, fun z => Bool.noConfusion z⟩
        refine ⟨_, rfl, rfl, rfl, d, _, _, rfl, e, lk, _, rfl, .inl ⟨rfl, _, rfl, ite_b (fun _ => ?_) (fun hc => absurd rfl (of_decide_eq_false hc))⟩⟩
        exact ⟨_, rfl, _, _, d, _, true, rfl, rfl, rfl, e, T.i_BadText, T.ki_BadText_BeadError, _, rfl, iteT ⟨_, rfl, _, _, d, _, false, rfl, rfl, rfl, e, T.i_BadText, T.ki_BadText_Refused, _, rfl, q H' s⟩⟩
      · cases hs
    · subst el
      rcases h with ⟨hs, _⟩ | ⟨l', s2, el, hl, hst, rfl⟩
      · cases hs
      cases el
      refine ⟨hl, fun hn => ?_, fun s3 hst3 d H' nd s e => ?_⟩
      · rw [hst] at hn
        cases hn
      · rw [hst] at hst3
        cases hst3
        refine ⟨true, T.m_BadText, fun _ a ha => ?_, fun z => Bool.noConfusion z⟩
        refine ⟨_, rfl, rfl, rfl, d, _, _, rfl, e, lk, _, rfl, .inl ⟨rfl, _, rfl, ite_b (fun _ => ?_) (fun hc => absurd rfl (of_decide_eq_false hc))⟩⟩
        exact ⟨_, rfl, _, _, d, _, true, rfl, rfl, rfl, e, T.i_BadText, T.ki_BadText_BeadError, _, rfl, iteT ⟨_, rfl, _, _, d, _, false, rfl, rfl, rfl, e, T.i_BadText, T.ki_BadText_Refused, _, rfl, q H' s⟩⟩

theorem ok_law_not_written (T : Txt P K mg a_BeadError a_BadText a_Refused a_ValueReader) (c_value_text : Cy P w K mg base 50 "value_text" s_value_text [] ["value"] (sp_value_text K a_BadText)) : Cy P w K mg base 51 "_law_not_written" s_law_not_written [] ["_law_thing_here"] (sp_law_not_written K) := by
  have nd := sc_law_not_written.nd
  refine Cy.mk' T.d_law_not_written sc_law_not_written (fun vs H Q E h => ?_) (fun f cdv A outer s H vs Q E hr tk po h => ?_)
  · obtain ⟨_, _, rfl, _⟩ := h
    rfl
  · obtain ⟨x, v, rfl, hv, hs, hV, q⟩ := h
    refine ⟨_, (pss_cons (ps_try_as (i := 1) rfl rfl nd rfl rfl ⟨by rfl, by decide, .inl T.k_BadText⟩ tk (fun _ _ _ tke1 poe1 => (pss_one (ps_expr (pe_yk0 (ks := ["value"]) (g := pick [0]) (gV := pick [0]) c_value_text (fun _ _ _ _ _ _ us ws h1 h2 => match us, ws, h1, h2 with | [], [_], _, _ => rfl) (pick_rel _) hr (by omega) (by rfl) tke1 (pk_cons (pv 0) pk_nil))))) (fun _ _ _ _ _ hze1 hfe1 => (pss_one (ps_ret (pe_cmpR (r := rEqU K) (op_eqU hr.units) (pe_xf T.x_BadText T.nx_BadText_at hze1 hfe1 (pv 1)) (pe_un un_neg pe_int) (nomark _))))))
      (pss_one (ps_ret pe_bl))), ?_⟩
    have lk : List.lookup ("at" : Str) [(("at" : Str), V.int (-1))] = some (V.int (-1)) := by simp [List.lookup]
    refine ⟨_, rfl, rfl, rfl, x, v, rfl, hv, hs, fun z => ?_, fun _ d H' nd s e => ?_⟩
    · rw [hV] at z
      cases z
    · refine ⟨true, T.m_BadText, fun _ a ha => ?_, fun z => Bool.noConfusion z⟩
      refine ⟨_, rfl, rfl, rfl, d, _, _, rfl, e, lk, _, rfl, .inl ⟨rfl, ?_⟩⟩
      have := q H' s
      try dsimp only
      rw [show decide (V.int (-1) = V.int (-1)) = true from decide_eq_true rfl]
      exact this

theorem ok_law (T : Txt P K mg a_BeadError a_BadText a_Refused a_ValueReader) (c_law_dealt : Cy P w K mg base 1 "_law_dealt" s_law_dealt [] ["_law_script", "_law_base"] (sp_law_dealt K)) (c_law_thing : Cy P w K mg base 9 "_law_thing" s_law_thing [] ["_law_deal", "_law_deep_here"] (sp_law_thing K 4)) (c_law_any : Cy P w K mg base 1 "_law_any" s_law_any [] ["_law_deal", "_law_bound"] sp_law_any) (c_law_within : Cy P w K mg base 1 "_law_within" s_law_within [] ["_law_value", "_law_times"] (sp_law_within K)) (c_law_of : Cy P w K mg base 2 "_law_of" s_law_of [] ["_law_deal", "_law_some"] (sp_law_of K)) (c_law_deep : Cy P w K mg base 7 "_law_deep" s_law_deep [] ["_law_value"] (sp_law_deep K 4)) (c_value_text : Cy P w K mg base 50 "value_text" s_value_text [] ["value"] (sp_value_text K a_BadText)) (c_law_stop : Cy P w K mg base 3 "_law_stop" s_law_stop [] ["_law_text"] sp_law_stop) (c_law_written : Cy P w K mg base 44 "_law_written" s_law_written [] ["_law_value"] (sp_law_written K 41)) (c_law_same : Cy P w K mg base 44 "_law_same" s_law_same [] ["_law_one", "_law_other"] (sp_law_same K 41)) (c_read_value : Cy P w K mg base 100 "read_value" s_read_value [] ["text"] (sp_read_value K a_BadText)) (c_law_bent : Cy P w K mg base 3 "_law_bent" s_law_bent [] ["_law_deal", "_law_text"] sp_law_bent) (c_law_refused : Cy P w K mg base 101 "_law_refused" s_law_refused [] ["_law_text", "_law_due"] (sp_law_refused K)) (c_law_not_written : Cy P w K mg base 51 "_law_not_written" s_law_not_written [] ["_law_thing_here"] (sp_law_not_written K)) : Cy P w K mg base 110 "law" s_law [] ["_law_script"] (sp_law K) := by
  have nd := sc_law.nd
  refine Cy.mk' T.d_law sc_law (fun vs H Q E h => ?_) (fun f cdv A outer s H vs Q E hr tk po h => ?_)
  · obtain ⟨_, _, rfl, _⟩ := h
    rfl
  · obtain ⟨s, ns, rfl, hs, q⟩ := h
    refine ⟨_, (pss_cons (ps_set (i := 1) nd rfl (.inl rfl) (pe_y c_law_dealt b_law_dealt hr (by omega) (by rfl) takes0 (pa_cons (pv 0) (pa_cons pe_int pa_nil))))
      (Evl.pss_cut (ps_for po rfl (pi_range1 (by rfl) T.n_range (pa_cons pe_int pa_nil)) (pg_name (i := 2) nd rfl (.inl rfl)) (pss_cons (ps_set (i := 3) nd rfl (.inl rfl) (pe_y c_law_thing b_law_thing hr (by omega) (by rfl) takes0 (pa_cons (pv 1) (pa_cons pe_int pa_nil))))
      (Evl.pss_cut (ps_if (pt_cmpR (r := rEqU K) (op_eqU hr.units) (pe_y c_law_any b_law_any hr (by omega) (by rfl) takes0 (pa_cons (pv 1) (pa_cons pe_int pa_nil))) pe_int (nomark _)) (pss_one (ps_set (i := 3) nd rfl (.inl rfl) (pe_y c_law_within b_law_within hr (by omega) (by rfl) takes0 (pa_cons (pv 3) (pa_cons (pe_op op_sub (pe_y c_law_of b_law_of hr (by omega) (by rfl) takes0 (pa_cons (pv 1) (pa_cons (pe_lstN (pa_cons pe_int (pa_cons pe_int (pa_cons pe_int (pa_cons pe_int (pa_cons pe_int (pa_cons pe_int pa_nil))))))) pa_nil))) (pe_y c_law_deep b_law_deep hr (by omega) (by rfl) takes0 (pa_cons (pv 3) pa_nil))) pa_nil))))) pss_nil)
      (pss_cons (ps_set (i := 4) nd rfl (.inl rfl) (pe_y c_value_text b_value_text hr (by omega) (by rfl) tk (pa_cons (pv 3) pa_nil)))
      (pss_cons (ps_if (PW.pt (pw_or (pt_cmpR (r := rNeU K) (op_neU hr.units) (pv 4) (pe_y c_law_written b_law_written hr (by omega) (by rfl) takes0 (pa_cons (pv 3) pa_nil)) (nomark _)) (pw_or1 (pt_cmpR op_notU (pe_y c_law_stop b_law_stop hr (by omega) (by rfl) takes0 (pa_cons (pv 4) pa_nil)) pe_non (nomark _))))) (pss_one (ps_ret pe_bl)) pss_nil)
      (pss_cons (ps_if (PW.pt (pw_or (pt_not (pt_val (pe_y c_law_same b_law_same hr (by omega) (by rfl) takes0 (pa_cons (pe_y c_read_value b_read_value hr (by omega) (by rfl) tk (pa_cons (pv 4) pa_nil)) (pa_cons (pv 3) pa_nil))))) (pw_or1 (pt_not (pt_val (pe_y c_law_same b_law_same hr (by omega) (by rfl) takes0 (pa_cons (pe_y c_read_value b_read_value hr (by omega) (by rfl) tk (pa_cons (pe_y c_value_text b_value_text hr (by omega) (by rfl) tk (pa_cons (pv 3) pa_nil)) pa_nil)) (pa_cons (pv 3) pa_nil)))))))) (pss_one (ps_ret pe_bl)) pss_nil)
      (Evl.pss_cut (ps_for po rfl (pi_range1 (by rfl) T.n_range (pa_cons pe_int pa_nil)) (pg_name (i := 5) nd rfl (.inl rfl)) (pss_cons (ps_set (i := 6) nd rfl (.inl rfl) (pe_y c_law_bent b_law_bent hr (by omega) (by rfl) takes0 (pa_cons (pv 1) (pa_cons (pv 4) pa_nil))))
      (pss_cons (ps_set (i := 7) nd rfl (.inl rfl) (pe_y c_law_stop b_law_stop hr (by omega) (by rfl) takes0 (pa_cons (pv 6) pa_nil)))
      (pss_one (ps_if (pt_cmpR op_notU (pv 7) pe_non (nomark _)) (pss_one (ps_if (pt_not (pt_val (pe_y c_law_refused b_law_refused hr (by omega) (by rfl) takes0 (pa_cons (pv 6) (pa_cons (pv 7) pa_nil))))) (pss_one (ps_ret pe_bl)) pss_nil)) (pss_one (ps_if (PW.pt (pw_or (pt_cmpR (r := rNeU K) (op_neU hr.units) (pe_y c_value_text b_value_text hr (by omega) (by rfl) tk (pa_cons (pe_y c_read_value b_read_value hr (by omega) (by rfl) tk (pa_cons (pv 6) pa_nil)) pa_nil)) (pv 6) (nomark _)) (pw_or1 (pt_cmpR (r := rNeU K) (op_neU hr.units) (pe_y c_law_written b_law_written hr (by omega) (by rfl) takes0 (pa_cons (pe_y c_read_value b_read_value hr (by omega) (by rfl) tk (pa_cons (pv 6) pa_nil)) pa_nil)) (pv 6) (nomark _))))) (pss_one (ps_ret pe_bl)) pss_nil)))))))
      (pss_cons (ps_set (i := 8) nd rfl (.inl rfl) (pe_y c_law_of b_law_of hr (by omega) (by rfl) takes0 (pa_cons (pv 1) (pa_cons (pe_lstN (pa_cons pe_bl (pa_cons pe_bl (pa_cons (pe_lstN (pa_cons pe_non pa_nil)) (pa_cons (pe_lstN pa_nil) (pa_cons (pe_lstN (pa_cons pe_int (pa_cons pe_str pa_nil))) (pa_cons (pe_op op_mulU (pe_op op_pow pe_int pe_int) (pe_op op_pow pe_int pe_int)) (pa_cons (pe_un un_neg (pe_op op_mulU (pe_op op_pow pe_int pe_int) (pe_op op_pow pe_int pe_int))) (pa_cons pe_str (pa_cons pe_str (pa_cons pe_str (pa_cons pe_str pa_nil)))))))))))) pa_nil))))
      (pss_cons (ps_if (PW.pt (pw_or (pt_not (pt_val (pe_y c_law_not_written b_law_not_written hr (by omega) (by rfl) takes0 (pa_cons (pv 8) pa_nil)))) (pw_or1 (pt_not (pt_val (pe_y c_law_not_written b_law_not_written hr (by omega) (by rfl) takes0 (pa_cons (pe_y c_law_within b_law_within hr (by omega) (by rfl) takes0 (pa_cons (pe_tupN (pa_cons pe_non (pa_cons (pv 8) (pa_cons pe_int pa_nil)))) (pa_cons (pe_y c_law_any b_law_any hr (by omega) (by rfl) takes0 (pa_cons (pv 1) (pa_cons pe_int pa_nil))) pa_nil))) pa_nil))))))) (pss_one (ps_ret pe_bl)) pss_nil)
      (pss_one (ps_if (pt_not (pt_val (pe_y c_law_refused b_law_refused hr (by omega) (by rfl) takes0 (pa_cons (pe_y c_law_of b_law_of hr (by omega) (by rfl) takes0 (pa_cons (pv 1) (pa_cons (pe_lstN (pa_cons pe_non (pa_cons pe_int (pa_cons (pe_tupN (pa_cons (pv 4) pa_nil)) (pa_cons (pe_lstN (pa_cons (pv 4) pa_nil)) (pa_cons pe_bl pa_nil)))))) pa_nil))) (pa_cons (pe_un un_neg pe_int) pa_nil))))) (pss_one (ps_ret pe_bl)) pss_nil)))))))))))
      (pss_one (ps_ret (pe_y c_law_refused b_law_refused hr (by omega) (by rfl) takes0 (pa_cons pe_str (pa_cons pe_int pa_nil))))))), ?_⟩
    try dsimp only
    rw [sA, sAnB, sAqB, sTab, sQ, sE]
    refine ⟨_, rfl, s, ns, rfl, hs, fun H1 b p s1 nb np hD => ?_⟩
    refine ⟨fun _ _ => True, ?_, fun σ' H' _ => ?_⟩
    rotate_left
    · exact ⟨W [], .str [], 0, rfl, rfl, .inr ⟨[], [], rfl, by decide, rfl, rfl⟩, fun H2 _ => q H2⟩
    refine ⟨_, rfl, by decide, by decide, for_range (lo := 0) (n := 2) (D := { nx := fun _ _ => True, rt := Q }) (fun i σ' H' => ∃ a2 a3 a4 a5 a6 a7 a8 : Option V, σ' = [some (.ref s), some (.ref b), a2, a3, a4, a5, a6, a7, a8] ∧ DrD b p H1 H') ⟨none, none, none, none, none, none, none, rfl, .of hD (Same.refl _)⟩ (fun i σ' H' hi hp => ?_) (fun _ _ _ => trivial)⟩
    obtain ⟨a2, a3, a4, a5, a6, a7, a8, rfl, dd⟩ := hp
    refine ⟨_, rfl, b, p, 3, rfl, by decide, dd.2, fun H2 x v d2 hv tv => ?_⟩
    have B3 : Bd 3 = 6718 := by decide
    have tvl : (M84.txt v).length ≤ 6718 := by
      have := tv.2
      rw [B3] at this
      exact this
    refine ⟨fun σ' H' => ∃ (x' : V) (v' : Val) (a2 : Option V), σ' = [some (.ref s), some (.ref b), a2, some x', a4, a5, a6, a7, a8] ∧ DrD b p H1 H' ∧ IsV K H' x' v' ∧ M84.isV 40 v' = true ∧ (M84.txt v').length ≤ 7000, ?_, fun σ' H' hm => ?_⟩
    · refine ⟨_, rfl, b, p, 3, rfl, by decide, by decide, d2.2, fun H3 r d3 r0 r1 => .inl ⟨rfl, _, rfl, ite_b (fun hc => ?_) (fun hc => ?_)⟩⟩
      · refine ⟨_, rfl, _, rfl, small1m (by show 6 ≤ 1000000; decide), fun l4 H4 nl4 s4 e4 => ?_⟩
        obtain ⟨n1, n2⟩ := d3.2.new_ne nl4
        refine ⟨b, p, _, rfl, d3.2.same s4, .inl ⟨l4, _, rfl, n1, n2, lst_of e4, by show 0 < 6; decide, by show 6 ≤ 1000; decide, fun H5 y d5 hy => ?_⟩⟩
        obtain ⟨t, rfl, ht0, ht1⟩ : ∃ t : Nat, y = .int (t : Int) ∧ 20 ≤ t ∧ t ≤ 40 := by
          simp only [List.mem_cons, List.not_mem_nil, or_false] at hy
          rcases hy with rfl | rfl | rfl | rfl | rfl | rfl
          · exact ⟨20, rfl, by decide, by decide⟩
          · exact ⟨36, rfl, by decide, by decide⟩
          · exact ⟨37, rfl, by decide, by decide⟩
          · exact ⟨38, rfl, by decide, by decide⟩
          · exact ⟨39, rfl, by decide, by decide⟩
          · exact ⟨40, rfl, by decide, by decide⟩
        have d25 : DrD b p H2 H5 := ((d3.then s4).trans d5)
        have hv5 := IsV.keepD d2.2.b_lst d2.2.p_lst d25.1 v 3 x tv.1 hv
        obtain ⟨hdp, hup⟩ := isV_dp v 3 tv.1
        have hsz := sz_txt v 3 tv.1
        refine ⟨_, rfl, x, v, rfl, hv5, ⟨3, by decide, tv.1⟩, by omega, fun H6 s6 => ⟨_, _, rfl, rfl, x, v, t - dp v, ?_, hv5.same s6, by omega, fun H7 x7 s7 hv7 => ?_⟩⟩
        · show [x, V.int ((t : Int) - (dp v : Int))] = _
          try dsimp only
          rw [show ((t : Int) - (dp v : Int)) = ((t - dp v : Nat) : Int) by omega]
        · refine ⟨x7, _, _, rfl, ((dd.trans d2).trans (d25.then s6)).then s7, hv7, ?_, ?_⟩
          · have h40 := wr_isV (t - dp v) (dp v) v
            have h3 := hup (dp v) (Nat.le_refl _)
            rw [h3] at h40
            have h5 := (isV_dp _ _ h40).2 40 (Nat.le_trans (isV_dp _ _ h40).1 (by omega))
            exact h5
          · try dsimp only
            rw [wr_len]
            omega
      · exact ⟨x, v, _, rfl, (dd.trans d2).trans d3, IsV.keepD d2.2.b_lst d2.2.p_lst d3.1 v 3 x tv.1 hv, (isV_dp v 3 tv.1).2 40 (Nat.le_trans (isV_dp v 3 tv.1).1 (by decide)), by omega⟩
    clear tvl tv hv d2 dd
    obtain ⟨x', v', a2, rfl, dd, hv, hV, hl⟩ := hm
    have hsz := sz_txt v' 40 hV
    obtain ⟨c0, t0, et0, _⟩ := M84.hd_txt hV
    have hlp : 0 < (M84.txt v').length := by rw [et0]; exact Nat.succ_pos _
    refine ⟨_, rfl, x', v', rfl, hv, by omega, fun _ => ⟨by omega, fun H3 s3 => ?_⟩, fun z => by rw [hV] at z; cases z⟩
    have hv3 := hv.same s3
    refine ⟨_, rfl, _, rfl, x', v', rfl, hv3, ⟨40, by decide, hV⟩, by omega, fun H4 s4 => .inl ⟨rfl, _, rfl, ite_b (fun hc => by rw [ne_dec rfl] at hc; cases hc) (fun _ => ?_)⟩⟩
    refine ⟨_, rfl, M84.txt v', rfl, by omega, fun _ H5 s5 => ?_, fun sx hx => by rw [M84.stop_txt hV] at hx; cases hx⟩
    refine .inl ⟨rfl, _, rfl, iteF ?_⟩
    have hv5 := (hv3.same s4).same s5
    refine ⟨_, rfl, W (M84.txt v'), .str (M84.txt v'), rfl, rfl, (fun z => by cases z), fun lx ex => ?_⟩
    cases ex
    refine ⟨by omega, fun _ v2 etx hV2 x2 H6 s6 iv2 => ?_, fun sx hx => by rw [M84.stop_txt hV] at hx; cases hx⟩
    have e2 := txt_inj hV hV2 etx
    subst e2
    refine ⟨_, rfl, x2, x', v', rfl, iv2, hv5.same s6, ⟨40, by decide, hV⟩, by omega, fun H7 s7 => ⟨_, rfl, iteF ?_⟩⟩
    have hv7 := (hv5.same s6).same s7
    refine ⟨_, rfl, x', v', rfl, hv7, by omega, fun _ => ⟨by omega, fun H8 s8 => ?_⟩, fun z => by rw [hV] at z; cases z⟩
    refine ⟨W (M84.txt v'), .str (M84.txt v'), rfl, rfl, (fun z => by cases z), fun lx ex => ?_⟩
    cases ex
    refine ⟨by omega, fun _ v3 etx3 hV3 x3 H9 s9 iv3 => ?_, fun sx hx => by rw [M84.stop_txt hV] at hx; cases hx⟩
    have e3 := txt_inj hV hV3 etx3
    subst e3
    refine ⟨_, rfl, x3, x', v', rfl, iv3, (hv7.same s8).same s9, ⟨40, by decide, hV⟩, by omega, fun H10 s10 => ⟨_, rfl, iteF ?_⟩⟩
    have dd10 : DrD b p H1 H10 := ((((((dd.then s3).then s4).then s5).then s6).then s7).then s8).then s9 |>.then s10
    clear iv2 iv3 hv7 hv5 hv3 hv dd
    refine ⟨fun σ' H' => ∃ a5 a6 a7 a8 : Option V, σ' = [some (.ref s), some (.ref b), a2, some x', some (W (M84.txt v')), a5, a6, a7, a8] ∧ DrD b p H1 H', ?_, fun σ' H' hm => ?_⟩
    · refine ⟨_, rfl, by decide, by decide, for_range (lo := 0) (n := 4) (D := { nx := fun σ' H' => ∃ a5 a6 a7 a8 : Option V, σ' = [some (.ref s), some (.ref b), a2, some x', some (W (M84.txt v')), a5, a6, a7, a8] ∧ DrD b p H1 H', rt := Q }) (fun i σ' H' => ∃ a5 a6 a7 a8 : Option V, σ' = [some (.ref s), some (.ref b), a2, some x', some (W (M84.txt v')), a5, a6, a7, a8] ∧ DrD b p H1 H') ⟨_, _, _, _, rfl, dd10⟩ (fun i σ' H' hi hp => ?_) (fun _ _ h => h)⟩
      obtain ⟨a5, a6, a7, a8, rfl, dd⟩ := hp
      refine ⟨_, rfl, _, rfl, b, p, _, rfl, hlp, by omega, dd.2, fun H11 l' d11 hl' => ?_⟩
      have dd11 := dd.trans d11
      refine ⟨_, rfl, l', rfl, by omega, fun hn H12 s12 => ?_, fun s2 hst H12 s12 => ?_⟩
      · obtain ⟨v2, hpv, el, hV2⟩ := M84.stop_none hn
        have hsz2 := sz_txt v2 40 hV2
        have hl2 : (M84.txt v2).length ≤ 30000 := by rw [← el]; exact hl'
        refine ⟨_, rfl, .inl ⟨rfl, _, rfl, iteF ?_⟩⟩
        refine ⟨_, rfl, W l', .str l', rfl, rfl, (fun z => by cases z), fun lx ex => ?_⟩
        cases ex
        refine ⟨by omega, fun _ v3 e3 hV3 x3 H13 s13 iv3 => ?_, fun sx hx => by rw [hn] at hx; cases hx⟩
        have hsz3 := sz_txt v3 40 hV3
        have hl3 : (M84.txt v3).length ≤ 30000 := by rw [← e3]; exact hl'
        refine ⟨x3, v3, rfl, iv3, by omega, fun _ => ⟨by omega, fun H14 s14 => ?_⟩, fun z => by rw [hV3] at z; cases z⟩
        refine ⟨_, rfl, .inl ⟨rfl, _, rfl, ite_b (fun hc => by rw [ne_dec e3.symm] at hc; cases hc) (fun _ => ?_)⟩⟩
        refine ⟨_, rfl, W l', .str l', rfl, rfl, (fun z => by cases z), fun lx ex => ?_⟩
        cases ex
        refine ⟨by omega, fun _ v4 e4 hV4 x4 H15 s15 iv4 => ?_, fun sx hx => by rw [hn] at hx; cases hx⟩
        have hl4 : (M84.txt v4).length ≤ 30000 := by rw [← e4]; exact hl'
        refine ⟨x4, v4, rfl, iv4, ⟨40, by decide, hV4⟩, by omega, fun H16 s16 => ?_⟩
        refine ⟨_, rfl, .inl ⟨rfl, _, rfl, ite_b (fun hc => by rw [ne_dec e4.symm] at hc; cases hc) (fun _ => ?_)⟩⟩
        exact ⟨_, _, _, _, rfl, ((((dd11.then s12).then s13).then s14).then s15).then s16⟩
      · refine ⟨_, rfl, .inl ⟨rfl, _, rfl, iteT ?_⟩⟩
        refine ⟨_, rfl, _, rfl, W l', .str l', _, rfl, rfl, .inr ⟨l', s2, rfl, by omega, hst, rfl⟩, fun H13 s13 => ⟨_, rfl, iteF ?_⟩⟩
        exact ⟨_, _, _, _, rfl, (dd11.then s12).then s13⟩
    obtain ⟨a5, a6, a7, a8, rfl, dd⟩ := hm
    refine ⟨_, rfl, small1m (by show 1 ≤ 1000000; decide), fun l1 G1 m1 t1 f1 => ⟨by decide, fun l2 G2 m2 t2 f2 => ⟨small1m (by show 2 ≤ 1000000; decide), fun l3 G3 m3 t3 f3 => ⟨_, _, rfl, rfl, ⟨by decide, by decide, by decide⟩, _, _, rfl, rfl, ⟨by decide, by decide, by decide⟩, .inl ⟨_, _, rfl, rfl, (wide_mul (a := 200) (b := 200) (by decide +kernel) (by decide +kernel) (by decide) (by decide) (by decide)).ok, _, _, rfl, rfl, ⟨by decide, by decide, by decide⟩, _, _, rfl, rfl, ⟨by decide, by decide, by decide⟩, .inl ⟨_, _, rfl, rfl, (wide_mul (a := 200) (b := 200) (by decide +kernel) (by decide +kernel) (by decide) (by decide) (by decide)).ok, _, rfl, small1m (by show 11 ≤ 1000000; decide), fun l0 G0 m0 t0 f0 => ?_⟩⟩⟩⟩⟩⟩
    have d1' := dd.then t1
    have d2' := d1'.then t2
    have d3' := d2'.then t3
    have dG := d3'.then t0
    obtain ⟨n11, n12⟩ := dd.2.new_ne m1
    obtain ⟨n21, n22⟩ := d1'.2.new_ne m2
    obtain ⟨n31, n32⟩ := d2'.2.new_ne m3
    obtain ⟨n01, n02⟩ := d3'.2.new_ne m0
    refine ⟨b, p, _, rfl, dG.2, .inl ⟨l0, _, rfl, n01, n02, lst_of f0, by show 0 < 11; decide, by show 11 ≤ 1000; decide, fun G4 y d4 hy => ?_⟩⟩
    have f1' := d4.1 _ _ n11 n12 (t0 _ _ (t3 _ _ (t2 _ _ f1)))
    have f2' := d4.1 _ _ n21 n22 (t0 _ _ (t3 _ _ f2))
    have f3' := d4.1 _ _ n31 n32 (t0 _ _ f3)
    obtain ⟨vo, hbad, hso, hkeep⟩ : ∃ vo : Val, (∀ n, M84.isV n vo = false) ∧ sz vo ≤ 100 ∧ ∀ H'' : Hp, SameD b p G4 H'' → IsV K H'' y vo := by
      clear f0
      simp only [List.mem_cons, List.not_mem_nil, or_false] at hy
      rcases hy with rfl | rfl | rfl | rfl | rfl | rfl | rfl | rfl | rfl | rfl | rfl
      · exact ⟨.bl true, fun n => by cases n <;> rfl, by decide, fun _ _ => rfl⟩
      · exact ⟨.bl false, fun n => by cases n <;> rfl, by decide, fun _ _ => rfl⟩
      · exact ⟨.lst, fun n => by cases n <;> rfl, by decide, fun _ d => ⟨l1, _, rfl, d _ _ n11 n12 f1'⟩⟩
      · exact ⟨.lst, fun n => by cases n <;> rfl, by decide, fun _ d => ⟨l2, _, rfl, d _ _ n21 n22 f2'⟩⟩
      · exact ⟨.lst, fun n => by cases n <;> rfl, by decide, fun _ d => ⟨l3, _, rfl, d _ _ n31 n32 f3'⟩⟩
      · exact ⟨.int _, fun n => by rw [iv_int]; decide +kernel, by show 1 ≤ 100; decide, fun _ _ => rfl⟩
      · exact ⟨.int _, fun n => by rw [iv_int]; decide +kernel, by show 1 ≤ 100; decide, fun _ _ => rfl⟩
      · exact ⟨.str [97, 10, 98], fun n => by rw [iv_str]; decide, by decide, fun _ _ => rfl⟩
      · exact ⟨.str [97, 34, 98], fun n => by rw [iv_str]; decide, by decide, fun _ _ => rfl⟩
      · exact ⟨.str [34], fun n => by rw [iv_str]; decide, by decide, fun _ _ => rfl⟩
      · exact ⟨.str [9], fun n => by rw [iv_str]; decide, by decide, fun _ _ => rfl⟩
    refine ⟨_, rfl, y, vo, rfl, hkeep G4 (SameD.refl _), by omega, hbad 40, fun G5 t5 => ⟨_, rfl, iteF ?_⟩⟩
    have d5 : DrD b p H1 G5 := (dG.trans d4).then t5
    refine ⟨_, rfl, small1m (by show 3 ≤ 1000000; decide), fun t6 G6 m6 s6 f6 => ⟨_, rfl, b, p, 30, rfl, by decide, by decide, (d5.then s6).2, fun G7 r d7 r0 r1 => ?_⟩⟩
    obtain ⟨k, rfl⟩ := Int.eq_ofNat_of_zero_le r0
    obtain ⟨n61, n62⟩ := d5.2.new_ne m6
    have hv7 : IsV K G7 (.ref t6) (.tup [.non, vo, .int 5]) := ⟨t6, _, rfl, tup_of (d7.1 _ _ n61 n62 f6), .non, _, rfl, rfl, y, _, rfl, hkeep G7 ((SameD.of t5).trans ((SameD.of s6).trans d7.1)), .int 5, [], rfl, rfl, rfl⟩
    have hsz7 : sz (.tup [.non, vo, .int 5]) ≤ 200 := by
      simp only [sz, szs]
      omega
    refine ⟨.ref t6, .tup [.non, vo, .int 5], k, rfl, hv7, by omega, fun G8 x8 s8 iv8 => ⟨x8, wr k (.tup [.non, vo, .int 5]), rfl, iv8, by rw [wr_sz]; omega, wr_bad k 40 _ (bad_tup hbad), fun G9 s9 => ⟨_, rfl, iteF ?_⟩⟩⟩
    have d9 : DrD b p H1 G9 := (((d5.then s6).trans d7).then s8).then s9
    refine ⟨_, rfl, _, rfl, small1m (by show 1 ≤ 1000000; decide), fun t10 G10 m10 s10 f10 => ⟨_, rfl, small1m (by show 1 ≤ 1000000; decide), fun l11 G11 m11 s11 f11 => ⟨small1m (by show 5 ≤ 1000000; decide), fun l12 G12 m12 s12 f12 => ?_⟩⟩⟩
    have d10 := d9.then s10
    have d11 := d10.then s11
    have d12 := d11.then s12
    obtain ⟨na1, na2⟩ := d9.2.new_ne m10
    obtain ⟨nb1, nb2⟩ := d10.2.new_ne m11
    obtain ⟨nc1, nc2⟩ := d11.2.new_ne m12
    refine ⟨b, p, _, rfl, d12.2, .inl ⟨l12, _, rfl, nc1, nc2, lst_of f12, by show 0 < 5; decide, by show 5 ≤ 1000; decide, fun G13 y2 d13 hy2 => ?_⟩⟩
    have f10' := d13.1 _ _ na1 na2 (s12 _ _ (s11 _ _ f10))
    have f11' := d13.1 _ _ nb1 nb2 (s12 _ _ f11)
    obtain ⟨v2, h2, iv2⟩ : ∃ v2 : Val, isS v2 = false ∧ IsV K G13 y2 v2 := by
      clear f12
      simp only [List.mem_cons, List.not_mem_nil, or_false] at hy2
      rcases hy2 with rfl | rfl | rfl | rfl | rfl
      · exact ⟨.non, rfl, rfl⟩
      · exact ⟨.int 5, rfl, rfl⟩
      · exact ⟨.tup [.str (M84.txt v')], rfl, t10, _, rfl, tup_of f10', W (M84.txt v'), [], rfl, rfl, rfl⟩
      · exact ⟨.lst, rfl, l11, _, rfl, f11'⟩
      · exact ⟨.bl true, rfl, rfl⟩
    refine ⟨_, rfl, y2, v2, -1, rfl, iv2, .inl ⟨h2, rfl⟩, fun G14 s14 => ⟨_, rfl, iteF ?_⟩⟩
    exact ⟨_, _, _, _, _, _, _, rfl, (d12.trans d13).then s14⟩

end
end K84

namespace K84
open PySem PySem.Spec PyProof.Rows L2 BB
section
variable {P : Program} {w : World} {K : PySem.W.Frag} {mg : Str → Option Value} {base : Heap} {a_BeadError a_BadText a_Refused a_ValueReader : Addr}
theorem all_ok (T : Txt P K mg a_BeadError a_BadText a_Refused a_ValueReader) : Cy P w K mg base 110 "law" s_law [] ["_law_script"] (sp_law K) := by
  have c_is_integer := ok_is_integer (P := P) (w := w) (base := base) T 
  have c_is_text := ok_is_text (P := P) (w := w) (base := base) T 
  have c_is_word_sign := ok_is_word_sign (P := P) (w := w) (base := base) T 
  have c_is_value := all_is_value (P := P) (w := w) (base := base) T c_is_integer c_is_text c_is_word_sign 41
  have c_written := all_written (P := P) (w := w) (base := base) T c_is_integer c_is_text 41
  have c_value_text := ok_value_text (P := P) (w := w) (base := base) T c_is_value c_written
  have c_ValueReader_init := ok_ValueReader_init (P := P) (w := w) (base := base) T 
  have c_ValueReader_next_sign := ok_ValueReader_next_sign (P := P) (w := w) (base := base) T 
  have c_ValueReader_is_at := ok_ValueReader_is_at (P := P) (w := w) (base := base) T c_ValueReader_next_sign
  have c_ValueReader_need := ok_ValueReader_need (P := P) (w := w) (base := base) T c_ValueReader_next_sign
  have c_ValueReader_word := ok_ValueReader_word (P := P) (w := w) (base := base) T c_ValueReader_need c_is_word_sign c_ValueReader_next_sign
  have c_ValueReader_number := ok_ValueReader_number (P := P) (w := w) (base := base) T c_ValueReader_is_at
  have c_ValueReader_value := all_ValueReader_value (P := P) (w := w) (base := base) T c_ValueReader_is_at c_ValueReader_word c_ValueReader_number c_ValueReader_need 41
  have c_read_value := ok_read_value (P := P) (w := w) (base := base) T c_is_text c_ValueReader_init c_ValueReader_value
  have c_law_dealt := ok_law_dealt (P := P) (w := w) (base := base) T 
  have c_law_any := ok_law_any (P := P) (w := w) (base := base) T 
  have c_law_of := ok_law_of (P := P) (w := w) (base := base) T c_law_any
  have c_law_signs := ok_law_signs (P := P) (w := w) (base := base) T 
  have c_law_number := ok_law_number (P := P) (w := w) (base := base) T c_law_any c_law_of
  have c_law_word := ok_law_word (P := P) (w := w) (base := base) T c_law_of c_law_signs
  have c_law_thing := all_law_thing (P := P) (w := w) (base := base) T c_law_any c_law_word c_law_number 4
  have c_law_within := ok_law_within (P := P) (w := w) (base := base) T 
  have c_law_deep := all_law_deep (P := P) (w := w) (base := base) T  4
  have c_law_written := all_law_written (P := P) (w := w) (base := base) T  41
  have c_law_same := all_law_same (P := P) (w := w) (base := base) T  41
  have c_law_begun := ok_law_begun (P := P) (w := w) (base := base) T 
  have c_law_next := ok_law_next (P := P) (w := w) (base := base) T c_law_begun
  have c_law_stop := ok_law_stop (P := P) (w := w) (base := base) T c_law_next
  have c_law_bent := ok_law_bent (P := P) (w := w) (base := base) T c_law_any c_law_of c_law_signs
  have c_law_refused := ok_law_refused (P := P) (w := w) (base := base) T c_read_value
  have c_law_not_written := ok_law_not_written (P := P) (w := w) (base := base) T c_value_text
  have c_law := ok_law (P := P) (w := w) (base := base) T c_law_dealt c_law_thing c_law_any c_law_within c_law_of c_law_deep c_value_text c_law_stop c_law_written c_law_same c_read_value c_law_bent c_law_refused c_law_not_written
  exact c_law

end
end K84
namespace K84
open PySem PySem.Spec PyProof.Rows L2 BB
theorem fin {P : Program} {w : World} {K : PySem.W.Frag} {h : Heap} {mg : Str → Option Value} {fa : Addr} (X : K.In h) (G : h.Ns mainGlobals mg) (hfa : mg "law" = some (.ref fa))
    {a_BeadError : Addr}
    {a_BadText : Addr}
    {a_Refused : Addr}
    {a_ValueReader : Addr}
    {nm_BadText q_BadText : Str} {N_BadText : Addr} {bs_BadText : List Value} {sn_BadText : List Str} {sub__BadText : List Value} {ab_BadText : Bool} {col_BadText : Option Bool} {dd_BadText : Option Addr} {m0_BadText m1_BadText m2_BadText m3_BadText m5_BadText : Option Value}
    {fI_BadText cc_BadText cda_BadText : Addr} {kVI_BadText docI_BadText pmI_BadText ctI_BadText ocI_BadText : Value} {anI_BadText odI_BadText : Option Addr} {oslI_BadText : Array (Option Value)} {vs_BadText : Array Value} {file_BadText : Str} {tf_BadText : Tok} {ccl_BadText : Value} {cdd_BadText : Option Addr} {ccs_BadText : Array (Option Value)} {cl_BadText : Value} {cld_BadText : Option Addr} {csl_BadText : Array (Option Value)}
    {bC_BadText : Value} {bD_BadText : Option Addr} {bK_BadText : ClassData} {bS_BadText : Array (Option Value)}
    {f0 : Addr} {oc0 : Value} {od0 an0 : Option Addr} {os0 : Array (Option Value)} {kV0 dc0 pm0 cd0 ct0 : Value}
    {f1 : Addr} {oc1 : Value} {od1 an1 : Option Addr} {os1 : Array (Option Value)} {kV1 dc1 pm1 cd1 ct1 : Value}
    {f2 : Addr} {oc2 : Value} {od2 an2 : Option Addr} {os2 : Array (Option Value)} {kV2 dc2 pm2 cd2 ct2 : Value}
    {f3 : Addr} {oc3 : Value} {od3 an3 : Option Addr} {os3 : Array (Option Value)} {kV3 dc3 pm3 cd3 ct3 : Value}
    {T3 : Addr} {oT3 : Value} {oD3 : Option Addr} {oS3 : Array (Option Value)} {nT3 : Nat} {tk3_0 : Tok}
    {f4 : Addr} {oc4 : Value} {od4 an4 : Option Addr} {os4 : Array (Option Value)} {kV4 dc4 pm4 cd4 ct4 : Value}
    {f5 : Addr} {oc5 : Value} {od5 an5 : Option Addr} {os5 : Array (Option Value)} {kV5 dc5 pm5 cd5 ct5 : Value}
    {f6 : Addr} {oc6 : Value} {od6 an6 : Option Addr} {os6 : Array (Option Value)} {kV6 dc6 pm6 cd6 ct6 : Value}
    {f7 : Addr} {oc7 : Value} {od7 an7 : Option Addr} {os7 : Array (Option Value)} {kV7 dc7 pm7 cd7 ct7 : Value}
    {f8 : Addr} {oc8 : Value} {od8 an8 : Option Addr} {os8 : Array (Option Value)} {kV8 dc8 pm8 cd8 ct8 : Value}
    {f9 : Addr} {oc9 : Value} {od9 an9 : Option Addr} {os9 : Array (Option Value)} {kV9 dc9 pm9 cd9 ct9 : Value}
    {f10 : Addr} {oc10 : Value} {od10 an10 : Option Addr} {os10 : Array (Option Value)} {kV10 dc10 pm10 cd10 ct10 : Value}
    {f11 : Addr} {oc11 : Value} {od11 an11 : Option Addr} {os11 : Array (Option Value)} {kV11 dc11 pm11 cd11 ct11 : Value}
    {f12 : Addr} {oc12 : Value} {od12 an12 : Option Addr} {os12 : Array (Option Value)} {kV12 dc12 pm12 cd12 ct12 : Value}
    {f13 : Addr} {oc13 : Value} {od13 an13 : Option Addr} {os13 : Array (Option Value)} {kV13 dc13 pm13 cd13 ct13 : Value}
    {f14 : Addr} {oc14 : Value} {od14 an14 : Option Addr} {os14 : Array (Option Value)} {kV14 dc14 pm14 cd14 ct14 : Value}
    {f15 : Addr} {oc15 : Value} {od15 an15 : Option Addr} {os15 : Array (Option Value)} {kV15 dc15 pm15 cd15 ct15 : Value}
    {f16 : Addr} {oc16 : Value} {od16 an16 : Option Addr} {os16 : Array (Option Value)} {kV16 dc16 pm16 cd16 ct16 : Value}
    {f17 : Addr} {oc17 : Value} {od17 an17 : Option Addr} {os17 : Array (Option Value)} {kV17 dc17 pm17 cd17 ct17 : Value}
    {f18 : Addr} {oc18 : Value} {od18 an18 : Option Addr} {os18 : Array (Option Value)} {kV18 dc18 pm18 cd18 ct18 : Value}
    {f19 : Addr} {oc19 : Value} {od19 an19 : Option Addr} {os19 : Array (Option Value)} {kV19 dc19 pm19 cd19 ct19 : Value}
    {f20 : Addr} {oc20 : Value} {od20 an20 : Option Addr} {os20 : Array (Option Value)} {kV20 dc20 pm20 cd20 ct20 : Value}
    {f21 : Addr} {oc21 : Value} {od21 an21 : Option Addr} {os21 : Array (Option Value)} {kV21 dc21 pm21 cd21 ct21 : Value}
    {f22 : Addr} {oc22 : Value} {od22 an22 : Option Addr} {os22 : Array (Option Value)} {kV22 dc22 pm22 cd22 ct22 : Value}
    {f23 : Addr} {oc23 : Value} {od23 an23 : Option Addr} {os23 : Array (Option Value)} {kV23 dc23 pm23 cd23 ct23 : Value}
    {f24 : Addr} {oc24 : Value} {od24 an24 : Option Addr} {os24 : Array (Option Value)} {kV24 dc24 pm24 cd24 ct24 : Value}
    {f25 : Addr} {oc25 : Value} {od25 an25 : Option Addr} {os25 : Array (Option Value)} {kV25 dc25 pm25 cd25 ct25 : Value}
    {f26 : Addr} {oc26 : Value} {od26 an26 : Option Addr} {os26 : Array (Option Value)} {kV26 dc26 pm26 cd26 ct26 : Value}
    {f27 : Addr} {oc27 : Value} {od27 an27 : Option Addr} {os27 : Array (Option Value)} {kV27 dc27 pm27 cd27 ct27 : Value}
    {f28 : Addr} {oc28 : Value} {od28 an28 : Option Addr} {os28 : Array (Option Value)} {kV28 dc28 pm28 cd28 ct28 : Value}
    {f29 : Addr} {oc29 : Value} {od29 an29 : Option Addr} {os29 : Array (Option Value)} {kV29 dc29 pm29 cd29 ct29 : Value}
    {f30 : Addr} {oc30 : Value} {od30 an30 : Option Addr} {os30 : Array (Option Value)} {kV30 dc30 pm30 cd30 ct30 : Value}
    {f31 : Addr} {oc31 : Value} {od31 an31 : Option Addr} {os31 : Array (Option Value)} {kV31 dc31 pm31 cd31 ct31 : Value}
    {f32 : Addr} {oc32 : Value} {od32 an32 : Option Addr} {os32 : Array (Option Value)} {kV32 dc32 pm32 cd32 ct32 : Value}
    {t_QUOTE : Tok}
    {t_BOUND : Tok}
    {t_MOST_DEEP : Tok}
    {t_NUMERALS : Tok}
    {t_MOST_NUMERALS : Tok}
    (k_BeadError : PySem.W.nsIn K mainGlobals "BeadError" = some (some (.ref a_BeadError)))
    (k_BadText : PySem.W.nsIn K mainGlobals "BadText" = some (some (.ref a_BadText)))
    (sub_BadText : PySem.W.subIn K (.ref a_BadText) (.type "BaseException") = some true)
    (tp_BadText : PySem.W.typeIn K (.ref a_BadText) = some (.type "type"))
    (hd_BadText : PySem.W.hasDictIn K a_BadText = true)
    (nf_BadText : PySem.W.findIn K (.ref a_BadText) "at" = some (none))
    (xl_BadText : K.lookup a_BadText = some (excClassObj nm_BadText q_BadText a_BadText N_BadText bs_BadText [.ref a_BeadError, .type "Exception", .type "BaseException", .type "object"] true sn_BadText sub__BadText ab_BadText col_BadText dd_BadText m0_BadText m1_BadText m2_BadText m3_BadText m5_BadText "Exception.__new__"))
    (sa_BadText : PySem.W.findIn K (.ref a_BadText) "__setattr__" = some (some (.builtin "object.__setattr__")))
    (bl_BadText : K.lookup a_BeadError = some ⟨bC_BadText, bD_BadText, .cls bK_BadText, bS_BadText⟩)
    (bm_BadText : bK_BadText.mro = BBX.tail2 a_BeadError)
    (bf_BadText : PySem.W.findIn K (.ref a_BeadError) "__init__" = some (some (.builtin "Exception.__init__")))
    (kc_BadText : PySem.W.keepIn K (.ref a_BadText) = true)
    (iI_BadText : PySem.W.findIn K (.ref a_BadText) "__init__" = some (some (.ref fI_BadText)))
    (tI_BadText : PySem.W.typeIn K (.ref fI_BadText) = some (.type "function"))
    (lI_BadText : K.lookup fI_BadText = some ⟨ocI_BadText, odI_BadText, .func (PySem.W.ksFn "__init__" "BadText.__init__" (defArgs s_BadText_init) (defBody s_BadText_init) (defScope s_BadText_init) .none kVI_BadText docI_BadText pmI_BadText anI_BadText (.ref cda_BadText) ctI_BadText cc_BadText), oslI_BadText⟩)
    (cI_BadText : PySem.W.codeIn K (.ref cda_BadText) "BadText.__init__" = true)
    (lc_BadText : K.lookup cda_BadText = some ⟨ccl_BadText, cdd_BadText, .fields vs_BadText, ccs_BadText⟩)
    (vf_BadText : vs_BadText[2]? = some (.str file_BadText tf_BadText))
    (fl_BadText : ((P.main.file : Str) == file_BadText) = true)
    (ce_BadText : K.lookup cc_BadText = some ⟨cl_BadText, cld_BadText, .cell (some (.ref a_BadText)), csl_BadText⟩)
    (ga_BadText : PySem.W.findIn K (.ref a_BadText) "__getattribute__" = some (some (.builtin "BaseException.__getattribute__")))
    (gg_BadText : PySem.W.findIn K (.ref a_BadText) "__getattr__" = some (none))
    (ss_BadText : PySem.W.subIn K (.ref a_BadText) (.ref a_BadText) = some true)
    (ha_BadText : PySem.W.findIn K (.ref a_BadText) "__class__" = some (some (.builtin "object.__class__")))
    (hm_BadText : PySem.W.mroIn K a_BadText (.type "object") = some true)
    (k_Refused : PySem.W.nsIn K mainGlobals "Refused" = some (some (.ref a_Refused)))
    (k_ValueReader : PySem.W.nsIn K mainGlobals "ValueReader" = some (some (.ref a_ValueReader)))
    (pg_ValueReader : PySem.W.plainGet K a_ValueReader Str.empty = true)
    (hd_ValueReader : PySem.W.hasDictIn K a_ValueReader = true)
    (po_ValueReader : PySem.W.plainOver K a_ValueReader = true)
    (sa_ValueReader : PySem.W.findIn K (.ref a_ValueReader) "__setattr__" = some (some (.builtin "object.__setattr__")))
    (na_ValueReader_at : PySem.W.findIn K (.ref a_ValueReader) "at" = some (none))
    (na_ValueReader_text : PySem.W.findIn K (.ref a_ValueReader) "text" = some (none))
    (mk_ValueReader : PySem.W.makesIn K a_ValueReader = true)
    (kc_ValueReader : PySem.W.keepIn K (.ref a_ValueReader) = true)
    (sup : PySem.W.nsIn K mainGlobals "super" = some none)
    (opq : PySem.W.nsIn K cStatics "thirdparty.any" = some none)
    (top : (P.main.scope.names.lookup ("super" : Str)).isSome = false)
    (spc : PySem.W.specialIn K (.builtin "object.__class__") "__get__" = some (some (.builtin "getset_descriptor.__get__")))
    (tkc : PySem.W.takesIn K (.builtin "object.__class__") = some true)
    (ki_BadText_BeadError : PySem.W.kitOne K (.ref a_BadText) (.ref a_BeadError) = some true)
    (ki_BadText_Refused : PySem.W.kitOne K (.ref a_BadText) (.ref a_Refused) = some false)
    (a0 : PySem.W.nsIn K mainGlobals "is_integer" = some (some (.ref f0)))
    (l0 : K.lookup f0 = some ⟨oc0, od0, .func (PySem.W.fnOf "is_integer" "is_integer" (defArgs s_is_integer) (defBody s_is_integer) (defScope s_is_integer) .none kV0 dc0 pm0 an0 cd0 ct0), os0⟩)
    (c0 : PySem.W.codeIn K cd0 "is_integer" = true)
    (p0 : PySem.W.keepIn K (.ref f0) = true)
    (a1 : PySem.W.nsIn K mainGlobals "is_text" = some (some (.ref f1)))
    (l1 : K.lookup f1 = some ⟨oc1, od1, .func (PySem.W.fnOf "is_text" "is_text" (defArgs s_is_text) (defBody s_is_text) (defScope s_is_text) .none kV1 dc1 pm1 an1 cd1 ct1), os1⟩)
    (c1 : PySem.W.codeIn K cd1 "is_text" = true)
    (p1 : PySem.W.keepIn K (.ref f1) = true)
    (a2 : PySem.W.nsIn K mainGlobals "is_word_sign" = some (some (.ref f2)))
    (l2 : K.lookup f2 = some ⟨oc2, od2, .func (PySem.W.fnOf "is_word_sign" "is_word_sign" (defArgs s_is_word_sign) (defBody s_is_word_sign) (defScope s_is_word_sign) .none kV2 dc2 pm2 an2 cd2 ct2), os2⟩)
    (c2 : PySem.W.codeIn K cd2 "is_word_sign" = true)
    (p2 : PySem.W.keepIn K (.ref f2) = true)
    (a3 : PySem.W.nsIn K mainGlobals "is_value" = some (some (.ref f3)))
    (l3 : K.lookup f3 = some ⟨oc3, od3, .func (PySem.W.fnOf "is_value" "is_value" (defArgs s_is_value) (defBody s_is_value) (defScope s_is_value) (.ref T3) kV3 dc3 pm3 an3 cd3 ct3), os3⟩)
    (c3 : PySem.W.codeIn K cd3 "is_value" = true)
    (p3 : PySem.W.keepIn K (.ref f3) = true)
    (T3_ : K.lookup T3 = some ⟨oT3, oD3, .seq #[.int 0 tk3_0] nT3, oS3⟩)
    (a4 : PySem.W.nsIn K mainGlobals "written" = some (some (.ref f4)))
    (l4 : K.lookup f4 = some ⟨oc4, od4, .func (PySem.W.fnOf "written" "written" (defArgs s_written) (defBody s_written) (defScope s_written) .none kV4 dc4 pm4 an4 cd4 ct4), os4⟩)
    (c4 : PySem.W.codeIn K cd4 "written" = true)
    (p4 : PySem.W.keepIn K (.ref f4) = true)
    (a5 : PySem.W.nsIn K mainGlobals "value_text" = some (some (.ref f5)))
    (l5 : K.lookup f5 = some ⟨oc5, od5, .func (PySem.W.fnOf "value_text" "value_text" (defArgs s_value_text) (defBody s_value_text) (defScope s_value_text) .none kV5 dc5 pm5 an5 cd5 ct5), os5⟩)
    (c5 : PySem.W.codeIn K cd5 "value_text" = true)
    (p5 : PySem.W.keepIn K (.ref f5) = true)
    (a6 : PySem.W.findIn K (.ref a_ValueReader) "__init__" = some (some (.ref f6)))
    (i6 : PySem.W.isFn K (.ref f6) = true)
    (l6 : K.lookup f6 = some ⟨oc6, od6, .func (PySem.W.fnOf "__init__" "ValueReader.__init__" (defArgs s_ValueReader_init) (defBody s_ValueReader_init) (defScope s_ValueReader_init) .none kV6 dc6 pm6 an6 cd6 ct6), os6⟩)
    (c6 : PySem.W.codeIn K cd6 "ValueReader.__init__" = true)
    (p6 : PySem.W.keepIn K (.ref f6) = true)
    (a7 : PySem.W.findIn K (.ref a_ValueReader) "next_sign" = some (some (.ref f7)))
    (i7 : PySem.W.isFn K (.ref f7) = true)
    (l7 : K.lookup f7 = some ⟨oc7, od7, .func (PySem.W.fnOf "next_sign" "ValueReader.next_sign" (defArgs s_ValueReader_next_sign) (defBody s_ValueReader_next_sign) (defScope s_ValueReader_next_sign) .none kV7 dc7 pm7 an7 cd7 ct7), os7⟩)
    (c7 : PySem.W.codeIn K cd7 "ValueReader.next_sign" = true)
    (p7 : PySem.W.keepIn K (.ref f7) = true)
    (a8 : PySem.W.findIn K (.ref a_ValueReader) "is_at" = some (some (.ref f8)))
    (i8 : PySem.W.isFn K (.ref f8) = true)
    (l8 : K.lookup f8 = some ⟨oc8, od8, .func (PySem.W.fnOf "is_at" "ValueReader.is_at" (defArgs s_ValueReader_is_at) (defBody s_ValueReader_is_at) (defScope s_ValueReader_is_at) .none kV8 dc8 pm8 an8 cd8 ct8), os8⟩)
    (c8 : PySem.W.codeIn K cd8 "ValueReader.is_at" = true)
    (p8 : PySem.W.keepIn K (.ref f8) = true)
    (a9 : PySem.W.findIn K (.ref a_ValueReader) "need" = some (some (.ref f9)))
    (i9 : PySem.W.isFn K (.ref f9) = true)
    (l9 : K.lookup f9 = some ⟨oc9, od9, .func (PySem.W.fnOf "need" "ValueReader.need" (defArgs s_ValueReader_need) (defBody s_ValueReader_need) (defScope s_ValueReader_need) .none kV9 dc9 pm9 an9 cd9 ct9), os9⟩)
    (c9 : PySem.W.codeIn K cd9 "ValueReader.need" = true)
    (p9 : PySem.W.keepIn K (.ref f9) = true)
    (a10 : PySem.W.findIn K (.ref a_ValueReader) "value" = some (some (.ref f10)))
    (i10 : PySem.W.isFn K (.ref f10) = true)
    (l10 : K.lookup f10 = some ⟨oc10, od10, .func (PySem.W.fnOf "value" "ValueReader.value" (defArgs s_ValueReader_value) (defBody s_ValueReader_value) (defScope s_ValueReader_value) .none kV10 dc10 pm10 an10 cd10 ct10), os10⟩)
    (c10 : PySem.W.codeIn K cd10 "ValueReader.value" = true)
    (p10 : PySem.W.keepIn K (.ref f10) = true)
    (a11 : PySem.W.findIn K (.ref a_ValueReader) "word" = some (some (.ref f11)))
    (i11 : PySem.W.isFn K (.ref f11) = true)
    (l11 : K.lookup f11 = some ⟨oc11, od11, .func (PySem.W.fnOf "word" "ValueReader.word" (defArgs s_ValueReader_word) (defBody s_ValueReader_word) (defScope s_ValueReader_word) .none kV11 dc11 pm11 an11 cd11 ct11), os11⟩)
    (c11 : PySem.W.codeIn K cd11 "ValueReader.word" = true)
    (p11 : PySem.W.keepIn K (.ref f11) = true)
    (a12 : PySem.W.findIn K (.ref a_ValueReader) "number" = some (some (.ref f12)))
    (i12 : PySem.W.isFn K (.ref f12) = true)
    (l12 : K.lookup f12 = some ⟨oc12, od12, .func (PySem.W.fnOf "number" "ValueReader.number" (defArgs s_ValueReader_number) (defBody s_ValueReader_number) (defScope s_ValueReader_number) .none kV12 dc12 pm12 an12 cd12 ct12), os12⟩)
    (c12 : PySem.W.codeIn K cd12 "ValueReader.number" = true)
    (p12 : PySem.W.keepIn K (.ref f12) = true)
    (a13 : PySem.W.findIn K (.ref a_ValueReader) "parts" = some (some (.ref f13)))
    (i13 : PySem.W.isFn K (.ref f13) = true)
    (l13 : K.lookup f13 = some ⟨oc13, od13, .func (PySem.W.fnOf "parts" "ValueReader.parts" (defArgs s_ValueReader_parts) (defBody s_ValueReader_parts) (defScope s_ValueReader_parts) .none kV13 dc13 pm13 an13 cd13 ct13), os13⟩)
    (c13 : PySem.W.codeIn K cd13 "ValueReader.parts" = true)
    (p13 : PySem.W.keepIn K (.ref f13) = true)
    (a14 : PySem.W.nsIn K mainGlobals "read_value" = some (some (.ref f14)))
    (l14 : K.lookup f14 = some ⟨oc14, od14, .func (PySem.W.fnOf "read_value" "read_value" (defArgs s_read_value) (defBody s_read_value) (defScope s_read_value) .none kV14 dc14 pm14 an14 cd14 ct14), os14⟩)
    (c14 : PySem.W.codeIn K cd14 "read_value" = true)
    (p14 : PySem.W.keepIn K (.ref f14) = true)
    (a15 : PySem.W.nsIn K mainGlobals "_law_dealt" = some (some (.ref f15)))
    (l15 : K.lookup f15 = some ⟨oc15, od15, .func (PySem.W.fnOf "_law_dealt" "_law_dealt" (defArgs s_law_dealt) (defBody s_law_dealt) (defScope s_law_dealt) .none kV15 dc15 pm15 an15 cd15 ct15), os15⟩)
    (c15 : PySem.W.codeIn K cd15 "_law_dealt" = true)
    (p15 : PySem.W.keepIn K (.ref f15) = true)
    (a16 : PySem.W.nsIn K mainGlobals "_law_any" = some (some (.ref f16)))
    (l16 : K.lookup f16 = some ⟨oc16, od16, .func (PySem.W.fnOf "_law_any" "_law_any" (defArgs s_law_any) (defBody s_law_any) (defScope s_law_any) .none kV16 dc16 pm16 an16 cd16 ct16), os16⟩)
    (c16 : PySem.W.codeIn K cd16 "_law_any" = true)
    (p16 : PySem.W.keepIn K (.ref f16) = true)
    (a17 : PySem.W.nsIn K mainGlobals "_law_of" = some (some (.ref f17)))
    (l17 : K.lookup f17 = some ⟨oc17, od17, .func (PySem.W.fnOf "_law_of" "_law_of" (defArgs s_law_of) (defBody s_law_of) (defScope s_law_of) .none kV17 dc17 pm17 an17 cd17 ct17), os17⟩)
    (c17 : PySem.W.codeIn K cd17 "_law_of" = true)
    (p17 : PySem.W.keepIn K (.ref f17) = true)
    (a18 : PySem.W.nsIn K mainGlobals "_law_signs" = some (some (.ref f18)))
    (l18 : K.lookup f18 = some ⟨oc18, od18, .func (PySem.W.fnOf "_law_signs" "_law_signs" (defArgs s_law_signs) (defBody s_law_signs) (defScope s_law_signs) .none kV18 dc18 pm18 an18 cd18 ct18), os18⟩)
    (c18 : PySem.W.codeIn K cd18 "_law_signs" = true)
    (p18 : PySem.W.keepIn K (.ref f18) = true)
    (a19 : PySem.W.nsIn K mainGlobals "_law_number" = some (some (.ref f19)))
    (l19 : K.lookup f19 = some ⟨oc19, od19, .func (PySem.W.fnOf "_law_number" "_law_number" (defArgs s_law_number) (defBody s_law_number) (defScope s_law_number) .none kV19 dc19 pm19 an19 cd19 ct19), os19⟩)
    (c19 : PySem.W.codeIn K cd19 "_law_number" = true)
    (p19 : PySem.W.keepIn K (.ref f19) = true)
    (a20 : PySem.W.nsIn K mainGlobals "_law_word" = some (some (.ref f20)))
    (l20 : K.lookup f20 = some ⟨oc20, od20, .func (PySem.W.fnOf "_law_word" "_law_word" (defArgs s_law_word) (defBody s_law_word) (defScope s_law_word) .none kV20 dc20 pm20 an20 cd20 ct20), os20⟩)
    (c20 : PySem.W.codeIn K cd20 "_law_word" = true)
    (p20 : PySem.W.keepIn K (.ref f20) = true)
    (a21 : PySem.W.nsIn K mainGlobals "_law_thing" = some (some (.ref f21)))
    (l21 : K.lookup f21 = some ⟨oc21, od21, .func (PySem.W.fnOf "_law_thing" "_law_thing" (defArgs s_law_thing) (defBody s_law_thing) (defScope s_law_thing) .none kV21 dc21 pm21 an21 cd21 ct21), os21⟩)
    (c21 : PySem.W.codeIn K cd21 "_law_thing" = true)
    (p21 : PySem.W.keepIn K (.ref f21) = true)
    (a22 : PySem.W.nsIn K mainGlobals "_law_within" = some (some (.ref f22)))
    (l22 : K.lookup f22 = some ⟨oc22, od22, .func (PySem.W.fnOf "_law_within" "_law_within" (defArgs s_law_within) (defBody s_law_within) (defScope s_law_within) .none kV22 dc22 pm22 an22 cd22 ct22), os22⟩)
    (c22 : PySem.W.codeIn K cd22 "_law_within" = true)
    (p22 : PySem.W.keepIn K (.ref f22) = true)
    (a23 : PySem.W.nsIn K mainGlobals "_law_deep" = some (some (.ref f23)))
    (l23 : K.lookup f23 = some ⟨oc23, od23, .func (PySem.W.fnOf "_law_deep" "_law_deep" (defArgs s_law_deep) (defBody s_law_deep) (defScope s_law_deep) .none kV23 dc23 pm23 an23 cd23 ct23), os23⟩)
    (c23 : PySem.W.codeIn K cd23 "_law_deep" = true)
    (p23 : PySem.W.keepIn K (.ref f23) = true)
    (a24 : PySem.W.nsIn K mainGlobals "_law_written" = some (some (.ref f24)))
    (l24 : K.lookup f24 = some ⟨oc24, od24, .func (PySem.W.fnOf "_law_written" "_law_written" (defArgs s_law_written) (defBody s_law_written) (defScope s_law_written) .none kV24 dc24 pm24 an24 cd24 ct24), os24⟩)
    (c24 : PySem.W.codeIn K cd24 "_law_written" = true)
    (p24 : PySem.W.keepIn K (.ref f24) = true)
    (a25 : PySem.W.nsIn K mainGlobals "_law_same" = some (some (.ref f25)))
    (l25 : K.lookup f25 = some ⟨oc25, od25, .func (PySem.W.fnOf "_law_same" "_law_same" (defArgs s_law_same) (defBody s_law_same) (defScope s_law_same) .none kV25 dc25 pm25 an25 cd25 ct25), os25⟩)
    (c25 : PySem.W.codeIn K cd25 "_law_same" = true)
    (p25 : PySem.W.keepIn K (.ref f25) = true)
    (a26 : PySem.W.nsIn K mainGlobals "_law_begun" = some (some (.ref f26)))
    (l26 : K.lookup f26 = some ⟨oc26, od26, .func (PySem.W.fnOf "_law_begun" "_law_begun" (defArgs s_law_begun) (defBody s_law_begun) (defScope s_law_begun) .none kV26 dc26 pm26 an26 cd26 ct26), os26⟩)
    (c26 : PySem.W.codeIn K cd26 "_law_begun" = true)
    (p26 : PySem.W.keepIn K (.ref f26) = true)
    (a27 : PySem.W.nsIn K mainGlobals "_law_next" = some (some (.ref f27)))
    (l27 : K.lookup f27 = some ⟨oc27, od27, .func (PySem.W.fnOf "_law_next" "_law_next" (defArgs s_law_next) (defBody s_law_next) (defScope s_law_next) .none kV27 dc27 pm27 an27 cd27 ct27), os27⟩)
    (c27 : PySem.W.codeIn K cd27 "_law_next" = true)
    (p27 : PySem.W.keepIn K (.ref f27) = true)
    (a28 : PySem.W.nsIn K mainGlobals "_law_stop" = some (some (.ref f28)))
    (l28 : K.lookup f28 = some ⟨oc28, od28, .func (PySem.W.fnOf "_law_stop" "_law_stop" (defArgs s_law_stop) (defBody s_law_stop) (defScope s_law_stop) .none kV28 dc28 pm28 an28 cd28 ct28), os28⟩)
    (c28 : PySem.W.codeIn K cd28 "_law_stop" = true)
    (p28 : PySem.W.keepIn K (.ref f28) = true)
    (a29 : PySem.W.nsIn K mainGlobals "_law_bent" = some (some (.ref f29)))
    (l29 : K.lookup f29 = some ⟨oc29, od29, .func (PySem.W.fnOf "_law_bent" "_law_bent" (defArgs s_law_bent) (defBody s_law_bent) (defScope s_law_bent) .none kV29 dc29 pm29 an29 cd29 ct29), os29⟩)
    (c29 : PySem.W.codeIn K cd29 "_law_bent" = true)
    (p29 : PySem.W.keepIn K (.ref f29) = true)
    (a30 : PySem.W.nsIn K mainGlobals "_law_refused" = some (some (.ref f30)))
    (l30 : K.lookup f30 = some ⟨oc30, od30, .func (PySem.W.fnOf "_law_refused" "_law_refused" (defArgs s_law_refused) (defBody s_law_refused) (defScope s_law_refused) .none kV30 dc30 pm30 an30 cd30 ct30), os30⟩)
    (c30 : PySem.W.codeIn K cd30 "_law_refused" = true)
    (p30 : PySem.W.keepIn K (.ref f30) = true)
    (a31 : PySem.W.nsIn K mainGlobals "_law_not_written" = some (some (.ref f31)))
    (l31 : K.lookup f31 = some ⟨oc31, od31, .func (PySem.W.fnOf "_law_not_written" "_law_not_written" (defArgs s_law_not_written) (defBody s_law_not_written) (defScope s_law_not_written) .none kV31 dc31 pm31 an31 cd31 ct31), os31⟩)
    (c31 : PySem.W.codeIn K cd31 "_law_not_written" = true)
    (p31 : PySem.W.keepIn K (.ref f31) = true)
    (a32 : PySem.W.nsIn K mainGlobals "law" = some (some (.ref f32)))
    (l32 : K.lookup f32 = some ⟨oc32, od32, .func (PySem.W.fnOf "law" "law" (defArgs s_law) (defBody s_law) (defScope s_law) .none kV32 dc32 pm32 an32 cd32 ct32), os32⟩)
    (c32 : PySem.W.codeIn K cd32 "law" = true)
    (p32 : PySem.W.keepIn K (.ref f32) = true)
    (z_isinstance : PySem.W.nsIn K mainGlobals "isinstance" = some none)
    (z_bool : PySem.W.nsIn K mainGlobals "bool" = some none)
    (z_int : PySem.W.nsIn K mainGlobals "int" = some none)
    (z_str : PySem.W.nsIn K mainGlobals "str" = some none)
    (z_abs : PySem.W.nsIn K mainGlobals "abs" = some none)
    (z_all : PySem.W.nsIn K mainGlobals "all" = some none)
    (z_tuple : PySem.W.nsIn K mainGlobals "tuple" = some none)
    (z_len : PySem.W.nsIn K mainGlobals "len" = some none)
    (z_range : PySem.W.nsIn K mainGlobals "range" = some none)
    (z_max : PySem.W.nsIn K mainGlobals "max" = some none)
    (g_QUOTE : PySem.W.nsIn K mainGlobals "QUOTE" = some (some (.str (Str.ofString "\"") t_QUOTE)))
    (g_BOUND : PySem.W.nsIn K mainGlobals "BOUND" = some (some (.int 10000000000000000000000000000000000000000000000000000000000000000000000000000000000000000000000000000 t_BOUND)))
    (g_MOST_DEEP : PySem.W.nsIn K mainGlobals "MOST_DEEP" = some (some (.int 40 t_MOST_DEEP)))
    (g_NUMERALS : PySem.W.nsIn K mainGlobals "NUMERALS" = some (some (.str (Str.ofString "0123456789") t_NUMERALS)))
    (g_MOST_NUMERALS : PySem.W.nsIn K mainGlobals "MOST_NUMERALS" = some (some (.int 100 t_MOST_NUMERALS))) :
    ∃ fd : FuncData, (∀ (s : Shared) (u : Value), BindsTo s fd ⟨[u], []⟩ [("_law_script", u)]) ∧ ∀ base : Heap, K.In base → base.Ns mainGlobals mg → FnOk P w K mg base (L2.CX P w) 110 fa fd ["_law_script"] (sp_law K) := by
  have T : Txt P K mg a_BeadError a_BadText a_Refused a_ValueReader := {
    k_BeadError := PySem.W.mg_of X G k_BeadError,
    k_BadText := PySem.W.mg_of X G k_BadText,
    e_BadText := ⟨⟨_, _, _, _, _, _, _, _, _, _, _, _, _, _, xl_BadText⟩, sa_BadText, nf_BadText, al_of bl_BadText bm_BadText bf_BadText, sub_BadText, tp_BadText, kc_BadText, sup, opq, top, ⟨_, _, _, _, _, _, _, _, _, _, _, _, _, _, _, iI_BadText, tI_BadText, lI_BadText, cI_BadText, eb_BadText, ⟨_, _, _, _, _, _, lc_BadText, vf_BadText, fl_BadText⟩, ⟨_, _, _, ce_BadText⟩⟩⟩,
    x_BadText := ⟨ga_BadText, gg_BadText, sub_BadText, hd_BadText⟩,
    nx_BadText_at := nf_BadText,
    m_BadText := PySem.W.exm_ref sub_BadText hd_BadText tp_BadText ss_BadText,
    i_BadText := ⟨ga_BadText, gg_BadText, sub_BadText, hd_BadText, ha_BadText, spc, tkc, hm_BadText⟩,
    k_Refused := PySem.W.mg_of X G k_Refused,
    k_ValueReader := PySem.W.mg_of X G k_ValueReader,
    cl_ValueReader := ⟨pg_ValueReader, hd_ValueReader, po_ValueReader, sa_ValueReader⟩,
    na_ValueReader_at := na_ValueReader_at,
    na_ValueReader_text := na_ValueReader_text,
    ki_BadText_BeadError := ki_BadText_BeadError,
    ki_BadText_Refused := ki_BadText_Refused,
    d_is_integer := ⟨_, _, PySem.W.mg_of X G a0, fx_mk l0 c0 p0⟩,
    d_is_text := ⟨_, _, PySem.W.mg_of X G a1, fx_mk l1 c1 p1⟩,
    d_is_word_sign := ⟨_, _, PySem.W.mg_of X G a2, fx_mk l2 c2 p2⟩,
    d_is_value := ⟨_, _, PySem.W.mg_of X G a3, fx_mkd (its := [.int 0 tk3_0]) l3 c3 p3 T3_ (by decide) (.cons ⟨_, rfl⟩ (.nil))⟩,
    d_written := ⟨_, _, PySem.W.mg_of X G a4, fx_mk l4 c4 p4⟩,
    d_value_text := ⟨_, _, PySem.W.mg_of X G a5, fx_mk l5 c5 p5⟩,
    d_ValueReader_init := ⟨_, _, ⟨mk_ValueReader, a6, i6, kc_ValueReader⟩, fx_mk l6 c6 p6⟩,
    d_ValueReader_next_sign := ⟨_, _, ⟨a7, i7, p7⟩, fx_mk l7 c7 p7⟩,
    d_ValueReader_is_at := ⟨_, _, ⟨a8, i8, p8⟩, fx_mk l8 c8 p8⟩,
    d_ValueReader_need := ⟨_, _, ⟨a9, i9, p9⟩, fx_mk l9 c9 p9⟩,
    d_ValueReader_value := ⟨_, _, ⟨a10, i10, p10⟩, fx_mk l10 c10 p10⟩,
    d_ValueReader_word := ⟨_, _, ⟨a11, i11, p11⟩, fx_mk l11 c11 p11⟩,
    d_ValueReader_number := ⟨_, _, ⟨a12, i12, p12⟩, fx_mk l12 c12 p12⟩,
    d_ValueReader_parts := ⟨_, _, ⟨a13, i13, p13⟩, fx_mk l13 c13 p13⟩,
    d_read_value := ⟨_, _, PySem.W.mg_of X G a14, fx_mk l14 c14 p14⟩,
    d_law_dealt := ⟨_, _, PySem.W.mg_of X G a15, fx_mk l15 c15 p15⟩,
    d_law_any := ⟨_, _, PySem.W.mg_of X G a16, fx_mk l16 c16 p16⟩,
    d_law_of := ⟨_, _, PySem.W.mg_of X G a17, fx_mk l17 c17 p17⟩,
    d_law_signs := ⟨_, _, PySem.W.mg_of X G a18, fx_mk l18 c18 p18⟩,
    d_law_number := ⟨_, _, PySem.W.mg_of X G a19, fx_mk l19 c19 p19⟩,
    d_law_word := ⟨_, _, PySem.W.mg_of X G a20, fx_mk l20 c20 p20⟩,
    d_law_thing := ⟨_, _, PySem.W.mg_of X G a21, fx_mk l21 c21 p21⟩,
    d_law_within := ⟨_, _, PySem.W.mg_of X G a22, fx_mk l22 c22 p22⟩,
    d_law_deep := ⟨_, _, PySem.W.mg_of X G a23, fx_mk l23 c23 p23⟩,
    d_law_written := ⟨_, _, PySem.W.mg_of X G a24, fx_mk l24 c24 p24⟩,
    d_law_same := ⟨_, _, PySem.W.mg_of X G a25, fx_mk l25 c25 p25⟩,
    d_law_begun := ⟨_, _, PySem.W.mg_of X G a26, fx_mk l26 c26 p26⟩,
    d_law_next := ⟨_, _, PySem.W.mg_of X G a27, fx_mk l27 c27 p27⟩,
    d_law_stop := ⟨_, _, PySem.W.mg_of X G a28, fx_mk l28 c28 p28⟩,
    d_law_bent := ⟨_, _, PySem.W.mg_of X G a29, fx_mk l29 c29 p29⟩,
    d_law_refused := ⟨_, _, PySem.W.mg_of X G a30, fx_mk l30 c30 p30⟩,
    d_law_not_written := ⟨_, _, PySem.W.mg_of X G a31, fx_mk l31 c31 p31⟩,
    d_law := ⟨_, _, PySem.W.mg_of X G a32, fx_mk l32 c32 p32⟩,
    n_isinstance := PySem.W.mg_none_of X G z_isinstance,
    n_bool := PySem.W.mg_none_of X G z_bool,
    n_int := PySem.W.mg_none_of X G z_int,
    n_str := PySem.W.mg_none_of X G z_str,
    n_abs := PySem.W.mg_none_of X G z_abs,
    n_all := PySem.W.mg_none_of X G z_all,
    n_tuple := PySem.W.mg_none_of X G z_tuple,
    n_len := PySem.W.mg_none_of X G z_len,
    n_range := PySem.W.mg_none_of X G z_range,
    n_max := PySem.W.mg_none_of X G z_max,
    g_QUOTE := ⟨_, PySem.W.mg_of X G g_QUOTE, by rw [sQ]; exact ⟨_, rfl⟩⟩,
    g_BOUND := ⟨_, PySem.W.mg_of X G g_BOUND, ⟨t_BOUND, congrArg (fun z => PySem.Value.int z t_BOUND) (show (10000000000000000000000000000000000000000000000000000000000000000000000000000000000000000000000000000 : Int) = 10 ^ 100 by decide +kernel)⟩⟩,
    g_MOST_DEEP := ⟨_, PySem.W.mg_of X G g_MOST_DEEP, ⟨_, rfl⟩⟩,
    g_NUMERALS := ⟨_, PySem.W.mg_of X G g_NUMERALS, by rw [sNum]; exact ⟨_, rfl⟩⟩,
    g_MOST_NUMERALS := ⟨_, PySem.W.mg_of X G g_MOST_NUMERALS, ⟨_, rfl⟩⟩ }
  exact law_endY T.d_law b_law hfa fun base _ _ => all_ok T
end K84
open PySem PySem.W PyProof.Rows
set_option maxHeartbeats 0 in
theorem PySem.Challenge.cw_beadasks_k84_values_written_and_read_holds : PySem.Challenge.rw_beadasks_k84_values_written_and_read.Holds := by
  w_on; o_law; k_head; (case hw => w_witness2)
  k_fill
  refine L2.walk_of (l := PySem.Challenge.rw_beadasks_k84_values_written_and_read) (n := 63) (k := 110) (x := "_law_script") (CX := fun w => L2.CX PySem.Challenge.rw_beadasks_k84_values_written_and_read.prog w) (sp := fun w => K84.sp_law _) rfl (by decide) rfl ⟨rfl, by decide, by decide⟩ (fun w h Y => PySem.W.kIn_of Y) ?F (fun _ _ a ns hl _ hS => ⟨a, ns, rfl, hS, fun _ => rfl⟩) (fun _ _ _ _ _ h => by obtain ⟨_, _, _, _, _, _, _, _, _, _, _, _, z⟩ := h; exact z)
  case F =>
    intro w mg fa h KX G hmg
    refine' K84.fin KX G hmg ?k_BeadError ?k_BadText ?sub_BadText ?tp_BadText ?hd_BadText ?nf_BadText ?xl_BadText ?sa_BadText ?bl_BadText ?bm_BadText ?bf_BadText ?kc_BadText ?iI_BadText ?tI_BadText ?lI_BadText ?cI_BadText ?lc_BadText ?vf_BadText ?fl_BadText ?ce_BadText ?ga_BadText ?gg_BadText ?ss_BadText ?ha_BadText ?hm_BadText ?k_Refused ?k_ValueReader ?pg_ValueReader ?hd_ValueReader ?po_ValueReader ?sa_ValueReader ?na_ValueReader_at ?na_ValueReader_text ?mk_ValueReader ?kc_ValueReader ?sup ?opq ?top ?spc ?tkc ?ki_BadText_BeadError ?ki_BadText_Refused ?a0 ?l0 ?c0 ?p0 ?a1 ?l1 ?c1 ?p1 ?a2 ?l2 ?c2 ?p2 ?a3 ?l3 ?c3 ?p3 ?T3_ ?a4 ?l4 ?c4 ?p4 ?a5 ?l5 ?c5 ?p5 ?a6 ?i6 ?l6 ?c6 ?p6 ?a7 ?i7 ?l7 ?c7 ?p7 ?a8 ?i8 ?l8 ?c8 ?p8 ?a9 ?i9 ?l9 ?c9 ?p9 ?a10 ?i10 ?l10 ?c10 ?p10 ?a11 ?i11 ?l11 ?c11 ?p11 ?a12 ?i12 ?l12 ?c12 ?p12 ?a13 ?i13 ?l13 ?c13 ?p13 ?a14 ?l14 ?c14 ?p14 ?a15 ?l15 ?c15 ?p15 ?a16 ?l16 ?c16 ?p16 ?a17 ?l17 ?c17 ?p17 ?a18 ?l18 ?c18 ?p18 ?a19 ?l19 ?c19 ?p19 ?a20 ?l20 ?c20 ?p20 ?a21 ?l21 ?c21 ?p21 ?a22 ?l22 ?c22 ?p22 ?a23 ?l23 ?c23 ?p23 ?a24 ?l24 ?c24 ?p24 ?a25 ?l25 ?c25 ?p25 ?a26 ?l26 ?c26 ?p26 ?a27 ?l27 ?c27 ?p27 ?a28 ?l28 ?c28 ?p28 ?a29 ?l29 ?c29 ?p29 ?a30 ?l30 ?c30 ?p30 ?a31 ?l31 ?c31 ?p31 ?a32 ?l32 ?c32 ?p32 ?z_isinstance ?z_bool ?z_int ?z_str ?z_abs ?z_all ?z_tuple ?z_len ?z_range ?z_max ?g_QUOTE ?g_BOUND ?g_MOST_DEEP ?g_NUMERALS ?g_MOST_NUMERALS
    (case k_BeadError => k_is)
    (case k_BadText => k_is)
    (case sub_BadText => k_is)
    (case tp_BadText => k_is)
    (case hd_BadText => k_is)
    (case nf_BadText => k_is)
    (case xl_BadText => k_is)
    (case sa_BadText => k_is)
    (case bl_BadText => k_is)
    (case bm_BadText => exact rfl)
    (case bf_BadText => k_is)
    (case kc_BadText => k_is)
    (case iI_BadText => k_is)
    (case tI_BadText => k_is)
    (case lI_BadText => k_is)
    (case cI_BadText => k_is)
    (case lc_BadText => k_is)
    (case vf_BadText => exact rfl)
    (case fl_BadText => first | rfl | decide +kernel)
    (case ce_BadText => k_is)
    (case ga_BadText => k_is)
    (case gg_BadText => k_is)
    (case ss_BadText => first | k_is | rfl)
    (case ha_BadText => k_is)
    (case hm_BadText => k_is)
    (case k_Refused => k_is)
    (case k_ValueReader => k_is)
    (case pg_ValueReader => k_is)
    (case hd_ValueReader => k_is)
    (case po_ValueReader => k_is)
    (case sa_ValueReader => k_is)
    (case na_ValueReader_at => k_is)
    (case na_ValueReader_text => k_is)
    (case mk_ValueReader => k_is)
    (case kc_ValueReader => k_is)
    (case sup => k_is)
    (case opq => k_is)
    (case top => decide +kernel)
    (case spc => k_is)
    (case tkc => k_is)
    (case ki_BadText_BeadError => first | k_is | rfl | decide +kernel)
    (case ki_BadText_Refused => first | k_is | rfl | decide +kernel)
    (case a0 => k_is)
    (case l0 => k_is)
    (case c0 => k_is)
    (case p0 => k_is)
    (case a1 => k_is)
    (case l1 => k_is)
    (case c1 => k_is)
    (case p1 => k_is)
    (case a2 => k_is)
    (case l2 => k_is)
    (case c2 => k_is)
    (case p2 => k_is)
    (case a3 => k_is)
    (case l3 => k_is)
    (case c3 => k_is)
    (case p3 => k_is)
    (case T3_ => k_is)
    (case a4 => k_is)
    (case l4 => k_is)
    (case c4 => k_is)
    (case p4 => k_is)
    (case a5 => k_is)
    (case l5 => k_is)
    (case c5 => k_is)
    (case p5 => k_is)
    (case a6 => k_is)
    (case i6 => k_is)
    (case l6 => k_is)
    (case c6 => k_is)
    (case p6 => k_is)
    (case a7 => k_is)
    (case i7 => k_is)
    (case l7 => k_is)
    (case c7 => k_is)
    (case p7 => k_is)
    (case a8 => k_is)
    (case i8 => k_is)
    (case l8 => k_is)
    (case c8 => k_is)
    (case p8 => k_is)
    (case a9 => k_is)
    (case i9 => k_is)
    (case l9 => k_is)
    (case c9 => k_is)
    (case p9 => k_is)
    (case a10 => k_is)
    (case i10 => k_is)
    (case l10 => k_is)
    (case c10 => k_is)
    (case p10 => k_is)
    (case a11 => k_is)
    (case i11 => k_is)
    (case l11 => k_is)
    (case c11 => k_is)
    (case p11 => k_is)
    (case a12 => k_is)
    (case i12 => k_is)
    (case l12 => k_is)
    (case c12 => k_is)
    (case p12 => k_is)
    (case a13 => k_is)
    (case i13 => k_is)
    (case l13 => k_is)
    (case c13 => k_is)
    (case p13 => k_is)
    (case a14 => k_is)
    (case l14 => k_is)
    (case c14 => k_is)
    (case p14 => k_is)
    (case a15 => k_is)
    (case l15 => k_is)
    (case c15 => k_is)
    (case p15 => k_is)
    (case a16 => k_is)
    (case l16 => k_is)
    (case c16 => k_is)
    (case p16 => k_is)
    (case a17 => k_is)
    (case l17 => k_is)
    (case c17 => k_is)
    (case p17 => k_is)
    (case a18 => k_is)
    (case l18 => k_is)
    (case c18 => k_is)
    (case p18 => k_is)
    (case a19 => k_is)
    (case l19 => k_is)
    (case c19 => k_is)
    (case p19 => k_is)
    (case a20 => k_is)
    (case l20 => k_is)
    (case c20 => k_is)
    (case p20 => k_is)
    (case a21 => k_is)
    (case l21 => k_is)
    (case c21 => k_is)
    (case p21 => k_is)
    (case a22 => k_is)
    (case l22 => k_is)
    (case c22 => k_is)
    (case p22 => k_is)
    (case a23 => k_is)
    (case l23 => k_is)
    (case c23 => k_is)
    (case p23 => k_is)
    (case a24 => k_is)
    (case l24 => k_is)
    (case c24 => k_is)
    (case p24 => k_is)
    (case a25 => k_is)
    (case l25 => k_is)
    (case c25 => k_is)
    (case p25 => k_is)
    (case a26 => k_is)
    (case l26 => k_is)
    (case c26 => k_is)
    (case p26 => k_is)
    (case a27 => k_is)
    (case l27 => k_is)
    (case c27 => k_is)
    (case p27 => k_is)
    (case a28 => k_is)
    (case l28 => k_is)
    (case c28 => k_is)
    (case p28 => k_is)
    (case a29 => k_is)
    (case l29 => k_is)
    (case c29 => k_is)
    (case p29 => k_is)
    (case a30 => k_is)
    (case l30 => k_is)
    (case c30 => k_is)
    (case p30 => k_is)
    (case a31 => k_is)
    (case l31 => k_is)
    (case c31 => k_is)
    (case p31 => k_is)
    (case a32 => k_is)
    (case l32 => k_is)
    (case c32 => k_is)
    (case p32 => k_is)
    (case z_isinstance => k_is)
    (case z_bool => k_is)
    (case z_int => k_is)
    (case z_str => k_is)
    (case z_abs => k_is)
    (case z_all => k_is)
    (case z_tuple => k_is)
    (case z_len => k_is)
    (case z_range => k_is)
    (case z_max => k_is)
    (case g_QUOTE => k_is)
    (case g_BOUND => k_is)
    (case g_MOST_DEEP => k_is)
    (case g_NUMERALS => k_is)
    (case g_MOST_NUMERALS => k_is)

