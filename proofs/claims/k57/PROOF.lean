import PyProof.Rows.All
import Wide.All
import OpenK.AllK
import Wide.FinOn
import HandS.ForMost
import HandS.IsInst
import HandS.SortInts
import HandS.Style
import HandS.Evl
import HandS.More
import PySem.Challenge.RW_thermogames_k57_whole_nim_products
set_option Elab.async false
set_option linter.all false
set_option maxRecDepth 100000
set_option maxHeartbeats 4000000
/-! The kit of our own, over the hand layer: what all laws share. -/
namespace TG
open PySem L2
/-! ### names at once, for simp -/
theorem ex2_eq {α β : Sort _} {a : α} {b : β} {p : α → β → Prop} : (∃ v w, (a = v ∧ b = w) ∧ p v w) ↔ p a b :=
  ⟨fun ⟨_, _, ⟨h1, h2⟩, h⟩ => by subst h1 h2; exact h, fun h => ⟨_, _, ⟨rfl, rfl⟩, h⟩⟩
theorem ex3_eq {α β γ : Sort _} {a : α} {b : β} {c : γ} {p : α → β → γ → Prop} : (∃ v w x, (a = v ∧ b = w ∧ c = x) ∧ p v w x) ↔ p a b c :=
  ⟨fun ⟨_, _, _, ⟨h1, h2, h3⟩, h⟩ => by subst h1 h2 h3; exact h, fun h => ⟨_, _, _, ⟨rfl, rfl, rfl⟩, h⟩⟩
theorem ex4_eq {α β γ δ : Sort _} {a : α} {b : β} {c : γ} {d : δ} {p : α → β → γ → δ → Prop} : (∃ v w x y, (a = v ∧ b = w ∧ c = x ∧ d = y) ∧ p v w x y) ↔ p a b c d :=
  ⟨fun ⟨_, _, _, _, ⟨h1, h2, h3, h4⟩, h⟩ => by subst h1 h2 h3 h4; exact h, fun h => ⟨_, _, _, _, ⟨rfl, rfl, rfl, rfl⟩, h⟩⟩
/-! ### a weaker reading -/
theorem ps_imp {X : Cx} {st : Stmt} {t t' : TS} (h : ∀ D σ H, t' D σ H → t D σ H) (p : PS X st t) : PS X st t' := ⟨fun pins s σ H D I q => p.run pins s σ H D I (h D σ H q)⟩
theorem pe_imp {X : Cx} {e : Expr} {t t' : TE} (h : ∀ σ H Q, t' σ H Q → t σ H Q) (p : PE X e t) : PE X e t' := ⟨fun pins s σ H Q I q => p.run pins s σ H Q I (h σ H Q q)⟩
theorem same_new {H : Hp} {p : Addr} (h : H p = none) (o : HO) : Same H (upd H p o) := fun b u q => by rw [upd_ne (ne_of_none q h)]; exact q
/-- a, b = constants: a tuple is made on the way -/
def tParC (i j : Nat) (v w : V) : TS := fun D σ H => ∀ H', Same H H' → D.nx ((σ.set i (some v)).set j (some w)) H'
theorem parC {K : PySem.W.Frag} {i j : Nat} {v w : V} : ∀ D σ H, tParC i j v w D σ H → tAsg (tTup (tCons (tC v) (tCons (tC w) tNil))) (gTup K 2 (gCons (gName i) (gCons (gName j) gNil))) D σ H :=
  fun D σ H h => ⟨by show 2 ≤ sizeLine; decide, fun p hp => ⟨p, _, rfl, SqT.of upd_same, rfl, _, _, rfl, _, _, rfl, rfl, h _ (same_new hp _)⟩⟩
/-! ### one step into a reading -/
section
variable {σ : L2.St} {H : Hp} {D : Ends} {te ta tb : TE} {r : R2} {Q : VK} {g : TG} {t u : TS} {tt : TT} {ts : TA}
theorem go_ret (h : te σ H D.rt) : tRet te D σ H := h
theorem go_op (h : ta σ H fun x H1 => tb σ H1 fun y H2 => r x y H2 Q) : tOp r ta tb σ H Q := h
theorem go_asg (h : te σ H fun x H1 => g x σ H1 D.nx) : tAsg te g D σ H := h
theorem go_seq (h : t { D with nx := u D } σ H) : tSeq t u D σ H := h
theorem go_drop (h : te σ H fun _ H1 => D.nx σ H1) : tDrop te D σ H := h
theorem go_ifS {u : TS} (h : tt σ H fun b H1 => if b = true then t D σ H1 else u D σ H1) : tIfS tt t u D σ H := h
theorem go_cons {tr : TA} {Q : List V → Hp → Prop} (h : ta σ H fun x H1 => tr σ H1 fun xs H2 => Q (x :: xs) H2) : tCons ta tr σ H Q := h
theorem go_cb {f : List V → Hp → VK → Prop} (h : ts σ H fun vs H1 => f vs H1 Q) : tCB f ts σ H Q := h
theorem go_call {sp : Sp} {dvs : List V} {E : XK} (h : ts σ H fun vs H1 => sp (vs ++ dvs) H1 Q E) : tCall sp dvs E ts σ H Q := h
end
/-! ### the rules with the written part named -/
section
variable {X : Cx} {K : PySem.W.Frag}
theorem op_in_seqK (hK : X.K = K) : OpR X (compareOp .In) (rIn K false) := by subst hK; exact op_in_seq
theorem op_notIn_seqK (hK : X.K = K) : OpR X (compareOp .NotIn) (rIn K true) := by subst hK; exact op_notIn_seq
theorem ix_listK (hK : X.K = K) : IxR X (rIxL K) := by subst hK; exact ix_list
theorem ix_tupK (hK : X.K = K) : IxR X (rIxT K) := by subst hK; exact ix_tup
theorem ix_seqK (hK : X.K = K) : IxR X (rIx K) := by subst hK; exact ix_seq
def rLenQ (K : PySem.W.Frag) : List V → Hp → VK → Prop := fun xs H Q => ∃ p ys, xs = [.ref p] ∧ (SqL K H p ys ∨ SqT K H p ys) ∧ Q (.int ys.length) H
theorem call_lenK (hK : X.K = K) : CallR X (.builtin "len") (rLenQ K) := by subst hK; exact call_len_seq
def rListOf (K : PySem.W.Frag) : List V → Hp → VK → Prop := fun xs H Q => ∃ p ys, xs = [.ref p] ∧ (SqL K H p ys ∨ SqT K H p ys) ∧ ∀ l, H l = none → Q (.ref l) (upd H l (.lst ys))
theorem call_list_ofK (hK : X.K = K) : CallR X (.type "list") (rListOf K) := by subst hK; exact call_list_of
def rTupOf (K : PySem.W.Frag) : List V → Hp → VK → Prop := fun xs H Q => ∃ p ys, xs = [.ref p] ∧ ((SqL K H p ys ∧ ∀ l, H l = none → Q (.ref l) (upd H l (.tup ys))) ∨ (SqT K H p ys ∧ Q (.ref p) H))
theorem call_tuple_ofK (hK : X.K = K) : CallR X (.type "tuple") (rTupOf K) := by subst hK; exact call_tuple_of
theorem cr_sumK (hK : X.K = K) (hc : X.calm = true) : CallR X (.builtin "sum") (rSum K) := by subst hK; exact cr_sum hc
theorem cr_maxK (hK : X.K = K) (hc : X.calm = true) : CallR X (.builtin "max") (rMax K) := by subst hK; exact cr_max hc
theorem cr_minK (hK : X.K = K) (hc : X.calm = true) : CallR X (.builtin "min") (rMin K) := by subst hK; exact cr_min hc
theorem cr_anyK (hK : X.K = K) (hc : X.calm = true) : CallR X (.builtin "any") (rAny K) := by subst hK; exact cr_any hc
theorem cr_allK (hK : X.K = K) (hc : X.calm = true) : CallR X (.builtin "all") (rAll K) := by subst hK; exact cr_all hc
theorem cr_sortedIK (hK : X.K = K) : CallR X (.builtin "sorted") (rSortedI K) := by subst hK; exact cr_sortedI
theorem sl_listK (hK : X.K = K) : SlR X (rSlL K) := by subst hK; exact sl_list
theorem sl_tupK (hK : X.K = K) : SlR X (rSlT K) := by subst hK; exact sl_tup
theorem op_catTK (hK : X.K = K) : OpR X (binaryOp .Add) (rCatT K) := by subst hK; exact op_catT
theorem op_eqDK (hK : X.K = K) (hu : X.A.units + 64 < cLine) : OpR X (compareOp .Eq) (rEqD K) := by subst hK; exact op_eqD hu
theorem op_neDK (hK : X.K = K) (hu : X.A.units + 64 < cLine) : OpR X (compareOp .NotEq) (rNeD K) := by subst hK; exact op_neD hu
theorem call_isiTK (hK : X.K = K) : CallR X (.builtin "isinstance") (rIsiT K) := by subst hK; exact call_isiT
theorem call_isiK' (hK : X.K = K) : CallR X (.builtin "isinstance") (rIsi K) := by subst hK; exact call_isi
theorem pi_listK {tg l : Expr} {tl : TE} (hK : X.K = K) (hl : PE X l tl) : PI X tg l (iList K tl) := by subst hK; exact pi_list hl
theorem pi_tupK {tg l : Expr} {tl : TE} (hK : X.K = K) (hl : PE X l tl) : PI X tg l (iTup K tl) := by subst hK; exact pi_tup hl
theorem pi_enumK {e : Expr} {ta : TA} {p pos tpos : Pos} {elts : List Expr} {kk : Nat} (hK : X.K = K) (hg : Gl X "enumerate") (hm : X.mg "enumerate" = none) (ha : PA X [e] ta) (hs : starEach [e] X.env = [(false, eval e X.env)] := by rfl) :
    PI X (.Tuple elts kk tpos) (.Call (.Name "enumerate" p) [e] [] pos) (iEnum K ta) := by subst hK; exact pi_enum hg hm ha hs
theorem pi_zipK {e e2 : Expr} {ta : TA} {p pos tpos : Pos} {elts : List Expr} {kk : Nat} (hK : X.K = K) (hg : Gl X "zip") (hm : X.mg "zip" = none) (ha : PA X [e, e2] ta)
    (hs : starEach [e, e2] X.env = (false, eval e X.env) :: starEach [e2] X.env := by rfl) (hpl : (backTo pos (starEach [e2] X.env)).any (·.1) = false := by rfl) :
    PI X (.Tuple elts kk tpos) (.Call (.Name "zip" p) [e, e2] [] pos) (iZip K ta) := by subst hK; exact pi_zip hg hm ha hs hpl
theorem pg_tupK {pos : Pos} {es : List Expr} {k : Nat} {t : TGs} {n : Nat} (hK : X.K = K) (hc : X.calm = true) (h : PGs X es t)
    (hn : (assignEach es X.env).length = n := by rfl) (hst : (assignEach es X.env).findIdx? (·.1) = none := by rfl) : PG X (.Tuple es k pos) (gTup K n t) := by subst hK; exact pg_tup hc h hn hst
theorem pe_bm0K {o : Expr} {to : TE} {name : Str} {apos cpos : Pos} {T id : String} {r : V → List V → Hp → VK → Prop} (hK : X.K = K) (pa : PlainAttrs T) (slot : Slot T name id) (hty : typeOf (.builtin id) = pure (.type "method_descriptor")) (hm : MtR X id r) (ho : PE X o to)
    (hbase : attributeBase o name X.env (eval o X.env) = eval o X.env := by rfl) (hline : (apos.endLine == cpos.line) = true := by rfl) : PE X (.Call (.Attribute o name apos) [] [] cpos) (tBM0 K T r to) := by subst hK; exact pe_bm0 pa slot hty hm ho hbase hline
theorem pe_bmK {o e : Expr} {es : List Expr} {to : TE} {t : TA} {name : Str} {apos cpos : Pos} {T id : String} {r : V → List V → Hp → VK → Prop} (hK : X.K = K) (pa : PlainAttrs T) (slot : Slot T name id) (hty : typeOf (.builtin id) = pure (.type "method_descriptor")) (hm : MtR X id r) (ho : PE X o to) (ha : PA X (e :: es) t)
    (hbase : attributeBase o name X.env (eval o X.env) = eval o X.env := by rfl)
    (hfew : ((backTo cpos (starEach (e :: es) X.env)).all (fun x => !x.1) && (backToKw cpos (keywordEach [] X.env)).all (fun x => x.1.isSome)
      && decide ((e :: es).length + ([] : List Keyword).length + (if ([] : List Keyword).isEmpty then 0 else 1) < 30)) = true := by rfl)
    (hline : (apos.endLine == cpos.line) = true := by rfl) (hs : starEach (e :: es) X.env = (false, eval e X.env) :: starEach es X.env := by rfl) (hplain : (backTo cpos (starEach es X.env)).any (·.1) = false := by rfl) :
    PE X (.Call (.Attribute o name apos) (e :: es) [] cpos) (tBM K T r to t) := by subst hK; exact pe_bm pa slot hty hm ho ha hbase hfew hline hs hplain
end
/-! ### isinstance of plain values -/
def sTy : V → Option String
  | .non => some "NoneType"
  | .bl _ => some "bool"
  | .int _ => some "int"
  | .str _ => some "str"
  | _ => none
def rIsiS : List V → Hp → VK → Prop := fun xs H Q => ∃ x c t b, xs = [x, .ty c] ∧ sTy x = some t ∧ kitB t c = some b ∧ Q (.bl b) H
theorem call_isiS {X : Cx} : CallR X (.builtin "isinstance") rIsiS := by
  intro pins s σ H xs us Q I r h
  obtain ⟨x, c, t, b, rfl, ht, hk, q⟩ := h
  have ty : TyX X.K H x (.type t) := by
    cases x with
    | non => cases ht; exact .base .non
    | bl b => cases ht; exact .base (.bl b)
    | int i => cases ht; exact .base (.int i)
    | str z => cases ht; exact .base (.str z)
    | _ => cases ht
  exact call_isi pins s σ H _ us Q I r ⟨x, .ty c, .type t, .type c, b, rfl, .ty c, ty, kit_ty hk, q⟩
theorem kit_int_int : kitB "int" "int" = some true := by decide +kernel
theorem kit_int_bool : kitB "int" "bool" = some false := by decide +kernel
theorem kit_int_str : kitB "int" "str" = some false := by decide +kernel
theorem kit_int_tuple : kitB "int" "tuple" = some false := by decide +kernel
theorem kit_int_list : kitB "int" "list" = some false := by decide +kernel
/-! ### the law's row of draws -/
def hide (H : Hp) (r : Addr) : Hp := fun b => if b = r then none else H b
theorem hide_upd {H : Hp} {r : Addr} {o : HO} : hide (upd H r o) r = hide H r := by
  funext b
  unfold hide upd
  by_cases h : b = r
  · rw [if_pos h, if_pos h]
  · rw [if_neg h, if_neg h, if_neg h]
theorem hide_same {H : Hp} {r : Addr} : Same (hide H r) H := fun b o e => by
  unfold hide at e
  by_cases h : b = r
  · rw [if_pos h] at e
    cases e
  · rw [if_neg h] at e
    exact e
/-- what stands apart from r is as it was, or more -/
def Off (r : Addr) (H H' : Hp) : Prop := ∀ b o, b ≠ r → H b = some o → H' b = some o
theorem Off.hide {r : Addr} {H H' : Hp} (h : Off r H H') : Same (hide H r) (hide H' r) := fun b o e => by
  unfold TG.hide at e ⊢
  by_cases hb : b = r
  · rw [if_pos hb] at e
    cases e
  · rw [if_neg hb] at e ⊢
    exact h b o hb e
theorem Off.refl {r : Addr} {H : Hp} : Off r H H := fun _ _ _ e => e
theorem Off.trans {r : Addr} {H H1 H2 : Hp} (a : Off r H H1) (b : Off r H1 H2) : Off r H H2 := fun x o hx e => b x o hx (a x o hx e)
theorem Off.upd {r : Addr} {H : Hp} {o : HO} : Off r H (upd H r o) := fun b u hb e => by rw [upd_ne hb]; exact e
theorem Off.of {r : Addr} {H H' : Hp} (h : Same H H') : Off r H H' := fun b u _ e => h b u e
theorem Off.eq {r : Addr} {H H' : Hp} (h : ∀ b, b ≠ r → H' b = H b) : Off r H H' := fun b u hb e => by rw [h b hb]; exact e
/-- the row: the script, a place, a seed, what is left of a great cell -/
def Row (K : PySem.W.Frag) (H : Hp) (r : Addr) : Prop :=
  ∃ (a : Addr) (ns : List Int) (i s t : Int), H r = some (.lst [.ref a, .int i, .int s, .int t]) ∧ SqL K (hide H r) a (ns.map V.int) ∧ ns.length ≤ 63 ∧ 0 ≤ i
theorem Row.more {K : PySem.W.Frag} {H H' : Hp} {r : Addr} (h : Row K H r) (s : Same H H') : Row K H' r := by
  obtain ⟨a, ns, i, z, t, h1, h2, h3, h4⟩ := h
  exact ⟨a, ns, i, z, t, s _ _ h1, (Off.hide (Off.of s)).seq h2, h3, h4⟩
theorem Row.there {K : PySem.W.Frag} {H : Hp} {r : Addr} (h : Row K H r) : ∃ xs, H r = some (.lst xs) := by
  obtain ⟨a, ns, i, z, t, h1, _⟩ := h
  exact ⟨_, h1⟩
/-- what changes is no list -/
theorem Row.off {K : PySem.W.Frag} {H H' : Hp} {r d : Addr} {u : HO} (h : Row K H r) (o : Off d H H') (hd : H d = some u) (hu : (∀ xs, u ≠ .lst xs) ∧ ∀ x y, u ≠ .frz x y) : Row K H' r := by
  obtain ⟨a, ns, i, z, t, h1, h2, h3, h4⟩ := h
  have hrd : r ≠ d := fun e => by
    rw [e, hd] at h1
    exact hu.1 _ (Option.some.inj h1)
  refine ⟨a, ns, i, z, t, o _ _ hrd h1, ?_, h3, h4⟩
  have key : ∀ v, hide H r a = some v → ((∃ xs, v = HO.lst xs) ∨ ∃ x y, v = HO.frz x y) → hide H' r a = some v := fun v e c => by
    have e1 : H a = some v := hide_same a v e
    have had : a ≠ d := fun q => by
      rw [q, hd] at e1
      have e2 := Option.some.inj e1
      rcases c with ⟨xs, c⟩ | ⟨x, y, c⟩
      · exact hu.1 _ (e2.trans c)
      · exact hu.2 _ _ (e2.trans c)
    have har : a ≠ r := fun q => by
      unfold hide at e
      rw [if_pos q] at e
      cases e
    unfold hide
    rw [if_neg har]
    exact o a v had e1
  rcases h2 with (h2 | ⟨x, h2⟩) | h2
  · exact .inl (.inl (key _ h2 (.inl ⟨_, rfl⟩)))
  · exact .inl (.inr ⟨x, key _ h2 (.inr ⟨_, _, rfl⟩)⟩)
  · exact .inr h2
/-- a draw: some number below m; the row turns, all else stands -/
def spTaken (K : PySem.W.Frag) : Sp := fun vs H Q _ => ∃ (r : Addr) (m : Int), vs = [.ref r, .int m] ∧ Row K H r ∧ (0 < m ∧ m < 1073741824) ∧
  ∀ (d : Int) (H' : Hp), 0 ≤ d → d < m → Row K H' r → (∀ b, b ≠ r → H' b = H b) → Q (.int d) H'
theorem at0 {a b c d : V} : atI [a, b, c, d] 0 = some a := rfl
theorem at1 {a b c d : V} : atI [a, b, c, d] 1 = some b := rfl
theorem at2 {a b c d : V} : atI [a, b, c, d] 2 = some c := rfl
theorem at3 {a b c d : V} : atI [a, b, c, d] 3 = some d := rfl
theorem mul_small {i : Int} : CMul i 48271 := .inr ⟨by decide, by decide⟩
/-- one of some things -/
def spPick (K : PySem.W.Frag) : Sp := fun vs H Q _ => ∃ (r p : Addr) (xs : List V), vs = [.ref r, .ref p] ∧ Row K H r ∧ H p = some (.lst xs) ∧ p ≠ r ∧ (0 < xs.length ∧ xs.length < 1000) ∧
  ∀ (v : V) (H' : Hp), v ∈ xs → Row K H' r → (∀ b, b ≠ r → H' b = H b) → Q v H'
/-- the row as the law makes it -/
theorem Row.make {K : PySem.W.Frag} {H : Hp} {r a : Addr} {ns : List Int} {s : Int} (hr : H r = none) (h : SqL K H a (ns.map V.int)) (hl : ns.length ≤ 63) : Row K (upd H r (.lst [.ref a, .int 0, .int s, .int 0])) r :=
  ⟨a, ns, 0, s, 0, upd_same, by
    rw [hide_upd]
    refine Same.seq (fun b o e => ?_) h
    unfold hide
    rw [if_neg (ne_of_none e hr)]
    exact e, hl, Int.le_refl 0⟩
/-! ### lists without repetition -/
theorem nodup_le {α : Type} [DecidableEq α] : ∀ {l m : List α}, l.Nodup → (∀ x ∈ l, x ∈ m) → l.length ≤ m.length
  | [], _, _, _ => Nat.zero_le _
  | x :: r, m, hn, hs => by
    have hx : x ∈ m := hs x List.mem_cons_self
    have hr := List.nodup_cons.mp hn
    have ih := nodup_le (l := r) (m := m.erase x) hr.2 fun y hy => by
      have hne : y ≠ x := fun e => hr.1 (e ▸ hy)
      exact (List.mem_erase_of_ne hne).mpr (hs y (List.mem_cons_of_mem _ hy))
    have hp : 0 < m.length := List.length_pos_of_mem hx
    rw [List.length_erase_of_mem hx] at ih
    rw [List.length_cons]
    omega
theorem nodup_cast : ∀ n : Nat, ((List.range n).map fun k : Nat => (k : Int)).Nodup := fun n => by
  rw [List.Nodup, List.pairwise_map]
  exact List.Pairwise.imp (fun h e => by omega) (List.pairwise_lt_range (n := n))
theorem int_in (k : Int) : ∀ ns : List Int, inV (.int k) (ns.map V.int) = decide (k ∈ ns)
  | [] => rfl
  | n :: r => by
    have ih := int_in k r
    unfold inV at ih ⊢
    rw [List.map_cons, List.any_cons, ih]
    by_cases h : n = k
    · subst h
      simp [eqV]
    · have h2 : ¬ k = n := fun e => h e.symm
      simp [eqV, h, h2]
theorem ints_flat (ns : List Int) : (ns.map V.int).all flatV = true := by
  rw [List.all_map, List.all_eq_true]
  intro x _
  rfl
end TG


set_option linter.all false
namespace NimF
/-- a commutative ring of characteristic 2 with a marked element -/
structure Fld where
  R : Type
  add : R → R → R
  mul : R → R → R
  zero : R
  one : R
  c : R
  add_assoc : ∀ a b d, add (add a b) d = add a (add b d)
  add_comm : ∀ a b, add a b = add b a
  add_zero : ∀ a, add a zero = a
  add_self : ∀ a, add a a = zero
  mul_assoc : ∀ a b d, mul (mul a b) d = mul a (mul b d)
  mul_comm : ∀ a b, mul a b = mul b a
  mul_one : ∀ a, mul a one = a
  mul_add : ∀ a b d, mul a (add b d) = add (mul a b) (mul a d)
namespace Fld
variable (F : Fld)
theorem mul_zero (a : F.R) : F.mul a F.zero = F.zero := by
  have h := F.mul_add a F.zero F.zero
  rw [F.add_self] at h
  rw [F.add_self] at h
  exact h
theorem add_left_comm (a b d : F.R) : F.add a (F.add b d) = F.add b (F.add a d) := by
  rw [← F.add_assoc, F.add_comm a b, F.add_assoc]
theorem mul_left_comm (a b d : F.R) : F.mul a (F.mul b d) = F.mul b (F.mul a d) := by
  rw [← F.mul_assoc, F.mul_comm a b, F.mul_assoc]
theorem zero_add (a : F.R) : F.add F.zero a = a := by rw [F.add_comm, F.add_zero]
theorem add_mul (a b d : F.R) : F.mul (F.add a b) d = F.add (F.mul a d) (F.mul b d) := by
  rw [F.mul_comm, F.mul_add, F.mul_comm d a, F.mul_comm d b]
theorem zero_mul (a : F.R) : F.mul F.zero a = F.zero := by rw [F.mul_comm, F.mul_zero]
theorem one_mul (a : F.R) : F.mul F.one a = a := by rw [F.mul_comm, F.mul_one]
theorem add_cancel (a b : F.R) : F.add a (F.add a b) = b := by rw [← F.add_assoc, F.add_self, F.zero_add]
/-- the product of pairs as the program makes it: three products -/
def pmul (x y : F.R × F.R) : F.R × F.R :=
  let l := F.mul x.2 y.2
  (F.add (F.mul (F.add x.1 x.2) (F.add y.1 y.2)) l, F.add l (F.mul (F.mul x.1 y.1) F.c))
theorem pmul_eq (x y : F.R × F.R) : F.pmul x y = (F.add (F.mul x.1 y.1) (F.add (F.mul x.1 y.2) (F.mul x.2 y.1)), F.add (F.mul x.2 y.2) (F.mul F.c (F.mul x.1 y.1))) := by
  unfold pmul
  refine Prod.ext ?_ ?_
  · show F.add (F.mul (F.add x.1 x.2) (F.add y.1 y.2)) (F.mul x.2 y.2) = F.add (F.mul x.1 y.1) (F.add (F.mul x.1 y.2) (F.mul x.2 y.1))
    rw [F.mul_add, F.add_mul, F.add_mul]
    simp only [F.add_assoc, F.add_comm, F.add_left_comm, F.add_self, F.add_zero, F.zero_add, F.add_cancel]
  · show F.add (F.mul x.2 y.2) (F.mul (F.mul x.1 y.1) F.c) = _
    rw [F.mul_comm (F.mul x.1 y.1)]
abbrev ext : Fld where
  R := F.R × F.R
  add x y := (F.add x.1 y.1, F.add x.2 y.2)
  mul := F.pmul
  zero := (F.zero, F.zero)
  one := (F.zero, F.one)
  c := (F.c, F.zero)
  add_assoc a b d := by simp only [F.add_assoc]
  add_comm a b := by rw [F.add_comm a.1, F.add_comm a.2]
  add_zero a := by simp only [F.add_zero]
  add_self a := by simp only [F.add_self]
  mul_assoc a b d := by
    simp only [F.pmul_eq]
    refine Prod.ext ?_ ?_
    · simp only [F.mul_add, F.add_mul, F.mul_assoc, F.mul_comm, F.mul_left_comm, F.add_assoc, F.add_comm, F.add_left_comm]
    · simp only [F.mul_add, F.add_mul, F.mul_assoc, F.mul_comm, F.mul_left_comm, F.add_assoc, F.add_comm, F.add_left_comm]
  mul_comm a b := by
    simp only [F.pmul_eq]
    refine Prod.ext ?_ ?_
    · simp only [F.mul_comm, F.add_comm]
    · simp only [F.mul_comm]
  mul_one a := by
    simp only [F.pmul_eq, F.mul_zero, F.mul_one, F.add_zero, F.zero_add]
  mul_add a b d := by
    simp only [F.pmul_eq]
    refine Prod.ext ?_ ?_
    · simp only [F.mul_add, F.add_assoc, F.add_comm, F.add_left_comm]
    · simp only [F.mul_add, F.add_assoc, F.add_comm, F.add_left_comm]
end Fld
abbrev F0 : Fld where
  R := Bool
  add := xor
  mul := and
  zero := false
  one := true
  c := true
  add_assoc := by decide
  add_comm := by decide
  add_zero := by decide
  add_self := by decide
  mul_assoc := by decide
  mul_comm := by decide
  mul_one := by decide
  mul_add := by decide
/-! ### squares, traces -/
namespace Fld
variable (F : Fld)
def sq (a : F.R) : F.R := F.mul a a
theorem sq_add (a b : F.R) : F.sq (F.add a b) = F.add (F.sq a) (F.sq b) := by
  unfold sq
  rw [F.mul_add, F.add_mul, F.add_mul, F.mul_comm b a]
  simp only [F.add_assoc, F.add_cancel]
theorem sq_mul (a b : F.R) : F.sq (F.mul a b) = F.mul (F.sq a) (F.sq b) := by
  unfold sq
  simp only [F.mul_assoc, F.mul_comm, F.mul_left_comm]
def sqn : Nat → F.R → F.R
  | 0, a => a
  | n + 1, a => F.sq (sqn n a)
theorem sqn_add (n : Nat) (a b : F.R) : F.sqn n (F.add a b) = F.add (F.sqn n a) (F.sqn n b) := by
  induction n with
  | zero => rfl
  | succ n ih => unfold sqn; rw [ih, F.sq_add]
theorem sqn_mul (n : Nat) (a b : F.R) : F.sqn n (F.mul a b) = F.mul (F.sqn n a) (F.sqn n b) := by
  induction n with
  | zero => rfl
  | succ n ih => unfold sqn; rw [ih, F.sq_mul]
theorem sqn_sqn (m n : Nat) (a : F.R) : F.sqn m (F.sqn n a) = F.sqn (n + m) a := by
  induction m with
  | zero => rfl
  | succ m ih =>
    show F.sq (F.sqn m (F.sqn n a)) = F.sq (F.sqn (n + m) a)
    rw [ih]
theorem sqn_sq (n : Nat) (a : F.R) : F.sqn n (F.sq a) = F.sq (F.sqn n a) := by
  have h1 : F.sqn n (F.sqn 1 a) = F.sqn (1 + n) a := F.sqn_sqn n 1 a
  rw [Nat.add_comm] at h1
  exact h1
/-- c + c^2 + c^4 + .. (n terms) -/
def tr : Nat → F.R → F.R
  | 0, _ => F.zero
  | n + 1, a => F.add (tr n a) (F.sqn n a)
theorem sq_zero : F.sq F.zero = F.zero := F.mul_zero F.zero
theorem sq_one : F.sq F.one = F.one := F.mul_one F.one
theorem tr_sq (n : Nat) (a : F.R) : F.add (F.sq (F.tr n a)) a = F.tr (n + 1) a := by
  induction n with
  | zero =>
    show F.add (F.sq F.zero) a = F.add F.zero a
    rw [F.sq_zero]
  | succ n ih =>
    show F.add (F.sq (F.add (F.tr n a) (F.sqn n a))) a = F.add (F.tr (n + 1) a) (F.sqn (n + 1) a)
    rw [F.sq_add, ← ih]
    show F.add (F.add (F.sq (F.tr n a)) (F.sqn (n + 1) a)) a = _
    simp only [F.add_assoc, F.add_comm, F.add_left_comm]
/-- what a field of 2^n elements has -/
structure Good (n : Nat) : Prop where
  inv : ∀ a, a ≠ F.zero → ∃ b, F.mul a b = F.one
  frob : ∀ a, F.sqn n a = a
  trc : F.tr n F.c = F.one
  ne : F.one ≠ F.zero
theorem esq (x : F.ext.R) : F.ext.sq x = (F.sq x.1, F.add (F.sq x.2) (F.mul F.c (F.sq x.1))) := by
  show F.pmul x x = _
  rw [F.pmul_eq]
  refine Prod.ext ?_ rfl
  show F.add (F.mul x.1 x.1) (F.add (F.mul x.1 x.2) (F.mul x.2 x.1)) = F.sq x.1
  rw [F.mul_comm x.2 x.1, F.add_self, F.add_zero]
  rfl
theorem esqn (n : Nat) (h l : F.R) : F.ext.sqn n (h, l) = (F.sqn n h, F.add (F.sqn n l) (F.mul (F.sqn n h) (F.tr n F.c))) := by
  induction n with
  | zero =>
    show (h, l) = (h, F.add l (F.mul h F.zero))
    rw [F.mul_zero, F.add_zero]
  | succ n ih =>
    show F.ext.sq (F.ext.sqn n (h, l)) = _
    rw [ih, F.esq]
    refine Prod.ext rfl ?_
    show F.add (F.sq (F.add (F.sqn n l) (F.mul (F.sqn n h) (F.tr n F.c)))) (F.mul F.c (F.sq (F.sqn n h))) = F.add (F.sqn (n + 1) l) (F.mul (F.sqn (n + 1) h) (F.tr (n + 1) F.c))
    rw [← F.tr_sq, F.sq_add, F.sq_mul, F.mul_add, F.add_assoc, F.mul_comm F.c]
    rfl
theorem norm (h l : F.R) : F.ext.mul (h, l) (h, F.add h l) = (F.zero, F.add (F.sq l) (F.add (F.mul h l) (F.mul F.c (F.sq h)))) := by
  show F.pmul (h, l) (h, F.add h l) = _
  rw [F.pmul_eq]
  refine Prod.ext ?_ ?_
  · show F.add (F.mul h h) (F.add (F.mul h (F.add h l)) (F.mul l h)) = F.zero
    rw [F.mul_add, F.mul_comm l h, F.add_assoc, F.add_self, F.add_zero, F.add_self]
  · show F.add (F.mul l (F.add h l)) (F.mul F.c (F.mul h h)) = _
    rw [F.mul_add, F.mul_comm l h]
    unfold sq
    simp only [F.add_assoc, F.add_comm, F.add_left_comm]
theorem Good.nz {F : Fld} {n : Nat} (G : F.Good n) {a b : F.R} (h : F.mul a b = F.zero) (ha : a ≠ F.zero) : b = F.zero := by
  obtain ⟨i, hi⟩ := G.inv a ha
  have q : F.mul i (F.mul a b) = b := by rw [← F.mul_assoc, F.mul_comm i a, hi, F.one_mul]
  rw [← q, h, F.mul_zero]
theorem sqn_tr (n : Nat) (a : F.R) : F.tr n (F.sq a) = F.sq (F.tr n a) := by
  induction n with
  | zero => exact F.sq_zero.symm
  | succ n ih =>
    show F.add (F.tr n (F.sq a)) (F.sqn n (F.sq a)) = F.sq (F.add (F.tr n a) (F.sqn n a))
    rw [ih, F.sqn_sq, F.sq_add]
theorem tr_add (n : Nat) (a b : F.R) : F.tr n (F.add a b) = F.add (F.tr n a) (F.tr n b) := by
  induction n with
  | zero => exact (F.add_zero F.zero).symm
  | succ n ih =>
    show F.add (F.tr n (F.add a b)) (F.sqn n (F.add a b)) = F.add (F.add (F.tr n a) (F.sqn n a)) (F.add (F.tr n b) (F.sqn n b))
    rw [ih, F.sqn_add]
    simp only [F.add_assoc, F.add_comm, F.add_left_comm]
/-- t^2 + t + c has no root -/
theorem Good.root {F : Fld} {n : Nat} (G : F.Good n) (t : F.R) (h : F.add (F.sq t) (F.add t F.c) = F.zero) : False := by
  have e : F.tr n (F.add (F.sq t) (F.add t F.c)) = F.tr n F.zero := by rw [h]
  have z : ∀ m, F.sqn m F.zero = F.zero := fun m => by
    induction m with
    | zero => rfl
    | succ m ih => show F.sq (F.sqn m F.zero) = F.zero; rw [ih, F.sq_zero]
  have z2 : ∀ m, F.tr m F.zero = F.zero := fun m => by
    induction m with
    | zero => rfl
    | succ m ih => show F.add (F.tr m F.zero) (F.sqn m F.zero) = F.zero; rw [ih, z, F.add_zero]
  rw [F.tr_add, F.tr_add, G.trc, z2, F.sqn_tr] at e
  have f : F.add (F.sq (F.tr n t)) t = F.add (F.tr n t) (F.sqn n t) := F.tr_sq n t
  rw [G.frob] at f
  have g : F.sq (F.tr n t) = F.tr n t := by
    have f2 : F.add (F.add (F.sq (F.tr n t)) t) t = F.add (F.add (F.tr n t) t) t := by rw [f]
    rw [F.add_assoc, F.add_self, F.add_zero, F.add_assoc, F.add_self, F.add_zero] at f2
    exact f2
  rw [g, F.add_cancel] at e
  exact G.ne e
theorem Good.ext {F : Fld} {n : Nat} (G : F.Good n) (ht : F.ext.tr (n + n) F.ext.c = F.ext.one) : F.ext.Good (n + n) where
  frob x := by
    obtain ⟨h, l⟩ := x
    rw [← F.ext.sqn_sqn n n, F.esqn, F.esqn]
    simp only [G.frob, G.trc, F.mul_one, F.add_assoc, F.add_self, F.add_zero]
  trc := ht
  ne e := G.ne (congrArg Prod.snd e)
  inv x hx := by
    obtain ⟨h, l⟩ := x
    have hn : F.add (F.sq l) (F.add (F.mul h l) (F.mul F.c (F.sq h))) ≠ F.zero := by
      intro e
      by_cases h0 : h = F.zero
      · subst h0
        rw [F.zero_mul, F.sq_zero, F.mul_zero, F.add_zero, F.add_zero] at e
        by_cases l0 : l = F.zero
        · subst l0
          exact hx rfl
        · exact l0 (G.nz e l0)
      · obtain ⟨i, hi⟩ := G.inv h h0
        refine G.root (F.mul l i) ?_
        have e2 : F.mul (F.sq i) (F.add (F.sq l) (F.add (F.mul h l) (F.mul F.c (F.sq h)))) = F.zero := by rw [e, F.mul_zero]
        rw [F.mul_add, F.mul_add] at e2
        have a1 : F.mul (F.sq i) (F.sq l) = F.sq (F.mul l i) := by rw [← F.sq_mul, F.mul_comm]
        have a2 : F.mul (F.sq i) (F.mul h l) = F.mul l i := by
          unfold sq
          rw [F.mul_assoc, ← F.mul_assoc i h l, F.mul_comm i h, hi, F.one_mul, F.mul_comm]
        have a3 : F.mul (F.sq i) (F.mul F.c (F.sq h)) = F.c := by
          rw [F.mul_left_comm, ← F.sq_mul, F.mul_comm i h, hi, F.sq_one, F.mul_one]
        rw [a1, a2, a3] at e2
        exact e2
    obtain ⟨j, hj⟩ := G.inv _ hn
    refine ⟨F.ext.mul (h, F.add h l) (F.zero, j), ?_⟩
    rw [← F.ext.mul_assoc, F.norm]
    show F.pmul _ _ = _
    rw [F.pmul_eq]
    refine Prod.ext ?_ ?_
    · show F.add (F.mul F.zero F.zero) (F.add (F.mul F.zero j) (F.mul _ F.zero)) = F.zero
      rw [F.mul_zero, F.zero_mul, F.mul_zero, F.add_zero, F.add_zero]
    · show F.add (F.mul _ j) (F.mul F.c (F.mul F.zero F.zero)) = F.one
      rw [hj, F.mul_zero, F.mul_zero, F.add_zero]
end Fld
set_option maxRecDepth 100000
abbrev F1 : Fld := F0.ext
abbrev F2 : Fld := F1.ext
abbrev F3 : Fld := F2.ext
abbrev F4 : Fld := F3.ext
theorem g0 : F0.Good 1 := ⟨fun a h => ⟨true, by cases a; exact absurd rfl h; rfl⟩, fun a => by cases a <;> rfl, rfl, fun h => by cases h⟩
theorem g1 : F1.Good 2 := g0.ext rfl
theorem g2 : F2.Good 4 := g1.ext rfl
theorem g3 : F3.Good 8 := g2.ext rfl
theorem g4 : F4.Good 16 := g3.ext rfl
end NimF

set_option linter.all false
namespace NimF
theorem xor_split {n h1 l1 h2 l2 : Nat} (a : l1 < 2 ^ n) (b : l2 < 2 ^ n) : (h1 * 2 ^ n + l1) ^^^ (h2 * 2 ^ n + l2) = (h1 ^^^ h2) * 2 ^ n + (l1 ^^^ l2) := by
  have hx : l1 ^^^ l2 < 2 ^ n := Nat.xor_lt_two_pow a b
  have e1 : ((h1 * 2 ^ n + l1) ^^^ (h2 * 2 ^ n + l2)) / 2 ^ n = h1 ^^^ h2 := by
    rw [Nat.xor_div_two_pow, Nat.mul_comm h1, Nat.mul_comm h2, Nat.mul_add_div (Nat.two_pow_pos n), Nat.mul_add_div (Nat.two_pow_pos n), Nat.div_eq_of_lt a, Nat.div_eq_of_lt b]
    simp
  have e2 : ((h1 * 2 ^ n + l1) ^^^ (h2 * 2 ^ n + l2)) % 2 ^ n = l1 ^^^ l2 := by
    rw [Nat.xor_mod_two_pow, Nat.mul_comm h1, Nat.mul_comm h2, Nat.mul_add_mod, Nat.mul_add_mod, Nat.mod_eq_of_lt a, Nat.mod_eq_of_lt b]
  have e3 := Nat.div_add_mod ((h1 * 2 ^ n + l1) ^^^ (h2 * 2 ^ n + l2)) (2 ^ n)
  rw [e1, e2] at e3
  rw [← e3, Nat.mul_comm]
structure Enc (F : Fld) (n : Nat) where
  enc : F.R → Nat
  lt : ∀ a, enc a < 2 ^ n
  inj : ∀ a b, enc a = enc b → a = b
  sur : ∀ m, m < 2 ^ n → ∃ a, enc a = m
  add : ∀ a b, enc (F.add a b) = enc a ^^^ enc b
  zero : enc F.zero = 0
  one : enc F.one = 1
  c : enc F.c * 2 = 2 ^ n
def e0 : Enc F0 1 where
  enc := Bool.toNat
  lt := by decide
  inj := by decide
  sur := by decide
  add := by decide
  zero := rfl
  one := rfl
  c := rfl
namespace Enc
variable {F : Fld} {n : Nat} (E : Enc F n)
def ext : Enc F.ext (n + n) where
  enc x := E.enc x.1 * 2 ^ n + E.enc x.2
  lt x := by
    have h1 := E.lt x.1
    have h2 := E.lt x.2
    rw [Nat.pow_add]
    calc E.enc x.1 * 2 ^ n + E.enc x.2 < E.enc x.1 * 2 ^ n + 2 ^ n := by omega
      _ = (E.enc x.1 + 1) * 2 ^ n := by rw [Nat.add_mul, Nat.one_mul]
      _ ≤ 2 ^ n * 2 ^ n := Nat.mul_le_mul_right _ h1
  inj x y h := by
    have q := congrArg (· / 2 ^ n) h
    have r := congrArg (· % 2 ^ n) h
    simp only [Nat.mul_comm _ (2 ^ n), Nat.mul_add_div (Nat.two_pow_pos n), Nat.mul_add_mod, Nat.div_eq_of_lt (E.lt _), Nat.mod_eq_of_lt (E.lt _), Nat.add_zero] at q r
    exact Prod.ext (E.inj _ _ q) (E.inj _ _ r)
  sur m h := by
    rw [Nat.pow_add] at h
    obtain ⟨a, ha⟩ := E.sur (m / 2 ^ n) (Nat.div_lt_of_lt_mul h)
    obtain ⟨b, hb⟩ := E.sur (m % 2 ^ n) (Nat.mod_lt _ (Nat.two_pow_pos n))
    refine ⟨(a, b), ?_⟩
    show E.enc a * 2 ^ n + E.enc b = m
    rw [ha, hb, Nat.mul_comm]
    exact Nat.div_add_mod m (2 ^ n)
  add x y := by
    show E.enc (F.add x.1 y.1) * 2 ^ n + E.enc (F.add x.2 y.2) = _
    rw [E.add, E.add, ← xor_split (E.lt _) (E.lt _)]
  zero := by show E.enc F.zero * 2 ^ n + E.enc F.zero = 0; rw [E.zero]; omega
  one := by show E.enc F.zero * 2 ^ n + E.enc F.one = 1; rw [E.zero, E.one]; omega
  c := by
    show (E.enc F.c * 2 ^ n + E.enc F.zero) * 2 = 2 ^ (n + n)
    rw [E.zero, Nat.pow_add, Nat.add_zero, Nat.mul_right_comm, E.c]
theorem enc_ext (h l : F.R) : E.ext.enc (h, l) = E.enc h * 2 ^ n + E.enc l := rfl
theorem hi (x : F.ext.R) : E.ext.enc x / 2 ^ n = E.enc x.1 := by
  show (E.enc x.1 * 2 ^ n + E.enc x.2) / 2 ^ n = _
  rw [Nat.mul_comm, Nat.mul_add_div (Nat.two_pow_pos n), Nat.div_eq_of_lt (E.lt _), Nat.add_zero]
theorem lo (x : F.ext.R) : E.ext.enc x % 2 ^ n = E.enc x.2 := by
  show (E.enc x.1 * 2 ^ n + E.enc x.2) % 2 ^ n = _
  rw [Nat.mul_comm, Nat.mul_add_mod, Nat.mod_eq_of_lt (E.lt _)]
theorem small {x : F.ext.R} (h : E.ext.enc x < 2 ^ n) : x = (F.zero, x.2) := by
  refine Prod.ext (E.inj _ _ ?_) rfl
  rw [← E.hi x, Nat.div_eq_of_lt h, E.zero]
theorem mul_small (l1 l2 : F.R) : F.ext.mul (F.zero, l1) (F.zero, l2) = (F.zero, F.mul l1 l2) := by
  show F.pmul _ _ = _
  rw [F.pmul_eq]
  simp only [F.mul_zero, F.zero_mul, F.add_zero]
theorem enc_small (l : F.R) : E.ext.enc (F.zero, l) = E.enc l := by
  rw [E.enc_ext, E.zero]; omega
/-- the product as the program glues it -/
theorem glue (x y : F.ext.R) : E.ext.enc (F.ext.mul x y) =
    (((E.enc (F.mul (F.add x.1 x.2) (F.add y.1 y.2)) ^^^ E.enc (F.mul x.2 y.2)) * 2 ^ n) ^^^ E.enc (F.mul x.2 y.2)) ^^^ E.enc (F.mul (F.mul x.1 y.1) F.c) := by
  show E.enc (F.add (F.mul (F.add x.1 x.2) (F.add y.1 y.2)) (F.mul x.2 y.2)) * 2 ^ n + E.enc (F.add (F.mul x.2 y.2) (F.mul (F.mul x.1 y.1) F.c)) = _
  rw [E.add, E.add, Nat.xor_assoc]
  have h := xor_split (n := n) (h1 := E.enc (F.mul (F.add x.1 x.2) (F.add y.1 y.2)) ^^^ E.enc (F.mul x.2 y.2)) (l1 := 0) (h2 := 0) (l2 := E.enc (F.mul x.2 y.2) ^^^ E.enc (F.mul (F.mul x.1 y.1) F.c)) (Nat.two_pow_pos n) (Nat.xor_lt_two_pow (E.lt _) (E.lt _))
  simp only [Nat.zero_mul, Nat.zero_add, Nat.add_zero, Nat.xor_zero, Nat.zero_xor] at h
  exact h.symm
theorem lt2 {a : F.R} (h : E.enc a < 2) : a = F.zero ∨ a = F.one := by
  have : E.enc a = 0 ∨ E.enc a = 1 := by omega
  rcases this with e | e
  · exact .inl (E.inj _ _ (by rw [e, E.zero]))
  · exact .inr (E.inj _ _ (by rw [e, E.one]))
theorem mul_lt2 {a b : F.R} (h : E.enc a < 2 ∨ E.enc b < 2) : E.enc a * E.enc b = E.enc (F.mul a b) := by
  rcases h with h | h
  · rcases E.lt2 h with rfl | rfl
    · rw [F.zero_mul, E.zero]; omega
    · rw [F.one_mul, E.one]; omega
  · rcases E.lt2 h with rfl | rfl
    · rw [F.mul_zero, E.zero]; omega
    · rw [F.mul_one, E.one]; omega
end Enc
/-- numbers below m are closed under products -/
def Sub {F : Fld} {n : Nat} (E : Enc F n) (m : Nat) : Prop := ∀ x y, E.enc x < m → E.enc y < m → E.enc (F.mul x y) < m
theorem Sub.whole {F : Fld} {n : Nat} (E : Enc F n) : Sub E (2 ^ n) := fun x y _ _ => E.lt _
theorem Sub.ext {F : Fld} {n m : Nat} {E : Enc F n} (S : Sub E m) (hm : m ≤ 2 ^ n) : Sub E.ext m := fun x y hx hy => by
  rw [E.small (Nat.lt_of_lt_of_le hx hm), E.small (Nat.lt_of_lt_of_le hy hm), Enc.mul_small, E.enc_small]
  refine S _ _ ?_ ?_
  · rw [E.small (Nat.lt_of_lt_of_le hx hm), E.enc_small] at hx; exact hx
  · rw [E.small (Nat.lt_of_lt_of_le hy hm), E.enc_small] at hy; exact hy
def e1 : Enc F1 2 := e0.ext
def e2 : Enc F2 4 := e1.ext
def e3 : Enc F3 8 := e2.ext
def e4 : Enc F4 16 := e3.ext
theorem sub4 : Sub e4 4 := (((Sub.whole e1).ext (by decide)).ext (by decide)).ext (by decide)
theorem sub16 : Sub e4 16 := ((Sub.whole e2).ext (by decide)).ext (by decide)
theorem sub256 : Sub e4 256 := (Sub.whole e3).ext (by decide)
theorem sub65536 : Sub e4 65536 := Sub.whole e4
/-! ### the inverse as it is reckoned -/
def invGo : Nat → F4.R → F4.R × F4.R
  | 0, a => (F4.one, a)
  | k + 1, a => (F4.mul (invGo k a).1 (F4.mul (invGo k a).2 (invGo k a).2), F4.mul (invGo k a).2 (invGo k a).2)
theorem invGo_pow (k : Nat) (a : F4.R) : (invGo k a).2 = F4.sqn k a := by
  induction k with
  | zero => rfl
  | succ k ih =>
    show F4.mul (invGo k a).2 (invGo k a).2 = F4.sq (F4.sqn k a)
    rw [ih]
    rfl
theorem invGo_fst (k : Nat) (a : F4.R) : F4.mul (F4.mul a (invGo k a).1) a = F4.mul (F4.sqn k a) (F4.sqn k a) := by
  induction k with
  | zero =>
    show F4.mul (F4.mul a F4.one) a = F4.mul a a
    rw [F4.mul_one]
  | succ k ih =>
    show F4.mul (F4.mul a (F4.mul (invGo k a).1 (F4.mul (invGo k a).2 (invGo k a).2))) a = _
    rw [invGo_pow, ← F4.mul_assoc, F4.mul_assoc, F4.mul_comm _ a, ← F4.mul_assoc, ih]
    rfl
theorem inv_ok {a : F4.R} (h : a ≠ F4.zero) : F4.mul a (invGo 15 a).1 = F4.one := by
  have e := invGo_fst 15 a
  have f : F4.mul (F4.sqn 15 a) (F4.sqn 15 a) = a := g4.frob a
  rw [f] at e
  obtain ⟨i, hi⟩ := g4.inv a h
  have q : F4.mul (F4.mul (F4.mul a (invGo 15 a).1) a) i = F4.mul a i := by rw [e]
  rw [F4.mul_assoc, hi, F4.mul_one] at q
  exact q
theorem sub_inv {m : Nat} (S : Sub e4 m) (h1 : 1 < m) {a : F4.R} (h : e4.enc a < m) : ∀ k, e4.enc (invGo k a).1 < m ∧ e4.enc (invGo k a).2 < m
  | 0 => ⟨by show e4.enc F4.one < m; rw [e4.one]; exact h1, h⟩
  | k + 1 => by
    have ih := sub_inv S h1 h k
    have s := S _ _ ih.2 ih.2
    exact ⟨S _ _ ih.1 s, s⟩
theorem mul_zero_iff (a b : F4.R) : F4.mul a b = F4.zero ↔ a = F4.zero ∨ b = F4.zero := by
  constructor
  · intro h
    by_cases ha : a = F4.zero
    · exact .inl ha
    · exact .inr (g4.nz h ha)
  · rintro (rfl | rfl)
    · exact F4.zero_mul b
    · exact F4.mul_zero a
end NimF



set_option Elab.async false
set_option linter.all false
set_option maxRecDepth 100000
set_option maxHeartbeats 4000000
namespace K57
open PySem L2 TG
def top (i : Nat) : Stmt := PySem.Challenge.pw_thermogames_k57_whole_nim_products.main.body.getD i (.Pass ⟨0, 0, 0, 0⟩)
abbrev s_is_int : Stmt := top 4
abbrev s_is_in : Stmt := top 5
abbrev s_need_number : Stmt := top 6
abbrev s_product_of : Stmt := top 9
abbrev s_nim_times : Stmt := top 10
abbrev s_nim_inverse : Stmt := top 11
abbrev s_law_taken : Stmt := top 13
abbrev s_law_pick : Stmt := top 14
abbrev s_law_alike : Stmt := top 15
abbrev s_law_xor : Stmt := top 16
abbrev s_law_missing : Stmt := top 17
abbrev s_law_product : Stmt := top 18
abbrev s_law_sum : Stmt := top 19
abbrev s_law : Stmt := top 20
theorem sc_is_int : FnScope ["value"] ["value"] (defScope s_is_int) := ⟨rfl, rfl, rfl, by decide +kernel, rfl, by decide +kernel, by decide +kernel⟩
theorem sc_is_in : FnScope ["value", "least", "most"] ["value", "least", "most"] (defScope s_is_in) := ⟨rfl, rfl, rfl, by decide +kernel, rfl, by decide +kernel, by decide +kernel⟩
theorem sc_need_number : FnScope ["value", "least", "most"] ["value", "least", "most"] (defScope s_need_number) := ⟨rfl, rfl, rfl, by decide +kernel, rfl, by decide +kernel, by decide +kernel⟩
theorem sc_product_of : FnScope ["one", "other", "half", "scale", "high", "low", "more", "less", "below", "upper", "lower", "middle"] ["one", "other", "half"] (defScope s_product_of) := ⟨rfl, rfl, rfl, by decide +kernel, rfl, by decide +kernel, by decide +kernel⟩
theorem sc_nim_times : FnScope ["one", "other"] ["one", "other"] (defScope s_nim_times) := ⟨rfl, rfl, rfl, by decide +kernel, rfl, by decide +kernel, by decide +kernel⟩
theorem sc_nim_inverse : FnScope ["number", "found", "power", "turn"] ["number"] (defScope s_nim_inverse) := ⟨rfl, rfl, rfl, by decide +kernel, rfl, by decide +kernel, by decide +kernel⟩
theorem sc_law_taken : FnScope ["_law_row", "_law_many", "_law_found", "_law_cell"] ["_law_row", "_law_many"] (defScope s_law_taken) := ⟨rfl, rfl, rfl, by decide +kernel, rfl, by decide +kernel, by decide +kernel⟩
theorem sc_law_pick : FnScope ["_law_row", "_law_things"] ["_law_row", "_law_things"] (defScope s_law_pick) := ⟨rfl, rfl, rfl, by decide +kernel, rfl, by decide +kernel, by decide +kernel⟩
theorem sc_law_alike : FnScope ["_law_found", "_law_due", "_law_k"] ["_law_found", "_law_due"] (defScope s_law_alike) := ⟨rfl, rfl, rfl, by decide +kernel, rfl, by decide +kernel, by decide +kernel⟩
theorem sc_law_xor : FnScope ["_law_one", "_law_other", "_law_found", "_law_bit", "_law_turn"] ["_law_one", "_law_other"] (defScope s_law_xor) := ⟨rfl, rfl, rfl, by decide +kernel, rfl, by decide +kernel, by decide +kernel⟩
theorem sc_law_missing : FnScope ["_law_numbers", "_law_at"] ["_law_numbers"] (defScope s_law_missing) := ⟨rfl, rfl, rfl, by decide +kernel, rfl, by decide +kernel, by decide +kernel⟩
theorem sc_law_product : FnScope ["_law_known", "_law_one", "_law_other", "_law_some", "_law_a", "_law_b", "_law_told"] ["_law_known", "_law_one", "_law_other"] (defScope s_law_product) := ⟨rfl, rfl, rfl, by decide +kernel, rfl, by decide +kernel, by decide +kernel⟩
theorem sc_law_sum : FnScope ["_law_one", "_law_other", "_law_found", "_law_bit", "_law_turn"] ["_law_one", "_law_other"] (defScope s_law_sum) := ⟨rfl, rfl, rfl, by decide +kernel, rfl, by decide +kernel, by decide +kernel⟩
theorem sc_law : FnScope ["_law_script", "_law_row", "_law_one", "_law_other", "_law_most", "_law_a", "_law_b", "_law_c", "_law_back"] ["_law_script"] (defScope s_law) := ⟨rfl, rfl, rfl, by decide +kernel, rfl, by decide +kernel, by decide +kernel⟩
structure Txt (K : PySem.W.Frag) (mg : Str → Option Value) where
  a_is_int : Addr
  d_is_int : FuncData
  F_is_int : Fun K "is_int" "is_int" s_is_int a_is_int d_is_int
  b_is_int : Binds K d_is_int ["value"] []
  g_is_int : mg "is_int" = some (.ref a_is_int)
  a_is_in : Addr
  d_is_in : FuncData
  F_is_in : Fun K "is_in" "is_in" s_is_in a_is_in d_is_in
  b_is_in : Binds K d_is_in ["value", "least", "most"] []
  g_is_in : mg "is_in" = some (.ref a_is_in)
  a_need_number : Addr
  d_need_number : FuncData
  F_need_number : Fun K "need_number" "need_number" s_need_number a_need_number d_need_number
  b_need_number : Binds K d_need_number ["value", "least", "most"] []
  g_need_number : mg "need_number" = some (.ref a_need_number)
  a_product_of : Addr
  d_product_of : FuncData
  F_product_of : Fun K "product_of" "product_of" s_product_of a_product_of d_product_of
  b_product_of : Binds K d_product_of ["one", "other", "half"] []
  g_product_of : mg "product_of" = some (.ref a_product_of)
  a_nim_times : Addr
  d_nim_times : FuncData
  F_nim_times : Fun K "nim_times" "nim_times" s_nim_times a_nim_times d_nim_times
  b_nim_times : Binds K d_nim_times ["one", "other"] []
  g_nim_times : mg "nim_times" = some (.ref a_nim_times)
  a_nim_inverse : Addr
  d_nim_inverse : FuncData
  F_nim_inverse : Fun K "nim_inverse" "nim_inverse" s_nim_inverse a_nim_inverse d_nim_inverse
  b_nim_inverse : Binds K d_nim_inverse ["number"] []
  g_nim_inverse : mg "nim_inverse" = some (.ref a_nim_inverse)
  a_law_taken : Addr
  d_law_taken : FuncData
  F_law_taken : Fun K "_law_taken" "_law_taken" s_law_taken a_law_taken d_law_taken
  b_law_taken : Binds K d_law_taken ["_law_row", "_law_many"] []
  g_law_taken : mg "_law_taken" = some (.ref a_law_taken)
  a_law_pick : Addr
  d_law_pick : FuncData
  F_law_pick : Fun K "_law_pick" "_law_pick" s_law_pick a_law_pick d_law_pick
  b_law_pick : Binds K d_law_pick ["_law_row", "_law_things"] []
  g_law_pick : mg "_law_pick" = some (.ref a_law_pick)
  a_law_alike : Addr
  d_law_alike : FuncData
  F_law_alike : Fun K "_law_alike" "_law_alike" s_law_alike a_law_alike d_law_alike
  b_law_alike : Binds K d_law_alike ["_law_found", "_law_due"] []
  g_law_alike : mg "_law_alike" = some (.ref a_law_alike)
  a_law_xor : Addr
  d_law_xor : FuncData
  F_law_xor : Fun K "_law_xor" "_law_xor" s_law_xor a_law_xor d_law_xor
  b_law_xor : Binds K d_law_xor ["_law_one", "_law_other"] []
  g_law_xor : mg "_law_xor" = some (.ref a_law_xor)
  a_law_missing : Addr
  d_law_missing : FuncData
  F_law_missing : Fun K "_law_missing" "_law_missing" s_law_missing a_law_missing d_law_missing
  b_law_missing : Binds K d_law_missing ["_law_numbers"] []
  g_law_missing : mg "_law_missing" = some (.ref a_law_missing)
  a_law_product : Addr
  d_law_product : FuncData
  F_law_product : Fun K "_law_product" "_law_product" s_law_product a_law_product d_law_product
  b_law_product : Binds K d_law_product ["_law_known", "_law_one", "_law_other"] []
  g_law_product : mg "_law_product" = some (.ref a_law_product)
  a_law_sum : Addr
  d_law_sum : FuncData
  F_law_sum : Fun K "_law_sum" "_law_sum" s_law_sum a_law_sum d_law_sum
  b_law_sum : Binds K d_law_sum ["_law_one", "_law_other"] []
  g_law_sum : mg "_law_sum" = some (.ref a_law_sum)
  a_law : Addr
  d_law : FuncData
  F_law : Fun K "law" "law" s_law a_law d_law
  b_law : Binds K d_law ["_law_script"] []
  g_law : mg "law" = some (.ref a_law)
  B_law : ∀ (s : Shared) (v : Value), BindsTo s d_law ⟨[v], []⟩ [("_law_script", v)]
  t_MOST_NUMBER : Tok
  c_MOST_NUMBER : mg "MOST_NUMBER" = some (Value.int 65535 t_MOST_NUMBER)
  m_len : mg "len" = none
  m_range : mg "range" = none
  m_int : mg "int" = none
  m_bool : mg "bool" = none
  m_str : mg "str" = none
  m_list : mg "list" = none
  m_tuple : mg "tuple" = none
  m_isinstance : mg "isinstance" = none
  m_sorted : mg "sorted" = none
theorem txt_mk {K : PySem.W.Frag} {h : Heap} {mg : Str → Option Value} (X : K.In h) (G : h.Ns mainGlobals mg)
    {f0 : Addr} {od0 an0 : Option Addr} {sl0 : Array (Option Value)} {oc0 kV0 dc0 pm0 cd0 ct0 : Value}
    {f1 : Addr} {od1 an1 : Option Addr} {sl1 : Array (Option Value)} {oc1 kV1 dc1 pm1 cd1 ct1 : Value}
    {f2 : Addr} {od2 an2 : Option Addr} {sl2 : Array (Option Value)} {oc2 kV2 dc2 pm2 cd2 ct2 : Value}
    {f3 : Addr} {od3 an3 : Option Addr} {sl3 : Array (Option Value)} {oc3 kV3 dc3 pm3 cd3 ct3 : Value}
    {f4 : Addr} {od4 an4 : Option Addr} {sl4 : Array (Option Value)} {oc4 kV4 dc4 pm4 cd4 ct4 : Value}
    {f5 : Addr} {od5 an5 : Option Addr} {sl5 : Array (Option Value)} {oc5 kV5 dc5 pm5 cd5 ct5 : Value}
    {f6 : Addr} {od6 an6 : Option Addr} {sl6 : Array (Option Value)} {oc6 kV6 dc6 pm6 cd6 ct6 : Value}
    {f7 : Addr} {od7 an7 : Option Addr} {sl7 : Array (Option Value)} {oc7 kV7 dc7 pm7 cd7 ct7 : Value}
    {f8 : Addr} {od8 an8 : Option Addr} {sl8 : Array (Option Value)} {oc8 kV8 dc8 pm8 cd8 ct8 : Value}
    {f9 : Addr} {od9 an9 : Option Addr} {sl9 : Array (Option Value)} {oc9 kV9 dc9 pm9 cd9 ct9 : Value}
    {f10 : Addr} {od10 an10 : Option Addr} {sl10 : Array (Option Value)} {oc10 kV10 dc10 pm10 cd10 ct10 : Value}
    {f11 : Addr} {od11 an11 : Option Addr} {sl11 : Array (Option Value)} {oc11 kV11 dc11 pm11 cd11 ct11 : Value}
    {f12 : Addr} {od12 an12 : Option Addr} {sl12 : Array (Option Value)} {oc12 kV12 dc12 pm12 cd12 ct12 : Value}
    {f13 : Addr} {od13 an13 : Option Addr} {sl13 : Array (Option Value)} {oc13 kV13 dc13 pm13 cd13 ct13 : Value}
    {tk0 : Tok}
    (a0 : PySem.W.nsIn K mainGlobals "is_int" = some (some (.ref f0))) (l0 : K.lookup f0 = some ⟨oc0, od0, .func (PySem.W.fnOf "is_int" "is_int" (defArgs s_is_int) (defBody s_is_int) (defScope s_is_int) .none kV0 dc0 pm0 an0 cd0 ct0), sl0⟩) (c0 : PySem.W.codeIn K cd0 "is_int" = true) (k0 : PySem.W.keepIn K (.ref f0) = true)
    (a1 : PySem.W.nsIn K mainGlobals "is_in" = some (some (.ref f1))) (l1 : K.lookup f1 = some ⟨oc1, od1, .func (PySem.W.fnOf "is_in" "is_in" (defArgs s_is_in) (defBody s_is_in) (defScope s_is_in) .none kV1 dc1 pm1 an1 cd1 ct1), sl1⟩) (c1 : PySem.W.codeIn K cd1 "is_in" = true) (k1 : PySem.W.keepIn K (.ref f1) = true)
    (a2 : PySem.W.nsIn K mainGlobals "need_number" = some (some (.ref f2))) (l2 : K.lookup f2 = some ⟨oc2, od2, .func (PySem.W.fnOf "need_number" "need_number" (defArgs s_need_number) (defBody s_need_number) (defScope s_need_number) .none kV2 dc2 pm2 an2 cd2 ct2), sl2⟩) (c2 : PySem.W.codeIn K cd2 "need_number" = true) (k2 : PySem.W.keepIn K (.ref f2) = true)
    (a3 : PySem.W.nsIn K mainGlobals "product_of" = some (some (.ref f3))) (l3 : K.lookup f3 = some ⟨oc3, od3, .func (PySem.W.fnOf "product_of" "product_of" (defArgs s_product_of) (defBody s_product_of) (defScope s_product_of) .none kV3 dc3 pm3 an3 cd3 ct3), sl3⟩) (c3 : PySem.W.codeIn K cd3 "product_of" = true) (k3 : PySem.W.keepIn K (.ref f3) = true)
    (a4 : PySem.W.nsIn K mainGlobals "nim_times" = some (some (.ref f4))) (l4 : K.lookup f4 = some ⟨oc4, od4, .func (PySem.W.fnOf "nim_times" "nim_times" (defArgs s_nim_times) (defBody s_nim_times) (defScope s_nim_times) .none kV4 dc4 pm4 an4 cd4 ct4), sl4⟩) (c4 : PySem.W.codeIn K cd4 "nim_times" = true) (k4 : PySem.W.keepIn K (.ref f4) = true)
    (a5 : PySem.W.nsIn K mainGlobals "nim_inverse" = some (some (.ref f5))) (l5 : K.lookup f5 = some ⟨oc5, od5, .func (PySem.W.fnOf "nim_inverse" "nim_inverse" (defArgs s_nim_inverse) (defBody s_nim_inverse) (defScope s_nim_inverse) .none kV5 dc5 pm5 an5 cd5 ct5), sl5⟩) (c5 : PySem.W.codeIn K cd5 "nim_inverse" = true) (k5 : PySem.W.keepIn K (.ref f5) = true)
    (a6 : PySem.W.nsIn K mainGlobals "_law_taken" = some (some (.ref f6))) (l6 : K.lookup f6 = some ⟨oc6, od6, .func (PySem.W.fnOf "_law_taken" "_law_taken" (defArgs s_law_taken) (defBody s_law_taken) (defScope s_law_taken) .none kV6 dc6 pm6 an6 cd6 ct6), sl6⟩) (c6 : PySem.W.codeIn K cd6 "_law_taken" = true) (k6 : PySem.W.keepIn K (.ref f6) = true)
    (a7 : PySem.W.nsIn K mainGlobals "_law_pick" = some (some (.ref f7))) (l7 : K.lookup f7 = some ⟨oc7, od7, .func (PySem.W.fnOf "_law_pick" "_law_pick" (defArgs s_law_pick) (defBody s_law_pick) (defScope s_law_pick) .none kV7 dc7 pm7 an7 cd7 ct7), sl7⟩) (c7 : PySem.W.codeIn K cd7 "_law_pick" = true) (k7 : PySem.W.keepIn K (.ref f7) = true)
    (a8 : PySem.W.nsIn K mainGlobals "_law_alike" = some (some (.ref f8))) (l8 : K.lookup f8 = some ⟨oc8, od8, .func (PySem.W.fnOf "_law_alike" "_law_alike" (defArgs s_law_alike) (defBody s_law_alike) (defScope s_law_alike) .none kV8 dc8 pm8 an8 cd8 ct8), sl8⟩) (c8 : PySem.W.codeIn K cd8 "_law_alike" = true) (k8 : PySem.W.keepIn K (.ref f8) = true)
    (a9 : PySem.W.nsIn K mainGlobals "_law_xor" = some (some (.ref f9))) (l9 : K.lookup f9 = some ⟨oc9, od9, .func (PySem.W.fnOf "_law_xor" "_law_xor" (defArgs s_law_xor) (defBody s_law_xor) (defScope s_law_xor) .none kV9 dc9 pm9 an9 cd9 ct9), sl9⟩) (c9 : PySem.W.codeIn K cd9 "_law_xor" = true) (k9 : PySem.W.keepIn K (.ref f9) = true)
    (a10 : PySem.W.nsIn K mainGlobals "_law_missing" = some (some (.ref f10))) (l10 : K.lookup f10 = some ⟨oc10, od10, .func (PySem.W.fnOf "_law_missing" "_law_missing" (defArgs s_law_missing) (defBody s_law_missing) (defScope s_law_missing) .none kV10 dc10 pm10 an10 cd10 ct10), sl10⟩) (c10 : PySem.W.codeIn K cd10 "_law_missing" = true) (k10 : PySem.W.keepIn K (.ref f10) = true)
    (a11 : PySem.W.nsIn K mainGlobals "_law_product" = some (some (.ref f11))) (l11 : K.lookup f11 = some ⟨oc11, od11, .func (PySem.W.fnOf "_law_product" "_law_product" (defArgs s_law_product) (defBody s_law_product) (defScope s_law_product) .none kV11 dc11 pm11 an11 cd11 ct11), sl11⟩) (c11 : PySem.W.codeIn K cd11 "_law_product" = true) (k11 : PySem.W.keepIn K (.ref f11) = true)
    (a12 : PySem.W.nsIn K mainGlobals "_law_sum" = some (some (.ref f12))) (l12 : K.lookup f12 = some ⟨oc12, od12, .func (PySem.W.fnOf "_law_sum" "_law_sum" (defArgs s_law_sum) (defBody s_law_sum) (defScope s_law_sum) .none kV12 dc12 pm12 an12 cd12 ct12), sl12⟩) (c12 : PySem.W.codeIn K cd12 "_law_sum" = true) (k12 : PySem.W.keepIn K (.ref f12) = true)
    (a13 : PySem.W.nsIn K mainGlobals "law" = some (some (.ref f13))) (l13 : K.lookup f13 = some ⟨oc13, od13, .func (PySem.W.fnOf "law" "law" (defArgs s_law) (defBody s_law) (defScope s_law) .none kV13 dc13 pm13 an13 cd13 ct13), sl13⟩) (c13 : PySem.W.codeIn K cd13 "law" = true) (k13 : PySem.W.keepIn K (.ref f13) = true)
    (v0 : PySem.W.nsIn K mainGlobals "MOST_NUMBER" = some (some (Value.int 65535 tk0)))
    (z0 : PySem.W.nsIn K mainGlobals "len" = some none)
    (z1 : PySem.W.nsIn K mainGlobals "range" = some none)
    (z2 : PySem.W.nsIn K mainGlobals "int" = some none)
    (z3 : PySem.W.nsIn K mainGlobals "bool" = some none)
    (z4 : PySem.W.nsIn K mainGlobals "str" = some none)
    (z5 : PySem.W.nsIn K mainGlobals "list" = some none)
    (z6 : PySem.W.nsIn K mainGlobals "tuple" = some none)
    (z7 : PySem.W.nsIn K mainGlobals "isinstance" = some none)
    (z8 : PySem.W.nsIn K mainGlobals "sorted" = some none) :
    Nonempty (Txt K mg) :=
  ⟨{ a_is_int := f0, d_is_int := _, F_is_int := fun_mk (st := s_is_int) l0 c0 k0, b_is_int := (fun_mk (st := s_is_int) l0 c0 k0).binds (ps := ["value"]) (fun _ _ _ _ _ _ us hl => match us, hl with | [_], _ => rfl), g_is_int := PySem.W.mg_of X G a0,
     a_is_in := f1, d_is_in := _, F_is_in := fun_mk (st := s_is_in) l1 c1 k1, b_is_in := (fun_mk (st := s_is_in) l1 c1 k1).binds (ps := ["value", "least", "most"]) (fun _ _ _ _ _ _ us hl => match us, hl with | [_, _, _], _ => rfl), g_is_in := PySem.W.mg_of X G a1,
     a_need_number := f2, d_need_number := _, F_need_number := fun_mk (st := s_need_number) l2 c2 k2, b_need_number := (fun_mk (st := s_need_number) l2 c2 k2).binds (ps := ["value", "least", "most"]) (fun _ _ _ _ _ _ us hl => match us, hl with | [_, _, _], _ => rfl), g_need_number := PySem.W.mg_of X G a2,
     a_product_of := f3, d_product_of := _, F_product_of := fun_mk (st := s_product_of) l3 c3 k3, b_product_of := (fun_mk (st := s_product_of) l3 c3 k3).binds (ps := ["one", "other", "half"]) (fun _ _ _ _ _ _ us hl => match us, hl with | [_, _, _], _ => rfl), g_product_of := PySem.W.mg_of X G a3,
     a_nim_times := f4, d_nim_times := _, F_nim_times := fun_mk (st := s_nim_times) l4 c4 k4, b_nim_times := (fun_mk (st := s_nim_times) l4 c4 k4).binds (ps := ["one", "other"]) (fun _ _ _ _ _ _ us hl => match us, hl with | [_, _], _ => rfl), g_nim_times := PySem.W.mg_of X G a4,
     a_nim_inverse := f5, d_nim_inverse := _, F_nim_inverse := fun_mk (st := s_nim_inverse) l5 c5 k5, b_nim_inverse := (fun_mk (st := s_nim_inverse) l5 c5 k5).binds (ps := ["number"]) (fun _ _ _ _ _ _ us hl => match us, hl with | [_], _ => rfl), g_nim_inverse := PySem.W.mg_of X G a5,
     a_law_taken := f6, d_law_taken := _, F_law_taken := fun_mk (st := s_law_taken) l6 c6 k6, b_law_taken := (fun_mk (st := s_law_taken) l6 c6 k6).binds (ps := ["_law_row", "_law_many"]) (fun _ _ _ _ _ _ us hl => match us, hl with | [_, _], _ => rfl), g_law_taken := PySem.W.mg_of X G a6,
     a_law_pick := f7, d_law_pick := _, F_law_pick := fun_mk (st := s_law_pick) l7 c7 k7, b_law_pick := (fun_mk (st := s_law_pick) l7 c7 k7).binds (ps := ["_law_row", "_law_things"]) (fun _ _ _ _ _ _ us hl => match us, hl with | [_, _], _ => rfl), g_law_pick := PySem.W.mg_of X G a7,
     a_law_alike := f8, d_law_alike := _, F_law_alike := fun_mk (st := s_law_alike) l8 c8 k8, b_law_alike := (fun_mk (st := s_law_alike) l8 c8 k8).binds (ps := ["_law_found", "_law_due"]) (fun _ _ _ _ _ _ us hl => match us, hl with | [_, _], _ => rfl), g_law_alike := PySem.W.mg_of X G a8,
     a_law_xor := f9, d_law_xor := _, F_law_xor := fun_mk (st := s_law_xor) l9 c9 k9, b_law_xor := (fun_mk (st := s_law_xor) l9 c9 k9).binds (ps := ["_law_one", "_law_other"]) (fun _ _ _ _ _ _ us hl => match us, hl with | [_, _], _ => rfl), g_law_xor := PySem.W.mg_of X G a9,
     a_law_missing := f10, d_law_missing := _, F_law_missing := fun_mk (st := s_law_missing) l10 c10 k10, b_law_missing := (fun_mk (st := s_law_missing) l10 c10 k10).binds (ps := ["_law_numbers"]) (fun _ _ _ _ _ _ us hl => match us, hl with | [_], _ => rfl), g_law_missing := PySem.W.mg_of X G a10,
     a_law_product := f11, d_law_product := _, F_law_product := fun_mk (st := s_law_product) l11 c11 k11, b_law_product := (fun_mk (st := s_law_product) l11 c11 k11).binds (ps := ["_law_known", "_law_one", "_law_other"]) (fun _ _ _ _ _ _ us hl => match us, hl with | [_, _, _], _ => rfl), g_law_product := PySem.W.mg_of X G a11,
     a_law_sum := f12, d_law_sum := _, F_law_sum := fun_mk (st := s_law_sum) l12 c12 k12, b_law_sum := (fun_mk (st := s_law_sum) l12 c12 k12).binds (ps := ["_law_one", "_law_other"]) (fun _ _ _ _ _ _ us hl => match us, hl with | [_, _], _ => rfl), g_law_sum := PySem.W.mg_of X G a12,
     a_law := f13, d_law := _, F_law := fun_mk (st := s_law) l13 c13 k13, b_law := (fun_mk (st := s_law) l13 c13 k13).binds (ps := ["_law_script"]) (fun _ _ _ _ _ _ us hl => match us, hl with | [_], _ => rfl), g_law := PySem.W.mg_of X G a13,
     B_law := fun s v => .of_eq rfl,
     t_MOST_NUMBER := tk0, c_MOST_NUMBER := PySem.W.mg_of X G v0,
     m_len := PySem.W.mg_none_of X G z0,
     m_range := PySem.W.mg_none_of X G z1,
     m_int := PySem.W.mg_none_of X G z2,
     m_bool := PySem.W.mg_none_of X G z3,
     m_str := PySem.W.mg_none_of X G z4,
     m_list := PySem.W.mg_none_of X G z5,
     m_tuple := PySem.W.mg_none_of X G z6,
     m_isinstance := PySem.W.mg_none_of X G z7,
     m_sorted := PySem.W.mg_none_of X G z8 }⟩
end K57


set_option Elab.async false
set_option linter.all false
set_option maxRecDepth 100000
set_option maxHeartbeats 4000000
namespace K57
open PySem L2 TG
local macro_rules | `(tactic| walk_at "rd") => `(tactic| simp only [tRet, tAndV, tOrV, tNotV, tAnd, tOr, tNot, tB, tTest, tCB, tCons, tNil, tVar, tC, L2.start, tOp, tUn, tIf, tIfS, tSeq, tAsg, gName, tNext, tNever, tPar, tDrop, tCall, tChain, rI, rI0, rU, rEq, rNe, scal, List.map, List.length, List.replicate, List.append, List.set, List.cons_append, List.nil_append, List.append_nil,
  List.getElem?_cons_zero, List.getElem?_cons_succ, List.set_cons_zero, List.set_cons_succ, Option.some.injEq, exists_eq_left', exists_eq_left, exists_eq_right, exists_eq_right', exists_and_left, V.int.injEq, V.bl.injEq, V.str.injEq, V.ref.injEq, List.cons.injEq, and_true, true_and, and_self, Nat.reduceAdd, Nat.reduceSub, Nat.sub_self, decide_eq_true_eq, Bool.not_eq_true', decide_eq_false_iff_not, ↓reduceIte, Bool.false_eq_true, TG.ex2_eq, TG.ex3_eq, TG.ex4_eq])
section
variable {P : Program} {w : World} {K : PySem.W.Frag} {mg : Str → Option Value} {base : Heap}
/-! ### is_int, is_in, need_number -/
def spIsInt : Sp := fun vs H Q _ => ∃ n : Int, vs = [.int n] ∧ Q (.bl true) H
theorem ok_is_int {k : Nat} (T : Txt K mg) : FnOk P w K mg base CX0 (k + 1) T.a_is_int T.d_is_int ["value"] spIsInt := by
  refine T.F_is_int.ok sc_is_int (fun vs H Q E h => ?_) (fun cdv A outer s H vs Q E hr h => ?_)
  · obtain ⟨n, rfl, _⟩ := h
    rfl
  obtain ⟨n, rfl, q⟩ := h
  refine ⟨_, (pss_one (ps_ret (pe_and (pe_callB call_isiS rfl T.m_isinstance (by decide +kernel) (pa_cons (pv 0) (pa_cons (pe_bltn (v := .ty "int") (u := .type "int") rfl T.m_int (by decide +kernel) rfl) pa_nil))) (pe_one (pe_not (pe_callB call_isiS rfl T.m_isinstance (by decide +kernel) (pa_cons (pv 0) (pa_cons (pe_bltn (v := .ty "bool") (u := .type "bool") rfl T.m_bool (by decide +kernel) rfl) pa_nil)))))))), ?_⟩
  exact ⟨_, rfl, _, _, _, _, rfl, rfl, kit_int_int, _, rfl, _, rfl, _, _, _, _, rfl, rfl, kit_int_bool, _, rfl, q⟩
def spIsIn : Sp := fun vs H Q _ => ∃ n a b : Int, vs = [.int n, .int a, .int b] ∧ Q (.bl (decide (a ≤ n) && decide (n ≤ b))) H
theorem ok_is_in {k : Nat} (T : Txt K mg) (G_is_int : FnOk P w K mg base CX0 k T.a_is_int T.d_is_int ["value"] spIsInt) : FnOk P w K mg base CX0 (k + 1) T.a_is_in T.d_is_in ["value", "least", "most"] spIsIn := by
  refine T.F_is_in.ok sc_is_in (fun vs H Q E h => ?_) (fun cdv A outer s H vs Q E hr h => ?_)
  · obtain ⟨n, a, b, rfl, _⟩ := h
    rfl
  obtain ⟨n, a, b, rfl, q⟩ := h
  refine ⟨_, (pss_one (ps_ret (pe_and (pe_call G_is_int hr rfl T.g_is_int T.F_is_int.kp T.b_is_int .nil pass0 (pa_cons (pv 0) pa_nil)) (pe_one (pe_chain op_le op_le (pv 1) (pv 0) (pv 2)))))), ?_⟩
  walk_at "rd"
  refine ⟨n, rfl, true, rfl, ?_⟩
  rw [if_pos rfl]
  by_cases h : a ≤ n
  · rw [if_pos h]
    rw [decide_eq_true h] at q
    exact q
  · rw [if_neg h]
    rw [decide_eq_false h] at q
    exact q
/-- a good number is let through -/
def spNeed : Sp := fun vs H Q _ => ∃ n a b : Int, vs = [.int n, .int a, .int b] ∧ (a ≤ n ∧ n ≤ b) ∧ Q .non H
theorem ok_need_number {k : Nat} (T : Txt K mg) (G_is_in : FnOk P w K mg base CX0 k T.a_is_in T.d_is_in ["value", "least", "most"] spIsIn) : FnOk P w K mg base CX0 (k + 1) T.a_need_number T.d_need_number ["value", "least", "most"] spNeed := by
  refine T.F_need_number.ok sc_need_number (fun vs H Q E h => ?_) (fun cdv A outer s H vs Q E hr h => ?_)
  · obtain ⟨n, a, b, rfl, _⟩ := h
    rfl
  obtain ⟨n, a, b, rfl, ⟨h1, h2⟩, q⟩ := h
  refine ⟨_, (pss_one (ps_if (pt_not (pt_val (pe_call G_is_in hr rfl T.g_is_in T.F_is_in.kp T.b_is_in .nil pass0 (pa_cons (pv 0) (pa_cons (pv 1) (pa_cons (pv 2) pa_nil))))))
  (pss_one ps_never)
  pss_nil)), ?_⟩
  simp only [tRet, tAndV, tOrV, tNotV, tAnd, tOr, tNot, tB, tTest, tCB, tCons, tNil, tVar, tC, L2.start, tOp, tUn, tIf, tIfS, tSeq, tAsg, gName, tNext, tNever, tPar, tDrop, tCall, tChain, rI, rI0, rU, rEq, rNe, scal, List.map, List.length, List.replicate, List.append, List.set, List.cons_append, List.nil_append, List.append_nil,
  List.getElem?_cons_zero, List.getElem?_cons_succ, List.set_cons_zero, List.set_cons_succ, Option.some.injEq, exists_eq_left', exists_eq_left, exists_eq_right, exists_eq_right', exists_and_left, V.int.injEq, V.bl.injEq, V.str.injEq, V.ref.injEq, List.cons.injEq, and_true, true_and, and_self, Nat.reduceAdd, Nat.reduceSub, Nat.sub_self, decide_eq_true_eq, Bool.not_eq_true', decide_eq_false_iff_not, ↓reduceIte, Bool.false_eq_true, TG.ex2_eq, TG.ex3_eq, TG.ex4_eq, spIsIn, h1, h2, decide_true, Bool.and_self, Bool.true_eq, Bool.not_true]
  simpa [h1, h2] using q
/-! ### product_of -/
noncomputable def dec {F : NimF.Fld} {n : Nat} (B : NimF.Enc F n) (m : Nat) : F.R := open Classical in if h : m < 2 ^ n then Classical.choose (B.sur m h) else F.zero
theorem dec_enc {F : NimF.Fld} {n : Nat} (B : NimF.Enc F n) (x : F.R) : dec B (B.enc x) = x := by
  unfold dec
  rw [dif_pos (B.lt x)]
  exact B.inj _ _ (Classical.choose_spec (B.sur (B.enc x) (B.lt x)))
noncomputable def pr {F : NimF.Fld} {n : Nat} (B : NimF.Enc F n) (a b : Int) : Int := (B.enc (F.mul (dec B a.toNat) (dec B b.toNat)) : Nat)
theorem pr_enc {F : NimF.Fld} {n : Nat} (B : NimF.Enc F n) (x y : F.R) : pr B (B.enc x : Nat) (B.enc y : Nat) = ((B.enc (F.mul x y) : Nat) : Int) := by
  unfold pr
  rw [Int.toNat_natCast, Int.toNat_natCast, dec_enc, dec_enc]
def spProd {F : NimF.Fld} {n : Nat} (B : NimF.Enc F n) (half : Int) : Sp := fun vs H Q _ => ∃ a b : Int, vs = [.int a, .int b, .int half] ∧ (0 ≤ a ∧ a < ((2 ^ n : Nat) : Int) ∧ 0 ≤ b ∧ b < ((2 ^ n : Nat) : Int)) ∧ Q (.int (pr B a b)) H
section
variable {F : NimF.Fld} {n : Nat} (B : NimF.Enc F n)
theorem hiI (x : F.ext.R) : ((B.ext.enc x : Nat) : Int) / ((2 ^ n : Nat) : Int) = ((B.enc x.1 : Nat) : Int) := by
  rw [← Int.natCast_ediv, B.hi]
theorem loI (x : F.ext.R) : ((B.ext.enc x : Nat) : Int) % ((2 ^ n : Nat) : Int) = ((B.enc x.2 : Nat) : Int) := by
  rw [← Int.natCast_emod, B.lo]
theorem xorN (a b : Nat) : Builtin.bitXor (a : Int) (b : Int) = ((a ^^^ b : Nat) : Int) := by
  rw [Bits.bitXor_pp (Int.natCast_nonneg _) (Int.natCast_nonneg _), Int.toNat_natCast, Int.toNat_natCast]
theorem xorI (x y : F.R) : Builtin.bitXor ((B.enc x : Nat) : Int) ((B.enc y : Nat) : Int) = ((B.enc (F.add x y) : Nat) : Int) := by
  rw [xorN, B.add]
theorem cI : ((2 ^ n : Nat) : Int) / 2 = ((B.enc F.c : Nat) : Int) := by
  rw [← B.c]
  omega
theorem ltI (x : F.R) : (((B.enc x : Nat) : Int) < ((2 ^ n : Nat) : Int)) = True := eq_true (Int.ofNat_lt.mpr (B.lt x))
theorem leI (m : Nat) : ((0 : Int) ≤ (m : Int)) = True := eq_true (Int.natCast_nonneg m)
end
theorem of_lt {F : NimF.Fld} {n : Nat} (B : NimF.Enc F n) {a : Int} (h0 : 0 ≤ a) (h : a < ((2 ^ n : Nat) : Int)) : ∃ x, a = ((B.enc x : Nat) : Int) := by
  obtain ⟨x, hx⟩ := B.sur a.toNat (by omega)
  exact ⟨x, by rw [hx]; omega⟩
theorem ok_prod_ext {k : Nat} (T : Txt K mg) {F : NimF.Fld} {n : Nat} (B : NimF.Enc F n) (hn : n ≤ 8) {hb : Int} (hb2 : (n : Int) / 2 = hb) (G_product_of : FnOk P w K mg base CX0 k T.a_product_of T.d_product_of ["one", "other", "half"] (spProd B hb)) :
    FnOk P w K mg base CX0 (k + 1) T.a_product_of T.d_product_of ["one", "other", "half"] (spProd B.ext n) := by
  refine T.F_product_of.ok sc_product_of (fun vs H Q E h => ?_) (fun cdv A outer s H vs Q E hr h => ?_)
  · obtain ⟨x, y, rfl, _⟩ := h
    rfl
  obtain ⟨a, b, rfl, ⟨a0, a1, b0, b1⟩, q⟩ := h
  obtain ⟨x, rfl⟩ := of_lt B.ext a0 a1
  obtain ⟨y, rfl⟩ := of_lt B.ext b0 b1
  rw [pr_enc] at q
  refine ⟨_, (pss_cons (ps_if (PW.pt (pw_or (pt_cmpR op_lt (pv 0) pe_int (nomark _)) (pw_or1 (pt_cmpR op_lt (pv 1) pe_int (nomark _)))))
  (pss_one (ps_ret (pe_op op_mul (pv 0) (pv 1))))
  pss_nil)
  (pss_cons (ps_set (i := 3) sc_product_of.nd rfl (Or.inl rfl) (pe_op op_shl pe_int (pv 2)))
  (pss_cons (ps_if (PW.pt (pw_and (pt_cmpR op_lt (pv 0) (pv 3) (nomark _)) (pw_and1 (pt_cmpR op_lt (pv 1) (pv 3) (nomark _)))))
  (pss_one (ps_ret (pe_call G_product_of hr rfl T.g_product_of T.F_product_of.kp T.b_product_of .nil pass0 (pa_cons (pv 0) (pa_cons (pv 1) (pa_cons (pe_op op_fdiv (pv 2) pe_int) pa_nil))))))
  pss_nil)
  (pss_cons (ps_par (i := 4) (j := 5) rfl sc_product_of.nd rfl rfl (by decide) rfl rfl (pa_cons (pe_op op_fdiv (pv 0) (pv 3)) (pa_cons (pe_op op_mod (pv 0) (pv 3)) pa_nil)) rfl)
  (pss_cons (ps_par (i := 6) (j := 7) rfl sc_product_of.nd rfl rfl (by decide) rfl rfl (pa_cons (pe_op op_fdiv (pv 1) (pv 3)) (pa_cons (pe_op op_mod (pv 1) (pv 3)) pa_nil)) rfl)
  (pss_cons (ps_set (i := 8) sc_product_of.nd rfl (Or.inl rfl) (pe_op op_fdiv (pv 2) pe_int))
  (pss_cons (ps_par (i := 9) (j := 10) rfl sc_product_of.nd rfl rfl (by decide) rfl rfl (pa_cons (pe_call G_product_of hr rfl T.g_product_of T.F_product_of.kp T.b_product_of .nil pass0 (pa_cons (pv 4) (pa_cons (pv 6) (pa_cons (pv 8) pa_nil)))) (pa_cons (pe_call G_product_of hr rfl T.g_product_of T.F_product_of.kp T.b_product_of .nil pass0 (pa_cons (pv 5) (pa_cons (pv 7) (pa_cons (pv 8) pa_nil)))) pa_nil)) rfl)
  (pss_cons (ps_set (i := 11) sc_product_of.nd rfl (Or.inl rfl) (pe_call G_product_of hr rfl T.g_product_of T.F_product_of.kp T.b_product_of .nil pass0 (pa_cons (pe_op op_xor (pv 4) (pv 5)) (pa_cons (pe_op op_xor (pv 6) (pv 7)) (pa_cons (pv 8) pa_nil)))))
  (pss_one (ps_ret (pe_op op_xor (pe_op op_xor (pe_op op_mul (pe_op op_xor (pv 11) (pv 10)) (pv 3)) (pv 10)) (pe_call G_product_of hr rfl T.g_product_of T.F_product_of.kp T.b_product_of .nil pass0 (pa_cons (pv 9) (pa_cons (pe_op op_fdiv (pv 3) pe_int) (pa_cons (pv 8) pa_nil))))))))))))))), ?_⟩
  have p8 : 2 ^ n ≤ 256 := Nat.le_trans (Nat.pow_le_pow_right (by decide) hn) (by decide)
  have pp : 0 < 2 ^ n := Nat.two_pow_pos n
  have e2 : (1 : Int) * 2 ^ ((n : Int)).toNat = ((2 ^ n : Nat) : Int) := by
    rw [Int.one_mul, Int.toNat_natCast]
    exact (Int.natCast_pow 2 n).symm
  have c1 : CPow 1 (n : Int) := ⟨by omega, by omega, by decide⟩
  have c2 : CDiv (n : Int) 2 := ⟨by decide, by decide⟩
  have c3 : ∀ i : Int, CDiv i ((2 ^ n : Nat) : Int) := fun i => ⟨by omega, by omega⟩
  have c3' : ∀ i : Int, CDiv i 2 := fun i => ⟨by decide, by decide⟩
  have c4 : (0 : Int) < ((2 ^ n : Nat) : Int) := by omega
  by_cases hx : (B.ext.enc x < 2 ∨ B.ext.enc y < 2)
  · have lx := B.ext.lt x
    have p16 : 2 ^ (n + n) ≤ 65536 := Nat.le_trans (Nat.pow_le_pow_right (by decide) (Nat.add_le_add hn hn)) (by decide)
    have cm : CMul ((B.ext.enc x : Nat) : Int) ((B.ext.enc y : Nat) : Int) := .inl ⟨by omega, by omega⟩
    have em := B.ext.mul_lt2 hx
    have eq1 : ((B.ext.enc x : Nat) : Int) * ((B.ext.enc y : Nat) : Int) = ((B.ext.enc (F.ext.mul x y) : Nat) : Int) := by rw [← em]; exact (Int.natCast_mul _ _).symm
    rcases hx with hx | hx
    · have h1 : ((B.ext.enc x : Nat) : Int) < 2 := by omega
      simp only [tRet, tAndV, tOrV, tNotV, tAnd, tOr, tNot, tB, tTest, tCB, tCons, tNil, tVar, tC, L2.start, tOp, tUn, tIf, tIfS, tSeq, tAsg, gName, tNext, tNever, tPar, tDrop, tCall, tChain, rI, rI0, rU, rEq, rNe, scal, List.map, List.length, List.replicate, List.append, List.set, List.cons_append, List.nil_append, List.append_nil,
  List.getElem?_cons_zero, List.getElem?_cons_succ, List.set_cons_zero, List.set_cons_succ, Option.some.injEq, exists_eq_left', exists_eq_left, exists_eq_right, exists_eq_right', exists_and_left, V.int.injEq, V.bl.injEq, V.str.injEq, V.ref.injEq, List.cons.injEq, and_true, true_and, and_self, Nat.reduceAdd, Nat.reduceSub, Nat.sub_self, decide_eq_true_eq, Bool.not_eq_true', decide_eq_false_iff_not, ↓reduceIte, Bool.false_eq_true, TG.ex2_eq, TG.ex3_eq, TG.ex4_eq, h1, eq1]
      exact ⟨cm, q⟩
    · have h1 : ((B.ext.enc y : Nat) : Int) < 2 := by omega
      by_cases h2 : ((B.ext.enc x : Nat) : Int) < 2
      · simp only [tRet, tAndV, tOrV, tNotV, tAnd, tOr, tNot, tB, tTest, tCB, tCons, tNil, tVar, tC, L2.start, tOp, tUn, tIf, tIfS, tSeq, tAsg, gName, tNext, tNever, tPar, tDrop, tCall, tChain, rI, rI0, rU, rEq, rNe, scal, List.map, List.length, List.replicate, List.append, List.set, List.cons_append, List.nil_append, List.append_nil,
  List.getElem?_cons_zero, List.getElem?_cons_succ, List.set_cons_zero, List.set_cons_succ, Option.some.injEq, exists_eq_left', exists_eq_left, exists_eq_right, exists_eq_right', exists_and_left, V.int.injEq, V.bl.injEq, V.str.injEq, V.ref.injEq, List.cons.injEq, and_true, true_and, and_self, Nat.reduceAdd, Nat.reduceSub, Nat.sub_self, decide_eq_true_eq, Bool.not_eq_true', decide_eq_false_iff_not, ↓reduceIte, Bool.false_eq_true, TG.ex2_eq, TG.ex3_eq, TG.ex4_eq, h2, eq1]
        exact ⟨cm, q⟩
      · simp only [tRet, tAndV, tOrV, tNotV, tAnd, tOr, tNot, tB, tTest, tCB, tCons, tNil, tVar, tC, L2.start, tOp, tUn, tIf, tIfS, tSeq, tAsg, gName, tNext, tNever, tPar, tDrop, tCall, tChain, rI, rI0, rU, rEq, rNe, scal, List.map, List.length, List.replicate, List.append, List.set, List.cons_append, List.nil_append, List.append_nil,
  List.getElem?_cons_zero, List.getElem?_cons_succ, List.set_cons_zero, List.set_cons_succ, Option.some.injEq, exists_eq_left', exists_eq_left, exists_eq_right, exists_eq_right', exists_and_left, V.int.injEq, V.bl.injEq, V.str.injEq, V.ref.injEq, List.cons.injEq, and_true, true_and, and_self, Nat.reduceAdd, Nat.reduceSub, Nat.sub_self, decide_eq_true_eq, Bool.not_eq_true', decide_eq_false_iff_not, ↓reduceIte, Bool.false_eq_true, TG.ex2_eq, TG.ex3_eq, TG.ex4_eq, h1, h2, eq1]
        exact ⟨cm, q⟩
  · have hx1 : ¬ ((B.ext.enc x : Nat) : Int) < 2 := by omega
    have hx2 : ¬ ((B.ext.enc y : Nat) : Int) < 2 := by omega
    have gl : Q (.int (Builtin.bitXor (Builtin.bitXor (Builtin.bitXor ((B.enc (F.mul (F.add x.1 x.2) (F.add y.1 y.2)) : Nat) : Int) ((B.enc (F.mul x.2 y.2) : Nat) : Int) * ((2 ^ n : Nat) : Int)) ((B.enc (F.mul x.2 y.2) : Nat) : Int)) ((B.enc (F.mul (F.mul x.1 y.1) F.c) : Nat) : Int))) H := by
      rw [xorN, ← Int.natCast_mul, xorN, xorN, ← B.glue]
      exact q
    by_cases hs : (B.ext.enc x < 2 ^ n ∧ B.ext.enc y < 2 ^ n)
    · have hs1 : ((B.ext.enc x : Nat) : Int) < ((2 ^ n : Nat) : Int) := by omega
      have hs2 : ((B.ext.enc y : Nat) : Int) < ((2 ^ n : Nat) : Int) := by omega
      have ex := B.small hs.1
      have ey := B.small hs.2
      have fx : ((B.ext.enc x : Nat) : Int) = ((B.enc x.2 : Nat) : Int) := by rw [ex, B.enc_small]
      have fy : ((B.ext.enc y : Nat) : Int) = ((B.enc y.2 : Nat) : Int) := by rw [ey, B.enc_small]
      have fq : Q (.int ((B.enc (F.mul x.2 y.2) : Nat) : Int)) H := by
        rw [ex, ey, NimF.Enc.mul_small, B.enc_small] at q
        exact q
      simp only [tRet, tAndV, tOrV, tNotV, tAnd, tOr, tNot, tB, tTest, tCB, tCons, tNil, tVar, tC, L2.start, tOp, tUn, tIf, tIfS, tSeq, tAsg, gName, tNext, tNever, tPar, tDrop, tCall, tChain, rI, rI0, rU, rEq, rNe, scal, List.map, List.length, List.replicate, List.append, List.set, List.cons_append, List.nil_append, List.append_nil,
  List.getElem?_cons_zero, List.getElem?_cons_succ, List.set_cons_zero, List.set_cons_succ, Option.some.injEq, exists_eq_left', exists_eq_left, exists_eq_right, exists_eq_right', exists_and_left, V.int.injEq, V.bl.injEq, V.str.injEq, V.ref.injEq, List.cons.injEq, and_true, true_and, and_self, Nat.reduceAdd, Nat.reduceSub, Nat.sub_self, decide_eq_true_eq, Bool.not_eq_true', decide_eq_false_iff_not, ↓reduceIte, Bool.false_eq_true, TG.ex2_eq, TG.ex3_eq, TG.ex4_eq, hx1, hx2, e2, hs1, hs2, hb2, spProd]
      refine ⟨c1, c2, ?_⟩
      rw [fx, fy]
      simp only [leI, ltI, pr_enc, and_self, true_and]
      exact fq
    · simp only [tRet, tAndV, tOrV, tNotV, tAnd, tOr, tNot, tB, tTest, tCB, tCons, tNil, tVar, tC, L2.start, tOp, tUn, tIf, tIfS, tSeq, tAsg, gName, tNext, tNever, tPar, tDrop, tCall, tChain, rI, rI0, rU, rEq, rNe, scal, List.map, List.length, List.replicate, List.append, List.set, List.cons_append, List.nil_append, List.append_nil,
  List.getElem?_cons_zero, List.getElem?_cons_succ, List.set_cons_zero, List.set_cons_succ, Option.some.injEq, exists_eq_left', exists_eq_left, exists_eq_right, exists_eq_right', exists_and_left, V.int.injEq, V.bl.injEq, V.str.injEq, V.ref.injEq, List.cons.injEq, and_true, true_and, and_self, Nat.reduceAdd, Nat.reduceSub, Nat.sub_self, decide_eq_true_eq, Bool.not_eq_true', decide_eq_false_iff_not, ↓reduceIte, Bool.false_eq_true, TG.ex2_eq, TG.ex3_eq, TG.ex4_eq, hx1, hx2, e2, hb2, spProd, c1, c2, c3, c3', c4, hiI, loI, xorI, cI B, leI, ltI, pr_enc]
      have ns : ¬ (((B.ext.enc x : Nat) : Int) < ((2 ^ n : Nat) : Int) ∧ ((B.ext.enc y : Nat) : Int) < ((2 ^ n : Nat) : Int)) := fun z => hs ⟨Int.ofNat_lt.mp z.1, Int.ofNat_lt.mp z.2⟩
      have cm : CMul ((B.enc (F.add (F.mul (F.add x.1 x.2) (F.add y.1 y.2)) (F.mul x.2 y.2)) : Nat) : Int) ((2 ^ n : Nat) : Int) := .inr ⟨by omega, by omega⟩
      rw [xorI] at gl
      by_cases s1 : ((B.ext.enc x : Nat) : Int) < ((2 ^ n : Nat) : Int)
      · have s2 : ¬ ((B.ext.enc y : Nat) : Int) < ((2 ^ n : Nat) : Int) := fun z => ns ⟨s1, z⟩
        rw [if_pos s1, if_neg s2]
        exact ⟨cm, gl⟩
      · rw [if_neg s1]
        exact ⟨cm, gl⟩
theorem ok_prod_0 {k : Nat} (T : Txt K mg) : FnOk P w K mg base CX0 (k + 1) T.a_product_of T.d_product_of ["one", "other", "half"] (spProd NimF.e0 0) := by
  refine T.F_product_of.ok sc_product_of (fun vs H Q E h => ?_) (fun cdv A outer s H vs Q E hr h => ?_)
  · obtain ⟨x, y, rfl, _⟩ := h
    rfl
  obtain ⟨a, b, rfl, ⟨a0, a1, b0, b1⟩, q⟩ := h
  obtain ⟨x, rfl⟩ := of_lt NimF.e0 a0 a1
  obtain ⟨y, rfl⟩ := of_lt NimF.e0 b0 b1
  rw [pr_enc] at q
  have lx := NimF.e0.lt x
  have em := NimF.e0.mul_lt2 (a := x) (b := y) (.inl lx)
  have h1 : ((NimF.e0.enc x : Nat) : Int) < 2 := by omega
  have cm : CMul ((NimF.e0.enc x : Nat) : Int) ((NimF.e0.enc y : Nat) : Int) := .inl ⟨by omega, by omega⟩
  have eq1 : ((NimF.e0.enc x : Nat) : Int) * ((NimF.e0.enc y : Nat) : Int) = ((NimF.e0.enc (NimF.F0.mul x y) : Nat) : Int) := by rw [← em]; exact (Int.natCast_mul _ _).symm
  refine ⟨_, pss_cons (ps_if (PW.pt (pw_or (pt_cmpR op_lt (pv 0) pe_int (nomark _)) (pw_or1 (pt_cmpR op_lt (pv 1) pe_int (nomark _)))))
  (pss_one (ps_ret (pe_op op_mul (pv 0) (pv 1))))
  pss_nil) pss_never, ?_⟩
  simp only [tRet, tAndV, tOrV, tNotV, tAnd, tOr, tNot, tB, tTest, tCB, tCons, tNil, tVar, tC, L2.start, tOp, tUn, tIf, tIfS, tSeq, tAsg, gName, tNext, tNever, tPar, tDrop, tCall, tChain, rI, rI0, rU, rEq, rNe, scal, List.map, List.length, List.replicate, List.append, List.set, List.cons_append, List.nil_append, List.append_nil,
  List.getElem?_cons_zero, List.getElem?_cons_succ, List.set_cons_zero, List.set_cons_succ, Option.some.injEq, exists_eq_left', exists_eq_left, exists_eq_right, exists_eq_right', exists_and_left, V.int.injEq, V.bl.injEq, V.str.injEq, V.ref.injEq, List.cons.injEq, and_true, true_and, and_self, Nat.reduceAdd, Nat.reduceSub, Nat.sub_self, decide_eq_true_eq, Bool.not_eq_true', decide_eq_false_iff_not, ↓reduceIte, Bool.false_eq_true, TG.ex2_eq, TG.ex3_eq, TG.ex4_eq, h1, eq1]
  exact ⟨cm, q⟩
/-- the whole of it: 16 binary digits -/
theorem ok_product_of {k : Nat} (T : Txt K mg) : FnOk P w K mg base CX0 (k + 5) T.a_product_of T.d_product_of ["one", "other", "half"] (spProd NimF.e4 8) :=
  ok_prod_ext T NimF.e3 (by decide) (by decide) (ok_prod_ext T NimF.e2 (by decide) (by decide) (ok_prod_ext T NimF.e1 (by decide) (by decide) (ok_prod_ext T NimF.e0 (by decide) (by decide) (ok_prod_0 T))))
/-! ### nim_times, nim_inverse -/
noncomputable abbrev nim (a b : Int) : Int := pr NimF.e4 a b
def In16 (a : Int) : Prop := 0 ≤ a ∧ a ≤ 65535
def spTimes : Sp := fun vs H Q _ => ∃ a b : Int, vs = [.int a, .int b] ∧ (In16 a ∧ In16 b) ∧ Q (.int (nim a b)) H
theorem ok_nim_times {k : Nat} (T : Txt K mg) (G_need_number : FnOk P w K mg base CX0 k T.a_need_number T.d_need_number ["value", "least", "most"] spNeed) (G_product_of : FnOk P w K mg base CX0 k T.a_product_of T.d_product_of ["one", "other", "half"] (spProd NimF.e4 8)) :
    FnOk P w K mg base CX0 (k + 1) T.a_nim_times T.d_nim_times ["one", "other"] spTimes := by
  refine T.F_nim_times.ok sc_nim_times (fun vs H Q E h => ?_) (fun cdv A outer s H vs Q E hr h => ?_)
  · obtain ⟨x, y, rfl, _⟩ := h
    rfl
  obtain ⟨a, b, rfl, ⟨⟨a0, a1⟩, b0, b1⟩, q⟩ := h
  refine ⟨_, (pss_cons (ps_expr (pe_call G_need_number hr rfl T.g_need_number T.F_need_number.kp T.b_need_number .nil pass0 (pa_cons (pv 0) (pa_cons pe_int (pa_cons (pe_glob (v := .int 65535) rfl T.c_MOST_NUMBER ⟨_, rfl⟩) pa_nil)))))
  (pss_cons (ps_expr (pe_call G_need_number hr rfl T.g_need_number T.F_need_number.kp T.b_need_number .nil pass0 (pa_cons (pv 1) (pa_cons pe_int (pa_cons (pe_glob (v := .int 65535) rfl T.c_MOST_NUMBER ⟨_, rfl⟩) pa_nil)))))
  (pss_one (ps_ret (pe_call G_product_of hr rfl T.g_product_of T.F_product_of.kp T.b_product_of .nil pass0 (pa_cons (pv 0) (pa_cons (pv 1) (pa_cons pe_int pa_nil)))))))), ?_⟩
  have p16 : ((2 ^ 16 : Nat) : Int) = 65536 := by decide
  have a2 : a < 65536 := by omega
  have b2 : b < 65536 := by omega
  simp only [tRet, tAndV, tOrV, tNotV, tAnd, tOr, tNot, tB, tTest, tCB, tCons, tNil, tVar, tC, L2.start, tOp, tUn, tIf, tIfS, tSeq, tAsg, gName, tNext, tNever, tPar, tDrop, tCall, tChain, rI, rI0, rU, rEq, rNe, scal, List.map, List.length, List.replicate, List.append, List.set, List.cons_append, List.nil_append, List.append_nil,
  List.getElem?_cons_zero, List.getElem?_cons_succ, List.set_cons_zero, List.set_cons_succ, Option.some.injEq, exists_eq_left', exists_eq_left, exists_eq_right, exists_eq_right', exists_and_left, V.int.injEq, V.bl.injEq, V.str.injEq, V.ref.injEq, List.cons.injEq, and_true, true_and, and_self, Nat.reduceAdd, Nat.reduceSub, Nat.sub_self, decide_eq_true_eq, Bool.not_eq_true', decide_eq_false_iff_not, ↓reduceIte, Bool.false_eq_true, TG.ex2_eq, TG.ex3_eq, TG.ex4_eq, spNeed, spProd, p16, a0, a1, b0, b1, a2, b2]
  exact q
/-- fifteen squares -/
noncomputable def invI (a : Int) : Int := ((NimF.e4.enc (NimF.invGo 15 (dec NimF.e4 a.toNat)).1 : Nat) : Int)
def spInv : Sp := fun vs H Q _ => ∃ a : Int, vs = [.int a] ∧ (1 ≤ a ∧ a ≤ 65535) ∧ Q (.int (invI a)) H
theorem ok_nim_inverse {k : Nat} (T : Txt K mg) (G_need_number : FnOk P w K mg base CX0 k T.a_need_number T.d_need_number ["value", "least", "most"] spNeed) (G_product_of : FnOk P w K mg base CX0 k T.a_product_of T.d_product_of ["one", "other", "half"] (spProd NimF.e4 8)) :
    FnOk P w K mg base CX0 (k + 1) T.a_nim_inverse T.d_nim_inverse ["number"] spInv := by
  refine T.F_nim_inverse.ok sc_nim_inverse (fun vs H Q E h => ?_) (fun cdv A outer s H vs Q E hr h => ?_)
  · obtain ⟨x, rfl, _⟩ := h
    rfl
  obtain ⟨a, rfl, ⟨a0, a1⟩, q⟩ := h
  obtain ⟨x, rfl⟩ := of_lt NimF.e4 (a := a) (by omega) (by show a < 65536; omega)
  unfold invI at q
  rw [Int.toNat_natCast, dec_enc] at q
  refine ⟨_, (pss_cons (ps_expr (pe_call G_need_number hr rfl T.g_need_number T.F_need_number.kp T.b_need_number .nil pass0 (pa_cons (pv 0) (pa_cons pe_int (pa_cons (pe_glob (v := .int 65535) rfl T.c_MOST_NUMBER ⟨_, rfl⟩) pa_nil)))))
  (pss_cons (ps_par (i := 1) (j := 2) rfl sc_nim_inverse.nd rfl rfl (by decide) rfl rfl (pa_cons pe_int (pa_cons (pv 0) pa_nil)) rfl)
  (pss_cons (ps_for PassesOwn.never rfl (pi_range1 rfl T.m_range (pa_cons pe_int pa_nil)) (pg_name (i := 3) sc_nim_inverse.nd rfl (Or.inl rfl))
  (pss_cons (ps_set (i := 2) sc_nim_inverse.nd rfl (Or.inl rfl) (pe_call G_product_of hr rfl T.g_product_of T.F_product_of.kp T.b_product_of .nil pass0 (pa_cons (pv 2) (pa_cons (pv 2) (pa_cons pe_int pa_nil)))))
  (pss_one (ps_set (i := 1) sc_nim_inverse.nd rfl (Or.inl rfl) (pe_call G_product_of hr rfl T.g_product_of T.F_product_of.kp T.b_product_of .nil pass0 (pa_cons (pv 1) (pa_cons (pv 2) (pa_cons pe_int pa_nil))))))))
  (pss_one (ps_ret (pv 1)))))), ?_⟩
  have p16 : ((2 ^ 16 : Nat) : Int) = 65536 := by decide
  simp only [tRet, tAndV, tOrV, tNotV, tAnd, tOr, tNot, tB, tTest, tCB, tCons, tNil, tVar, tC, L2.start, tOp, tUn, tIf, tIfS, tSeq, tAsg, gName, tNext, tNever, tPar, tDrop, tCall, tChain, rI, rI0, rU, rEq, rNe, scal, List.map, List.length, List.replicate, List.append, List.set, List.cons_append, List.nil_append, List.append_nil,
  List.getElem?_cons_zero, List.getElem?_cons_succ, List.set_cons_zero, List.set_cons_succ, Option.some.injEq, exists_eq_left', exists_eq_left, exists_eq_right, exists_eq_right', exists_and_left, V.int.injEq, V.bl.injEq, V.str.injEq, V.ref.injEq, List.cons.injEq, and_true, true_and, and_self, Nat.reduceAdd, Nat.reduceSub, Nat.sub_self, decide_eq_true_eq, Bool.not_eq_true', decide_eq_false_iff_not, ↓reduceIte, Bool.false_eq_true, TG.ex2_eq, TG.ex3_eq, TG.ex4_eq, spNeed, a0, a1]
  refine ⟨15, rfl, by decide, by decide, for_range (lo := 0) (n := 15) (fun i σ H' => ∃ t, σ = [some (.int ((NimF.e4.enc x : Nat) : Int)), some (.int ((NimF.e4.enc (NimF.invGo i x).1 : Nat) : Int)), some (.int ((NimF.e4.enc (NimF.invGo i x).2 : Nat) : Int)), t] ∧ H' = H) ?_ ?_ ?_⟩
  · exact ⟨none, by rw [show NimF.invGo 0 x = (NimF.F4.one, x) from rfl, NimF.e4.one]; rfl, rfl⟩
  · rintro i σ H' hi ⟨t, rfl, rfl⟩
    have l1 := NimF.e4.lt (NimF.invGo i x).1
    simp only [tRet, tAndV, tOrV, tNotV, tAnd, tOr, tNot, tB, tTest, tCB, tCons, tNil, tVar, tC, L2.start, tOp, tUn, tIf, tIfS, tSeq, tAsg, gName, tNext, tNever, tPar, tDrop, tCall, tChain, rI, rI0, rU, rEq, rNe, scal, List.map, List.length, List.replicate, List.append, List.set, List.cons_append, List.nil_append, List.append_nil,
  List.getElem?_cons_zero, List.getElem?_cons_succ, List.set_cons_zero, List.set_cons_succ, Option.some.injEq, exists_eq_left', exists_eq_left, exists_eq_right, exists_eq_right', exists_and_left, V.int.injEq, V.bl.injEq, V.str.injEq, V.ref.injEq, List.cons.injEq, and_true, true_and, and_self, Nat.reduceAdd, Nat.reduceSub, Nat.sub_self, decide_eq_true_eq, Bool.not_eq_true', decide_eq_false_iff_not, ↓reduceIte, Bool.false_eq_true, TG.ex2_eq, TG.ex3_eq, TG.ex4_eq, spProd, leI, ltI NimF.e4, pr_enc]
    exact ⟨rfl, rfl⟩
  · rintro σ H' ⟨t, rfl, rfl⟩
    simp only [tRet, tAndV, tOrV, tNotV, tAnd, tOr, tNot, tB, tTest, tCB, tCons, tNil, tVar, tC, L2.start, tOp, tUn, tIf, tIfS, tSeq, tAsg, gName, tNext, tNever, tPar, tDrop, tCall, tChain, rI, rI0, rU, rEq, rNe, scal, List.map, List.length, List.replicate, List.append, List.set, List.cons_append, List.nil_append, List.append_nil,
  List.getElem?_cons_zero, List.getElem?_cons_succ, List.set_cons_zero, List.set_cons_succ, Option.some.injEq, exists_eq_left', exists_eq_left, exists_eq_right, exists_eq_right', exists_and_left, V.int.injEq, V.bl.injEq, V.str.injEq, V.ref.injEq, List.cons.injEq, and_true, true_and, and_self, Nat.reduceAdd, Nat.reduceSub, Nat.sub_self, decide_eq_true_eq, Bool.not_eq_true', decide_eq_false_iff_not, ↓reduceIte, Bool.false_eq_true, TG.ex2_eq, TG.ex3_eq, TG.ex4_eq]
    exact q
end
end K57


set_option Elab.async false
set_option linter.all false
set_option maxRecDepth 100000
set_option maxHeartbeats 4000000
namespace K57
open PySem L2 TG
section
variable {P : Program} {w : World} {K : PySem.W.Frag} {mg : Str → Option Value} {base : Heap}
theorem ok_taken {k : Nat} (T : Txt K mg) : FnOk P w K mg base CX0 (k + 1) T.a_law_taken T.d_law_taken ["_law_row", "_law_many"] (spTaken K) := by
  refine T.F_law_taken.ok sc_law_taken (fun vs H Q E h => ?_) (fun cdv A outer s H vs Q E hr h => ?_)
  · obtain ⟨r, m, rfl, _⟩ := h
    rfl
  obtain ⟨r, m, rfl, ⟨a, ns, i, z, t, h1, h2, h3, h4⟩, ⟨m0, m1⟩, q⟩ := h
  refine ⟨_, (pss_cons (ps_if (pt_cmpR op_gt (pe_ix (ix_listK (K := K) rfl) (pv 0) pe_int (fun _ _ => rfl)) pe_int (nomark _))
  (pss_cons (ps_set (i := 2) sc_law_taken.nd rfl (Or.inl rfl) (pe_op op_mod (pe_callTy call_int1 rfl T.m_int (by decide +kernel) (pa_cons (pe_ix (ix_listK (K := K) rfl) (pv 0) pe_int (fun _ _ => rfl)) pa_nil)) (pv 1)))
  (pss_cons (ps_asg (pe_op op_fdiv (pe_ix (ix_listK (K := K) rfl) (pv 0) pe_int (fun _ _ => rfl)) (pv 1)) (pg_sub (pv 0) pe_int set_list))
  (pss_one (ps_ret (pv 2)))))
  pss_nil)
  (pss_cons (ps_asg (pe_op op_add (pe_ix (ix_listK (K := K) rfl) (pv 0) pe_int (fun _ _ => rfl)) pe_int) (pg_sub (pv 0) pe_int set_list))
  (pss_cons (ps_if (pt_cmpR op_gt (pe_ix (ix_listK (K := K) rfl) (pv 0) pe_int (fun _ _ => rfl)) (pe_callB (call_lenK (K := K) rfl) rfl T.m_len PySem.boot_len (pa_cons (pe_ix (ix_listK (K := K) rfl) (pv 0) pe_int (fun _ _ => rfl)) pa_nil)) (nomark _))
  (pss_cons (ps_asg (pe_op op_mod (pe_callTy call_int1 rfl T.m_int (by decide +kernel) (pa_cons (pe_op op_add (pe_op op_mul (pe_ix (ix_listK (K := K) rfl) (pv 0) pe_int (fun _ _ => rfl)) pe_int) pe_int) pa_nil)) pe_int) (pg_sub (pv 0) pe_int set_list))
  (pss_one (ps_ret (pe_op op_mod (pe_callTy call_int1 rfl T.m_int (by decide +kernel) (pa_cons (pe_op op_fdiv (pe_ix (ix_listK (K := K) rfl) (pv 0) pe_int (fun _ _ => rfl)) pe_int) pa_nil)) (pv 1)))))
  pss_nil)
  (pss_cons (ps_set (i := 3) sc_law_taken.nd rfl (Or.inl rfl) (pe_ix (ix_listK (K := K) rfl) (pe_ix (ix_listK (K := K) rfl) (pv 0) pe_int (fun _ _ => rfl)) (pe_op op_sub (pe_ix (ix_listK (K := K) rfl) (pv 0) pe_int (fun _ _ => rfl)) pe_int) (fun _ _ => rfl)))
  (pss_cons (ps_asg (pe_op op_mod (pe_callTy call_int1 rfl T.m_int (by decide +kernel) (pa_cons (pe_op op_add (pe_op op_add (pe_op op_mul (pe_ix (ix_listK (K := K) rfl) (pv 0) pe_int (fun _ _ => rfl)) pe_int) (pv 3)) pe_int) pa_nil)) pe_int) (pg_sub (pv 0) pe_int set_list))
  (pss_cons (ps_if (pt_cmpR op_ge (pv 3) (pe_op op_pow pe_int pe_int) (nomark _))
  (pss_one (ps_asg (pe_op op_fdiv (pv 3) (pv 1)) (pg_sub (pv 0) pe_int set_list)))
  pss_nil)
  (pss_one (ps_ret (pe_op op_mod (pe_callTy call_int1 rfl T.m_int (by decide +kernel) (pa_cons (pv 3) pa_nil)) (pv 1)))))))))), ?_⟩
  have md : ∀ x : Int, CDiv x m := fun x => ⟨m0, m1⟩
  have fin : ∀ (x i' z' t' : Int), 0 ≤ i' → Q (.int (x % m)) (upd H r (.lst [.ref a, .int i', .int z', .int t'])) := fun x i' z' t' hi =>
    q _ _ (Int.emod_nonneg _ (by omega)) (Int.emod_lt_of_pos _ m0) ⟨a, ns, i', z', t', upd_same, by rw [hide_upd]; exact h2, h3, hi⟩ fun b hb => upd_ne hb
  have sc : ∀ o, SqL K (upd H r o) a (ns.map V.int) := fun o => hide_same.seq (by rw [hide_upd]; exact h2)
  -- if _law_row[3] > 0
  refine ⟨_, rfl, ⟨_, _, _, _, rfl, rfl, SqL.of h1, at3, ?_⟩⟩
  refine ⟨_, _, rfl, rfl, _, rfl, ite2 (fun c => ?_) (fun c => ?_)⟩
  · refine ⟨_, rfl, ⟨_, _, _, _, rfl, rfl, SqL.of h1, at3, (.inl ⟨_, rfl, _, rfl, _, _, rfl, rfl, m0, ?_⟩)⟩⟩
    refine ⟨_, rfl, ⟨_, _, _, _, rfl, rfl, SqL.of h1, at3, ⟨_, rfl, _, _, rfl, rfl, md _, ?_⟩⟩⟩
    refine ⟨_, rfl, r, _, 3, 3, rfl, rfl, h1, rfl, _, rfl, ?_⟩
    exact fin _ _ _ _ h4
  · -- _law_row[1] = _law_row[1] + 1
    refine ⟨_, rfl, ⟨_, _, _, _, rfl, rfl, SqL.of h1, at1, ⟨_, _, rfl, rfl, _, rfl, r, _, 1, 1, rfl, rfl, h1, rfl, ?_⟩⟩⟩
    -- if _law_row[1] > len(_law_row[0])
    refine ⟨_, rfl, ⟨_, _, _, _, rfl, rfl, SqL.of upd_same, at1, ⟨_, rfl, ⟨_, _, _, _, rfl, rfl, SqL.of upd_same, at0, ⟨a, _, rfl, .inl (sc _), _, _, rfl, rfl, _, rfl, ite2 (fun c2 => ?_) (fun c2 => ?_)⟩⟩⟩⟩⟩
    · refine ⟨_, rfl, ⟨_, _, _, _, rfl, rfl, SqL.of upd_same, at2, ⟨_, _, rfl, rfl, mul_small, _, _, rfl, rfl, .inl ⟨_, rfl, _, _, rfl, rfl, (by show (0 : Int) < 2147483647; decide), ?_⟩⟩⟩⟩
      refine ⟨_, rfl, r, _, 2, 2, rfl, rfl, upd_same, rfl, ?_⟩
      refine ⟨_, rfl, ⟨_, _, _, _, rfl, rfl, SqL.of upd_same, at2, ⟨_, _, rfl, rfl, ⟨by decide, by decide⟩, .inl ⟨_, rfl, _, rfl, _, _, rfl, rfl, m0, ?_⟩⟩⟩⟩
      rw [upd_upd]
      exact fin _ _ _ _ (by omega)
    · have c3 : ¬ ((((ns.map V.int).length : Nat) : Int) < i + 1) := of_decide_eq_false (Bool.eq_false_iff.mpr c2)
      rw [List.length_map] at c3
      have hi : i.toNat < ns.length := by omega
      have hv : atI (ns.map V.int) (i + 1 - 1) = some (.int (ns[i.toNat])) := by
        have e : i + 1 - 1 = ((i.toNat : Nat) : Int) := by omega
        rw [e]
        exact atI_nat (by rw [List.getElem?_map, List.getElem?_eq_getElem hi]; rfl)
      -- _law_cell = _law_row[0][_law_row[1] - 1]
      refine ⟨_, rfl, ⟨_, _, _, _, rfl, rfl, SqL.of upd_same, at0, ⟨_, rfl, ⟨_, _, _, _, rfl, rfl, SqL.of upd_same, at1, ⟨_, _, rfl, rfl, a, _, _, _, rfl, rfl, sc _, hv, ?_⟩⟩⟩⟩⟩
      refine ⟨_, rfl, ⟨_, _, _, _, rfl, rfl, SqL.of upd_same, at2, ⟨_, _, rfl, rfl, mul_small, _, rfl, _, _, rfl, rfl, _, _, rfl, rfl, .inl ⟨_, rfl, _, _, rfl, rfl, (by show (0 : Int) < 2147483647; decide), ?_⟩⟩⟩⟩
      refine ⟨_, rfl, r, _, 2, 2, rfl, rfl, upd_same, rfl, ?_⟩
      rw [upd_upd]
      refine ⟨_, rfl, _, _, rfl, rfl, ⟨by decide, by decide, by decide⟩, _, _, rfl, rfl, _, rfl, ite2 (fun c4 => ?_) (fun c4 => ?_)⟩
      · refine ⟨_, rfl, _, rfl, _, _, rfl, rfl, md _, _, rfl, r, _, 3, 3, rfl, rfl, upd_same, rfl, ?_⟩
        rw [upd_upd]
        refine ⟨_, rfl, .inl ⟨_, rfl, _, rfl, _, _, rfl, rfl, m0, ?_⟩⟩
        exact fin _ _ _ _ (by omega)
      · refine ⟨_, rfl, .inl ⟨_, rfl, _, rfl, _, _, rfl, rfl, m0, ?_⟩⟩
        exact fin _ _ _ _ (by omega)
theorem ok_pick {k : Nat} (T : Txt K mg) (G_law_taken : FnOk P w K mg base CX0 k T.a_law_taken T.d_law_taken ["_law_row", "_law_many"] (spTaken K)) : FnOk P w K mg base CX0 (k + 1) T.a_law_pick T.d_law_pick ["_law_row", "_law_things"] (spPick K) := by
  refine T.F_law_pick.ok sc_law_pick (fun vs H Q E h => ?_) (fun cdv A outer s H vs Q E hr h => ?_)
  · obtain ⟨r, p, xs, rfl, _⟩ := h
    rfl
  obtain ⟨r, p, xs, rfl, hR, hp, hne, ⟨x0, x1⟩, q⟩ := h
  refine ⟨_, (pss_one (ps_ret (pe_ix (ix_listK (K := K) rfl) (pv 1) (pe_call G_law_taken hr rfl T.g_law_taken T.F_law_taken.kp T.b_law_taken .nil pass0 (pa_cons (pv 0) (pa_cons (pe_callB (call_lenK (K := K) rfl) rfl T.m_len PySem.boot_len (pa_cons (pv 1) pa_nil)) pa_nil))) (fun _ _ => rfl)))), ?_⟩
  refine ⟨_, rfl, _, rfl, _, rfl, p, _, rfl, .inl (SqL.of hp), r, _, rfl, hR, ⟨by omega, by omega⟩, fun d H' d0 d1 hR' ho => ?_⟩
  have hd : d.toNat < xs.length := by omega
  have ed : d = ((d.toNat : Nat) : Int) := by omega
  refine ⟨p, xs, _, xs[d.toNat], rfl, rfl, SqL.of (by rw [ho p hne]; exact hp), ?_, q _ H' (List.getElem_mem hd) hR' ho⟩
  have e1 : atI xs ((d.toNat : Nat) : Int) = some xs[d.toNat] := atI_nat (List.getElem?_eq_getElem hd)
  rw [← ed] at e1
  exact e1
/-! ### xor by bits -/
theorem mod_pow_succ (x i : Nat) : x % 2 ^ (i + 1) = x % 2 ^ i + 2 ^ i * (x.testBit i).toNat := by
  rw [Nat.mod_pow_succ, Nat.testBit_eq_decide_div_mod_eq]
  have h : x / 2 ^ i % 2 = 0 ∨ x / 2 ^ i % 2 = 1 := by omega
  rcases h with h | h <;> rw [h] <;> rfl
theorem xor_step (a b i : Nat) : (a ^^^ b) % 2 ^ (i + 1) = (if (a / 2 ^ i + b / 2 ^ i) % 2 = 1 then (a ^^^ b) % 2 ^ i + 2 ^ i else (a ^^^ b) % 2 ^ i) := by
  rw [mod_pow_succ, Nat.testBit_xor, Nat.testBit_eq_decide_div_mod_eq, Nat.testBit_eq_decide_div_mod_eq]
  have h1 : a / 2 ^ i % 2 = 0 ∨ a / 2 ^ i % 2 = 1 := by omega
  have h2 : b / 2 ^ i % 2 = 0 ∨ b / 2 ^ i % 2 = 1 := by omega
  have h3 : (a / 2 ^ i + b / 2 ^ i) % 2 = (a / 2 ^ i % 2 + b / 2 ^ i % 2) % 2 := Nat.add_mod _ _ _
  rw [h3]
  rcases h1 with h1 | h1 <;> rcases h2 with h2 | h2 <;> rw [h1, h2] <;> simp
def spXor (n : Nat) : Sp := fun vs H Q _ => ∃ a b : Nat, vs = [.int (a : Int), .int (b : Int)] ∧ (a < 2 ^ n ∧ b < 2 ^ n) ∧ ∀ H', Same H H' → Q (.int ((a ^^^ b : Nat) : Int)) H'
theorem xor_turn (a b i : Nat) (hi : i < 16) : (((a : Int) / ((2 ^ i : Nat) : Int) + (b : Int) / ((2 ^ i : Nat) : Int)) % 2 = 1) = ((a / 2 ^ i + b / 2 ^ i) % 2 = 1) := by
  rw [← Int.natCast_ediv, ← Int.natCast_ediv]
  refine propext ⟨fun h => by omega, fun h => by omega⟩
theorem pow_small {i : Nat} (hi : i < 16) : 2 ^ i ≤ 32768 := Nat.le_trans (Nat.pow_le_pow_right (by decide) (show i ≤ 15 by omega)) (by decide)
theorem ok_xor {k : Nat} (T : Txt K mg) : FnOk P w K mg base CX0 (k + 1) T.a_law_xor T.d_law_xor ["_law_one", "_law_other"] (spXor 10) := by
  refine T.F_law_xor.ok sc_law_xor (fun vs H Q E h => ?_) (fun cdv A outer s H vs Q E hr h => ?_)
  · obtain ⟨a, b, rfl, _⟩ := h
    rfl
  obtain ⟨a, b, rfl, ⟨ha, hb⟩, q⟩ := h
  refine ⟨_, (pss_cons (ps_imp parC (ps_asg (pe_tup (pa_cons pe_int (pa_cons pe_int pa_nil))) (pg_tupK (K := K) rfl rfl (pgs_cons (pg_name (i := 2) sc_law_xor.nd rfl (Or.inl rfl)) (pgs_cons (pg_name (i := 3) sc_law_xor.nd rfl (Or.inl rfl)) pgs_nil)))))
  (pss_cons (ps_for PassesOwn.never rfl (pi_range1 rfl T.m_range (pa_cons pe_int pa_nil)) (pg_name (i := 4) sc_law_xor.nd rfl (Or.inl rfl))
  (pss_cons (ps_if (pt_cmpR op_eq (pe_op op_mod (pe_callTy call_int1 rfl T.m_int (by decide +kernel) (pa_cons (pe_op op_add (pe_op op_fdiv (pv 0) (pv 3)) (pe_op op_fdiv (pv 1) (pv 3))) pa_nil)) pe_int) pe_int (nomark _))
  (pss_one (ps_set (i := 2) sc_law_xor.nd rfl (Or.inl rfl) (pe_op op_add (pv 2) (pv 3))))
  pss_nil)
  (pss_one (ps_set (i := 3) sc_law_xor.nd rfl (Or.inl rfl) (pe_op op_mul (pv 3) pe_int)))))
  (pss_one (ps_ret (pv 2))))), ?_⟩
  simp only [tRet, tAndV, tOrV, tNotV, tAnd, tOr, tNot, tB, tTest, tCB, tCons, tNil, tVar, tC, L2.start, tOp, tUn, tIf, tIfS, tSeq, tAsg, gName, tNext, tNever, tPar, tDrop, tCall, tChain, rI, rI0, rU, rEq, rNe, scal, List.map, List.length, List.replicate, List.append, List.set, List.cons_append, List.nil_append, List.append_nil,
  List.getElem?_cons_zero, List.getElem?_cons_succ, List.set_cons_zero, List.set_cons_succ, Option.some.injEq, exists_eq_left', exists_eq_left, exists_eq_right, exists_eq_right', exists_and_left, V.int.injEq, V.bl.injEq, V.str.injEq, V.ref.injEq, List.cons.injEq, and_true, true_and, and_self, Nat.reduceAdd, Nat.reduceSub, Nat.sub_self, decide_eq_true_eq, Bool.not_eq_true', decide_eq_false_iff_not, ↓reduceIte, Bool.false_eq_true, TG.ex2_eq, TG.ex3_eq, TG.ex4_eq, tParC]
  intro H1 s1
  refine ⟨10, rfl, by decide, by decide, for_range (lo := 0) (n := 10) (fun i σ H' => ∃ t, σ = [some (.int (a : Int)), some (.int (b : Int)), some (.int (((a ^^^ b) % 2 ^ i : Nat) : Int)), some (.int ((2 ^ i : Nat) : Int)), t] ∧ H' = H1) ?_ ?_ ?_⟩
  · exact ⟨none, by rw [show (a ^^^ b) % 2 ^ 0 = 0 from Nat.mod_one _]; rfl, rfl⟩
  · rintro i σ H' hi ⟨t, rfl, rfl⟩
    have p1 := pow_small (i := i) (by omega)
    have p2 : 0 < 2 ^ i := Nat.two_pow_pos i
    have cd : ∀ x : Int, CDiv x ((2 ^ i : Nat) : Int) := fun x => ⟨by omega, by omega⟩
    have e1 := xor_step a b i
    have cm : CMul ((2 ^ i : Nat) : Int) 2 := .inr ⟨by decide, by decide⟩
    have e2 : ((2 ^ i : Nat) : Int) * 2 = ((2 ^ (i + 1) : Nat) : Int) := by rw [Nat.pow_succ]; exact (Int.natCast_mul _ _).symm
    by_cases h : (a / 2 ^ i + b / 2 ^ i) % 2 = 1
    · rw [if_pos h] at e1
      have h' : (((a : Int) / ((2 ^ i : Nat) : Int) + (b : Int) / ((2 ^ i : Nat) : Int)) % 2 = 1) := by rw [xor_turn a b i (by omega)]; exact h
      simp only [tRet, tAndV, tOrV, tNotV, tAnd, tOr, tNot, tB, tTest, tCB, tCons, tNil, tVar, tC, L2.start, tOp, tUn, tIf, tIfS, tSeq, tAsg, gName, tNext, tNever, tPar, tDrop, tCall, tChain, rI, rI0, rU, rEq, rNe, scal, List.map, List.length, List.replicate, List.append, List.set, List.cons_append, List.nil_append, List.append_nil,
  List.getElem?_cons_zero, List.getElem?_cons_succ, List.set_cons_zero, List.set_cons_succ, Option.some.injEq, exists_eq_left', exists_eq_left, exists_eq_right, exists_eq_right', exists_and_left, V.int.injEq, V.bl.injEq, V.str.injEq, V.ref.injEq, List.cons.injEq, and_true, true_and, and_self, Nat.reduceAdd, Nat.reduceSub, Nat.sub_self, decide_eq_true_eq, Bool.not_eq_true', decide_eq_false_iff_not, ↓reduceIte, Bool.false_eq_true, TG.ex2_eq, TG.ex3_eq, TG.ex4_eq, cd, cm, h', e2, e1, Int.natCast_add, show (0 : Int) < 2 by decide, false_and, or_false, exists_const, reduceCtorEq]
    · rw [if_neg h] at e1
      have h' : ¬ (((a : Int) / ((2 ^ i : Nat) : Int) + (b : Int) / ((2 ^ i : Nat) : Int)) % 2 = 1) := by rw [xor_turn a b i (by omega)]; exact h
      simp only [tRet, tAndV, tOrV, tNotV, tAnd, tOr, tNot, tB, tTest, tCB, tCons, tNil, tVar, tC, L2.start, tOp, tUn, tIf, tIfS, tSeq, tAsg, gName, tNext, tNever, tPar, tDrop, tCall, tChain, rI, rI0, rU, rEq, rNe, scal, List.map, List.length, List.replicate, List.append, List.set, List.cons_append, List.nil_append, List.append_nil,
  List.getElem?_cons_zero, List.getElem?_cons_succ, List.set_cons_zero, List.set_cons_succ, Option.some.injEq, exists_eq_left', exists_eq_left, exists_eq_right, exists_eq_right', exists_and_left, V.int.injEq, V.bl.injEq, V.str.injEq, V.ref.injEq, List.cons.injEq, and_true, true_and, and_self, Nat.reduceAdd, Nat.reduceSub, Nat.sub_self, decide_eq_true_eq, Bool.not_eq_true', decide_eq_false_iff_not, ↓reduceIte, Bool.false_eq_true, TG.ex2_eq, TG.ex3_eq, TG.ex4_eq, cd, cm, h', e2, e1, show (0 : Int) < 2 by decide, false_and, or_false, exists_const, reduceCtorEq]
  · rintro σ H' ⟨t, rfl, rfl⟩
    rw [Nat.mod_eq_of_lt (Nat.xor_lt_two_pow ha hb)]
    simp only [tRet, tAndV, tOrV, tNotV, tAnd, tOr, tNot, tB, tTest, tCB, tCons, tNil, tVar, tC, L2.start, tOp, tUn, tIf, tIfS, tSeq, tAsg, gName, tNext, tNever, tPar, tDrop, tCall, tChain, rI, rI0, rU, rEq, rNe, scal, List.map, List.length, List.replicate, List.append, List.set, List.cons_append, List.nil_append, List.append_nil,
  List.getElem?_cons_zero, List.getElem?_cons_succ, List.set_cons_zero, List.set_cons_succ, Option.some.injEq, exists_eq_left', exists_eq_left, exists_eq_right, exists_eq_right', exists_and_left, V.int.injEq, V.bl.injEq, V.str.injEq, V.ref.injEq, List.cons.injEq, and_true, true_and, and_self, Nat.reduceAdd, Nat.reduceSub, Nat.sub_self, decide_eq_true_eq, Bool.not_eq_true', decide_eq_false_iff_not, ↓reduceIte, Bool.false_eq_true, TG.ex2_eq, TG.ex3_eq, TG.ex4_eq]
    exact q _ s1
theorem ok_sum {k : Nat} (T : Txt K mg) : FnOk P w K mg base CX0 (k + 1) T.a_law_sum T.d_law_sum ["_law_one", "_law_other"] (spXor 16) := by
  refine T.F_law_sum.ok sc_law_sum (fun vs H Q E h => ?_) (fun cdv A outer s H vs Q E hr h => ?_)
  · obtain ⟨a, b, rfl, _⟩ := h
    rfl
  obtain ⟨a, b, rfl, ⟨ha, hb⟩, q⟩ := h
  refine ⟨_, (pss_cons (ps_imp parC (ps_asg (pe_tup (pa_cons pe_int (pa_cons pe_int pa_nil))) (pg_tupK (K := K) rfl rfl (pgs_cons (pg_name (i := 2) sc_law_sum.nd rfl (Or.inl rfl)) (pgs_cons (pg_name (i := 3) sc_law_sum.nd rfl (Or.inl rfl)) pgs_nil)))))
  (pss_cons (ps_for PassesOwn.never rfl (pi_range1 rfl T.m_range (pa_cons pe_int pa_nil)) (pg_name (i := 4) sc_law_sum.nd rfl (Or.inl rfl))
  (pss_cons (ps_if (pt_cmpR op_eq (pe_op op_mod (pe_callTy call_int1 rfl T.m_int (by decide +kernel) (pa_cons (pe_op op_add (pe_op op_fdiv (pv 0) (pv 3)) (pe_op op_fdiv (pv 1) (pv 3))) pa_nil)) pe_int) pe_int (nomark _))
  (pss_one (ps_set (i := 2) sc_law_sum.nd rfl (Or.inl rfl) (pe_op op_add (pv 2) (pv 3))))
  pss_nil)
  (pss_one (ps_set (i := 3) sc_law_sum.nd rfl (Or.inl rfl) (pe_op op_mul (pv 3) pe_int)))))
  (pss_one (ps_ret (pv 2))))), ?_⟩
  simp only [tRet, tAndV, tOrV, tNotV, tAnd, tOr, tNot, tB, tTest, tCB, tCons, tNil, tVar, tC, L2.start, tOp, tUn, tIf, tIfS, tSeq, tAsg, gName, tNext, tNever, tPar, tDrop, tCall, tChain, rI, rI0, rU, rEq, rNe, scal, List.map, List.length, List.replicate, List.append, List.set, List.cons_append, List.nil_append, List.append_nil,
  List.getElem?_cons_zero, List.getElem?_cons_succ, List.set_cons_zero, List.set_cons_succ, Option.some.injEq, exists_eq_left', exists_eq_left, exists_eq_right, exists_eq_right', exists_and_left, V.int.injEq, V.bl.injEq, V.str.injEq, V.ref.injEq, List.cons.injEq, and_true, true_and, and_self, Nat.reduceAdd, Nat.reduceSub, Nat.sub_self, decide_eq_true_eq, Bool.not_eq_true', decide_eq_false_iff_not, ↓reduceIte, Bool.false_eq_true, TG.ex2_eq, TG.ex3_eq, TG.ex4_eq, tParC]
  intro H1 s1
  refine ⟨16, rfl, by decide, by decide, for_range (lo := 0) (n := 16) (fun i σ H' => ∃ t, σ = [some (.int (a : Int)), some (.int (b : Int)), some (.int (((a ^^^ b) % 2 ^ i : Nat) : Int)), some (.int ((2 ^ i : Nat) : Int)), t] ∧ H' = H1) ?_ ?_ ?_⟩
  · exact ⟨none, by rw [show (a ^^^ b) % 2 ^ 0 = 0 from Nat.mod_one _]; rfl, rfl⟩
  · rintro i σ H' hi ⟨t, rfl, rfl⟩
    have p1 := pow_small (i := i) (by omega)
    have p2 : 0 < 2 ^ i := Nat.two_pow_pos i
    have cd : ∀ x : Int, CDiv x ((2 ^ i : Nat) : Int) := fun x => ⟨by omega, by omega⟩
    have e1 := xor_step a b i
    have cm : CMul ((2 ^ i : Nat) : Int) 2 := .inr ⟨by decide, by decide⟩
    have e2 : ((2 ^ i : Nat) : Int) * 2 = ((2 ^ (i + 1) : Nat) : Int) := by rw [Nat.pow_succ]; exact (Int.natCast_mul _ _).symm
    by_cases h : (a / 2 ^ i + b / 2 ^ i) % 2 = 1
    · rw [if_pos h] at e1
      have h' : (((a : Int) / ((2 ^ i : Nat) : Int) + (b : Int) / ((2 ^ i : Nat) : Int)) % 2 = 1) := by rw [xor_turn a b i (by omega)]; exact h
      simp only [tRet, tAndV, tOrV, tNotV, tAnd, tOr, tNot, tB, tTest, tCB, tCons, tNil, tVar, tC, L2.start, tOp, tUn, tIf, tIfS, tSeq, tAsg, gName, tNext, tNever, tPar, tDrop, tCall, tChain, rI, rI0, rU, rEq, rNe, scal, List.map, List.length, List.replicate, List.append, List.set, List.cons_append, List.nil_append, List.append_nil,
  List.getElem?_cons_zero, List.getElem?_cons_succ, List.set_cons_zero, List.set_cons_succ, Option.some.injEq, exists_eq_left', exists_eq_left, exists_eq_right, exists_eq_right', exists_and_left, V.int.injEq, V.bl.injEq, V.str.injEq, V.ref.injEq, List.cons.injEq, and_true, true_and, and_self, Nat.reduceAdd, Nat.reduceSub, Nat.sub_self, decide_eq_true_eq, Bool.not_eq_true', decide_eq_false_iff_not, ↓reduceIte, Bool.false_eq_true, TG.ex2_eq, TG.ex3_eq, TG.ex4_eq, cd, cm, h', e2, e1, Int.natCast_add, show (0 : Int) < 2 by decide, false_and, or_false, exists_const, reduceCtorEq]
    · rw [if_neg h] at e1
      have h' : ¬ (((a : Int) / ((2 ^ i : Nat) : Int) + (b : Int) / ((2 ^ i : Nat) : Int)) % 2 = 1) := by rw [xor_turn a b i (by omega)]; exact h
      simp only [tRet, tAndV, tOrV, tNotV, tAnd, tOr, tNot, tB, tTest, tCB, tCons, tNil, tVar, tC, L2.start, tOp, tUn, tIf, tIfS, tSeq, tAsg, gName, tNext, tNever, tPar, tDrop, tCall, tChain, rI, rI0, rU, rEq, rNe, scal, List.map, List.length, List.replicate, List.append, List.set, List.cons_append, List.nil_append, List.append_nil,
  List.getElem?_cons_zero, List.getElem?_cons_succ, List.set_cons_zero, List.set_cons_succ, Option.some.injEq, exists_eq_left', exists_eq_left, exists_eq_right, exists_eq_right', exists_and_left, V.int.injEq, V.bl.injEq, V.str.injEq, V.ref.injEq, List.cons.injEq, and_true, true_and, and_self, Nat.reduceAdd, Nat.reduceSub, Nat.sub_self, decide_eq_true_eq, Bool.not_eq_true', decide_eq_false_iff_not, ↓reduceIte, Bool.false_eq_true, TG.ex2_eq, TG.ex3_eq, TG.ex4_eq, cd, cm, h', e2, e1, show (0 : Int) < 2 by decide, false_and, or_false, exists_const, reduceCtorEq]
  · rintro σ H' ⟨t, rfl, rfl⟩
    rw [Nat.mod_eq_of_lt (Nat.xor_lt_two_pow ha hb)]
    simp only [tRet, tAndV, tOrV, tNotV, tAnd, tOr, tNot, tB, tTest, tCB, tCons, tNil, tVar, tC, L2.start, tOp, tUn, tIf, tIfS, tSeq, tAsg, gName, tNext, tNever, tPar, tDrop, tCall, tChain, rI, rI0, rU, rEq, rNe, scal, List.map, List.length, List.replicate, List.append, List.set, List.cons_append, List.nil_append, List.append_nil,
  List.getElem?_cons_zero, List.getElem?_cons_succ, List.set_cons_zero, List.set_cons_succ, Option.some.injEq, exists_eq_left', exists_eq_left, exists_eq_right, exists_eq_right', exists_and_left, V.int.injEq, V.bl.injEq, V.str.injEq, V.ref.injEq, List.cons.injEq, and_true, true_and, and_self, Nat.reduceAdd, Nat.reduceSub, Nat.sub_self, decide_eq_true_eq, Bool.not_eq_true', decide_eq_false_iff_not, ↓reduceIte, Bool.false_eq_true, TG.ex2_eq, TG.ex3_eq, TG.ex4_eq]
    exact q _ s1
end
end K57


set_option Elab.async false
set_option linter.all false
set_option maxRecDepth 100000
set_option maxHeartbeats 4000000
namespace K57
open PySem L2 TG
/-! ### the least that is missing -/
def miss (ns : List Int) : List Nat := (List.range (ns.length + 1)).filter fun k => !decide ((k : Int) ∈ ns)
theorem miss_ne (ns : List Int) : miss ns ≠ [] := by
  intro h
  have h1 : ∀ k ∈ List.range (ns.length + 1), ((k : Int)) ∈ ns := fun k hk => by
    have := List.filter_eq_nil_iff.mp h k hk
    simpa using this
  have h2 := nodup_le (l := (List.range (ns.length + 1)).map fun k : Nat => (k : Int)) (m := ns) (nodup_cast _) (fun x hx => by
    obtain ⟨k, hk, rfl⟩ := List.mem_map.mp hx
    exact h1 k hk)
  rw [List.length_map, List.length_range] at h2
  omega
def mexL (ns : List Int) : Int := (((miss ns).headD 0 : Nat) : Int)
theorem mexL_of {ns : List Int} {m : Nat} (h1 : ((m : Int)) ∉ ns) (h2 : ∀ j : Nat, j < m → ((j : Int)) ∈ ns) : mexL ns = (m : Int) := by
  have hm : m ∈ miss ns := by
    refine List.mem_filter.mpr ⟨List.mem_range.mpr ?_, by simpa using h1⟩
    have h3 := nodup_le (l := (List.range m).map fun k : Nat => (k : Int)) (m := ns) (nodup_cast _) (fun x hx => by
      obtain ⟨k, hk, rfl⟩ := List.mem_map.mp hx
      exact h2 k (List.mem_range.mp hk))
    rw [List.length_map, List.length_range] at h3
    omega
  have hs : (miss ns).Pairwise (· < ·) := List.Pairwise.filter _ List.pairwise_lt_range
  have hin : ∀ j ∈ miss ns, ¬ j < m := fun j hj hlt => by
    have := (List.mem_filter.mp hj).2
    simp [h2 j hlt] at this
  unfold mexL
  cases e : miss ns with
  | nil => exact absurd e (miss_ne ns)
  | cons x r =>
    rw [e] at hm hs hin
    have h3 := hin x List.mem_cons_self
    have : x = m := by
      rcases List.mem_cons.mp hm with h | h
      · exact h.symm
      · have := (List.pairwise_cons.mp hs).1 m h
        omega
    simp [this]
section
variable {P : Program} {w : World} {K : PySem.W.Frag} {mg : Str → Option Value} {base : Heap}
def spMissing (K : PySem.W.Frag) : Sp := fun vs H Q _ => ∃ (p : Addr) (ns : List Int), vs = [.ref p] ∧ SqL K H p (ns.map V.int) ∧ ns.length ≤ 1000 ∧ ∀ H', Same H H' → Q (.int (mexL ns)) H'
theorem ok_missing {k : Nat} (T : Txt K mg) : FnOk P w K mg base CX0 (k + 1) T.a_law_missing T.d_law_missing ["_law_numbers"] (spMissing K) := by
  refine T.F_law_missing.ok sc_law_missing (fun vs H Q E h => ?_) (fun cdv A outer s H vs Q E hr h => ?_)
  · obtain ⟨p, ns, rfl, _⟩ := h
    rfl
  obtain ⟨p, ns, rfl, hS, hl, q⟩ := h
  refine ⟨_, (pss_one (ps_ret (pe_ix (ix_listK (K := K) rfl) (pe_lc (own := [("_law_at", 1)]) rfl sc_law_missing.nd (pi_range1 rfl T.m_range (pa_cons (pe_op op_add (pe_callB (call_lenK (K := K) rfl) rfl T.m_len PySem.boot_len (pa_cons (pv 0) pa_nil)) pe_int) pa_nil)) (blkOk_by (N := ["_law_numbers", "_law_at"]) (sc := defScope s_law_missing) (by decide +kernel)) (fun _ _ _ _ _ => (pg_name (i := 1) sc_law_missing.nd rfl (Or.inl rfl))) (fun _ _ _ _ _ => (pts_one (pt_cmpR (op_notIn_seqK (K := K) rfl) (pv 1) (pv 0) (by rfl)))) (fun _ _ _ _ _ => (pv 1))) pe_int (fun _ _ => rfl)))), ?_⟩
  have hn : ((((ns.map V.int).length : Nat) : Int) + 1).toNat = ns.length + 1 := by rw [List.length_map]; omega
  refine go_ret (go_op ?_)
  refine Evl.el_lcR1 (n := (((ns.map V.int).length : Nat) : Int) + 1) (fun k => !decide ((k : Int) ∈ ns)) (fun k => V.int k) ?_ ?_ ?_ ?_ ?_ H (Evl.Ex.refl H) _ ?_
  · intro H1 e1 Q1 q1
    exact ⟨_, rfl, p, _, rfl, .inl (Evl.ex_l e1 hS), _, _, rfl, rfl, q1 H1 (Evl.Ex.refl H1)⟩
  · rw [List.length_map]
    omega
  · intro x
    rfl
  · intro i H1 e1 hi H2 e2 Q2 q2
    refine ⟨_, rfl, _, rfl, p, _, rfl, .inl (Evl.ex_l (e1.trans e2) hS), rfl, ints_flat ns, _, rfl, ?_⟩
    rw [int_in]
    exact q2 H2 (Evl.Ex.refl H2)
  · intro i H1 e1 hi hf H2 e2 Q2 q2
    exact ⟨_, rfl, q2 H2 (Evl.Ex.refl H2)⟩
  · intro D H2 hD e2 h2
    rw [hn] at h2
    refine ⟨D, _, 0, .int (mexL ns), rfl, rfl, SqL.of h2, ?_, q H2 e2⟩
    have e3 : Evl.given (ns.length + 1) (fun k => !decide ((k : Int) ∈ ns)) (fun k => V.int k) = (miss ns).map fun k => V.int (k : Nat) := rfl
    rw [e3]
    refine atI_nat (j := 0) ?_
    unfold mexL
    cases e : miss ns with
    | nil => exact absurd e (miss_ne ns)
    | cons x r => simp [e]
/-! ### alike, of ints -/
def spAlike : Sp := fun vs H Q _ => ∃ a b : Int, vs = [.int a, .int b] ∧ ∀ H', Same H H' → Q (.bl (decide (a = b))) H'
theorem ok_alike {k : Nat} (T : Txt K mg) : FnOk P w K mg base CX0 (k + 1) T.a_law_alike T.d_law_alike ["_law_found", "_law_due"] spAlike := by
  refine T.F_law_alike.ok sc_law_alike (fun vs H Q E h => ?_) (fun cdv A outer s H vs Q E hr h => ?_)
  · obtain ⟨a, b, rfl, _⟩ := h
    rfl
  obtain ⟨a, b, rfl, q⟩ := h
  refine ⟨_, (pss_cons (ps_if (pt_val (pe_callB (call_isiTK (K := K) rfl) rfl T.m_isinstance (by decide +kernel) (pa_cons (pv 1) (pa_cons (pe_tup (pa_cons (pe_bltn (v := .ty "tuple") (u := .type "tuple") rfl T.m_tuple (by decide +kernel) rfl) (pa_cons (pe_bltn (v := .ty "list") (u := .type "list") rfl T.m_list (by decide +kernel) rfl) pa_nil))) pa_nil))))
  (pss_cons (ps_if (PW.pt (pw_or (pt_not (pt_val (pe_callB (call_isiTK (K := K) rfl) rfl T.m_isinstance (by decide +kernel) (pa_cons (pv 0) (pa_cons (pe_tup (pa_cons (pe_bltn (v := .ty "tuple") (u := .type "tuple") rfl T.m_tuple (by decide +kernel) rfl) (pa_cons (pe_bltn (v := .ty "list") (u := .type "list") rfl T.m_list (by decide +kernel) rfl) pa_nil))) pa_nil))))) (pw_or1 (pt_cmpR op_ne (pe_callB call_isiS rfl T.m_isinstance (by decide +kernel) (pa_cons (pv 0) (pa_cons (pe_bltn (v := .ty "list") (u := .type "list") rfl T.m_list (by decide +kernel) rfl) pa_nil))) (pe_callB call_isiS rfl T.m_isinstance (by decide +kernel) (pa_cons (pv 1) (pa_cons (pe_bltn (v := .ty "list") (u := .type "list") rfl T.m_list (by decide +kernel) rfl) pa_nil))) (nomark _)))))
  (pss_one (ps_ret pe_bl))
  pss_nil)
  (pss_cons (ps_if (pt_cmpR op_ne (pe_callB (call_lenK (K := K) rfl) rfl T.m_len PySem.boot_len (pa_cons (pv 0) pa_nil)) (pe_callB (call_lenK (K := K) rfl) rfl T.m_len PySem.boot_len (pa_cons (pv 1) pa_nil)) (nomark _))
  (pss_one (ps_ret pe_bl))
  pss_nil)
  (pss_one ps_never)))
  pss_nil)
  (pss_cons (ps_if (PW.pt (pw_or (pt_cmpR op_isN (pv 1) pe_non (nomark _)) (pw_or1 (pt_val (pe_callB call_isiS rfl T.m_isinstance (by decide +kernel) (pa_cons (pv 1) (pa_cons (pe_bltn (v := .ty "str") (u := .type "str") rfl T.m_str (by decide +kernel) rfl) pa_nil)))))))
  (pss_one (ps_ret (pe_and (pe_cmpR op_eq (pv 0) (pv 1) (nomark _)) (pe_one (pe_cmpR op_eq (pe_callB call_isiS rfl T.m_isinstance (by decide +kernel) (pa_cons (pv 0) (pa_cons (pe_bltn (v := .ty "str") (u := .type "str") rfl T.m_str (by decide +kernel) rfl) pa_nil))) (pe_callB call_isiS rfl T.m_isinstance (by decide +kernel) (pa_cons (pv 1) (pa_cons (pe_bltn (v := .ty "str") (u := .type "str") rfl T.m_str (by decide +kernel) rfl) pa_nil))) (nomark _))))))
  pss_nil)
  (pss_one (ps_ret (pe_and (pe_callB call_isiS rfl T.m_isinstance (by decide +kernel) (pa_cons (pv 0) (pa_cons (pe_bltn (v := .ty "int") (u := .type "int") rfl T.m_int (by decide +kernel) rfl) pa_nil))) (pe_and (pe_cmpR op_eq (pe_callB call_isiS rfl T.m_isinstance (by decide +kernel) (pa_cons (pv 0) (pa_cons (pe_bltn (v := .ty "bool") (u := .type "bool") rfl T.m_bool (by decide +kernel) rfl) pa_nil))) (pe_callB call_isiS rfl T.m_isinstance (by decide +kernel) (pa_cons (pv 1) (pa_cons (pe_bltn (v := .ty "bool") (u := .type "bool") rfl T.m_bool (by decide +kernel) rfl) pa_nil))) (nomark _)) (pe_one (pe_cmpR op_eq (pv 0) (pv 1) (nomark _))))))))), ?_⟩
  refine ⟨_, rfl, by decide, fun t ht => ?_⟩
  refine ⟨_, t, [.ty "tuple", .ty "list"], .type "int", [.type "tuple", .type "list"], false, rfl, upd_same, .cons (.ty _) (.cons (.ty _) .nil), .base (.int _), kitAny_cons (kit_ty kit_int_tuple) (fun _ => kitAny_cons (kit_ty kit_int_list) (fun _ => kitAny_nil) (fun z => by cases z)) (fun z => by cases z), _, rfl, iteF ?_⟩
  refine ⟨_, rfl, rfl, _, rfl, iteF ?_⟩
  refine ⟨_, rfl, _, _, _, _, rfl, rfl, kit_int_str, _, rfl, iteF ?_⟩
  refine ⟨_, rfl, _, _, _, _, rfl, rfl, kit_int_int, _, rfl, iteT ?_⟩
  refine ⟨_, rfl, _, _, _, _, rfl, rfl, kit_int_bool, _, rfl, _, _, _, _, rfl, rfl, kit_int_bool, rfl, _, rfl, iteT ?_⟩
  refine ⟨_, rfl, _, rfl, rfl, ?_⟩
  have e : decide (V.int a = V.int b) = decide (a = b) := by
    by_cases h : a = b
    · subst h
      simp
    · simp [h]
  show Q (V.bl (decide (V.int a = V.int b))) _
  rw [e]
  exact q _ (same_new ht _)
end
end K57


set_option Elab.async false
set_option linter.all false
set_option maxRecDepth 100000
set_option maxHeartbeats 4000000
namespace K57
open PySem L2 TG
/-! ### the products below 8 by a table -/
def bitsF : Nat → NimF.F4.R := fun m =>
  let b := fun i => m.testBit i
  ((((b 15, b 14), (b 13, b 12)), ((b 11, b 10), (b 9, b 8))), (((b 7, b 6), (b 5, b 4)), ((b 3, b 2), (b 1, b 0))))
def T8 : List (List Nat) := [[0, 0, 0, 0, 0, 0, 0, 0], [0, 1, 2, 3, 4, 5, 6, 7], [0, 2, 3, 1, 8, 10, 11, 9], [0, 3, 1, 2, 12, 15, 13, 14], [0, 4, 8, 12, 6, 2, 14, 10], [0, 5, 10, 15, 2, 7, 8, 13], [0, 6, 11, 13, 14, 8, 5, 3], [0, 7, 9, 14, 10, 13, 3, 4]]
def tab (a b : Nat) : Nat := (T8.getD a []).getD b 0
theorem enc8 : ∀ a : Fin 8, NimF.e4.enc (bitsF a.1) = a.1 := by decide +kernel
theorem tab8 : ∀ a b : Fin 8, NimF.e4.enc (NimF.F4.mul (bitsF a.1) (bitsF b.1)) = tab a.1 b.1 := by decide +kernel
theorem nim_tab {a b : Nat} (ha : a < 8) (hb : b < 8) : nim (a : Int) (b : Int) = ((tab a b : Nat) : Int) := by
  have e1 := enc8 ⟨a, ha⟩
  have e2 := enc8 ⟨b, hb⟩
  have e3 := tab8 ⟨a, ha⟩ ⟨b, hb⟩
  simp only at e1 e2 e3
  have h := pr_enc NimF.e4 (bitsF a) (bitsF b)
  rw [e1, e2, e3] at h
  exact h
theorem tab_lt : ∀ a b : Fin 8, tab a.1 b.1 < 16 := by decide +kernel
def term (a b a' b' : Nat) : Nat := (tab a' b ^^^ tab a b') ^^^ tab a' b'
theorem mex_no : ∀ a b : Fin 8, ∀ a' : Fin a.1, ∀ b' : Fin b.1, term a.1 b.1 a'.1 b'.1 ≠ tab a.1 b.1 := by decide +kernel
theorem mex_yes : ∀ a b : Fin 8, ∀ j : Fin (tab a.1 b.1), ∃ a' : Fin a.1, ∃ b' : Fin b.1, term a.1 b.1 a'.1 b'.1 = j.1 := by decide +kernel
/-! ### dicts -/
theorem put_fst {κ : Type} [DecidableEq κ] (kvs : List (κ × V)) (k : κ) (v : V) : (putK kvs k v).map (·.1) = if k ∈ kvs.map (·.1) then kvs.map (·.1) else kvs.map (·.1) ++ [k] := by
  unfold putK
  by_cases h : k ∈ kvs.map (·.1)
  · rw [if_pos h, if_pos]
    · rw [List.map_map]
      refine List.map_congr_left fun p _ => ?_
      show (if p.1 = k then (p.1, v) else p).1 = p.1
      by_cases hp : p.1 = k
      · rw [if_pos hp]
      · rw [if_neg hp]
    · obtain ⟨p, hp, e⟩ := List.mem_map.mp h
      exact List.any_eq_true.mpr ⟨p, hp, decide_eq_true e⟩
  · rw [if_neg h, if_neg]
    · rw [List.map_append]
      rfl
    · intro q
      obtain ⟨p, hp, e⟩ := List.any_eq_true.mp q
      exact h (List.mem_map.mpr ⟨p, hp, of_decide_eq_true e⟩)
theorem val_mem {κ : Type} [DecidableEq κ] {kvs : List (κ × V)} {k : κ} {v : V} (h : valV kvs k = some v) : (k, v) ∈ kvs := by
  unfold valV at h
  cases e : kvs.find? (fun kv => decide (kv.1 = k)) with
  | none => rw [e] at h; cases h
  | some p =>
    rw [e] at h
    have h1 := List.mem_of_find?_eq_some e
    have h2 : p.1 = k := by
      have := List.find?_some e
      simpa using this
    have h3 : p.2 = v := Option.some.inj h
    rw [← h2, ← h3]
    exact h1
theorem val_none {κ : Type} [DecidableEq κ] {kvs : List (κ × V)} {k : κ} (h : valV kvs k = none) : k ∉ kvs.map (·.1) := by
  intro q
  obtain ⟨p, hp, e⟩ := List.mem_map.mp q
  unfold valV at h
  rw [Option.map_eq_none_iff, List.find?_eq_none] at h
  exact h p hp (decide_eq_true e)
theorem put_new {κ : Type} [DecidableEq κ] {kvs : List (κ × V)} {k : κ} {v : V} (h : valV kvs k = none) : putK kvs k v = kvs ++ [(k, v)] := by
  unfold putK
  rw [if_neg]
  intro q
  obtain ⟨p, hp, e⟩ := List.any_eq_true.mp q
  exact val_none h (List.mem_map.mpr ⟨p, hp, of_decide_eq_true e⟩)
theorem val_put {κ : Type} [DecidableEq κ] {kvs : List (κ × V)} {k : κ} {v : V} (h : valV kvs k = none) : valV (putK kvs k v) k = some v := by
  rw [put_new h]
  unfold valV at h ⊢
  rw [Option.map_eq_none_iff] at h
  rw [List.find?_append, h]
  simp
/-! ### what is known -/
abbrev ky (a b : Nat) : List Key := [Sum.inl (a : Int), Sum.inl (b : Int)]
structure KOk (kvs : List (List Key × V)) : Prop where
  nd : (kvs.map (·.1)).Nodup
  ks : ∀ k ∈ kvs.map (·.1), ∃ a b : Nat, a < 8 ∧ b < 8 ∧ k = ky a b
  vl : ∀ (a b : Nat) (v : V), valV kvs (ky a b) = some v → v = .int ((tab a b : Nat) : Int)
def allK : List (List Key) := (List.range 8).flatMap fun a => (List.range 8).map fun b => ky a b
theorem KOk.nil : KOk [] := ⟨List.nodup_nil, fun k h => (List.not_mem_nil h).elim, fun a b v h => by cases h⟩
theorem KOk.len {kvs : List (List Key × V)} (h : KOk kvs) : kvs.length ≤ 64 := by
  have := nodup_le (m := allK) h.nd fun x hx => by
    obtain ⟨a, b, ha, hb, e⟩ := h.ks x hx
    rw [e]
    exact List.mem_flatMap.mpr ⟨a, List.mem_range.mpr ha, List.mem_map.mpr ⟨b, List.mem_range.mpr hb, rfl⟩⟩
  rw [List.length_map] at this
  exact this
theorem ky_inj {a b a' b' : Nat} (e : ky a b = ky a' b') : a = a' ∧ b = b' := by
  simp only [ky, List.cons.injEq, Sum.inl.injEq, and_true] at e
  omega
theorem KOk.put {kvs : List (List Key × V)} (h : KOk kvs) {a b : Nat} (ha : a < 8) (hb : b < 8) : KOk (putK kvs (ky a b) (.int ((tab a b : Nat) : Int))) := by
  refine ⟨?_, ?_, ?_⟩
  · rw [put_fst]
    by_cases c : ky a b ∈ kvs.map (·.1)
    · rw [if_pos c]
      exact h.nd
    · rw [if_neg c]
      refine List.nodup_append.mpr ⟨h.nd, by simp, ?_⟩
      intro x hx y hy e
      rw [List.mem_singleton] at hy
      exact c (by rw [← hy, ← e]; exact hx)
  · intro k hk
    rw [put_fst] at hk
    by_cases c : ky a b ∈ kvs.map (·.1)
    · rw [if_pos c] at hk
      exact h.ks k hk
    · rw [if_neg c] at hk
      rcases List.mem_append.mp hk with h1 | h1
      · exact h.ks k h1
      · rw [List.mem_singleton] at h1
        exact ⟨a, b, ha, hb, h1⟩
  · intro a' b' v e
    rw [valV_put] at e
    by_cases c : ky a' b' = ky a b
    · rw [if_pos c] at e
      obtain ⟨e1, e2⟩ := ky_inj c
      rw [e1, e2]
      exact (Option.some.inj e).symm
    · rw [if_neg c] at e
      exact h.vl a' b' v e
/-- the keys of the dict of one product, so far -/
structure SOk (a b i j : Nat) (ks : List (Key × V)) (ns : List Int) : Prop where
  fst : ks.map (·.1) = ns.map Sum.inl
  nd : ns.Nodup
  mem : ∀ t : Int, t ∈ ns ↔ ∃ a' b' : Nat, (a' < i ∧ b' < b ∨ a' = i ∧ b' < j) ∧ t = ((term a b a' b' : Nat) : Int)
theorem term_lt {a b a' b' : Nat} (ha : a < 8) (hb : b < 8) (ha' : a' < 8) (hb' : b' < 8) : term a b a' b' < 16 := by
  have h1 := tab_lt ⟨a', ha'⟩ ⟨b, hb⟩
  have h2 := tab_lt ⟨a, ha⟩ ⟨b', hb'⟩
  have h3 := tab_lt ⟨a', ha'⟩ ⟨b', hb'⟩
  simp only at h1 h2 h3
  exact Nat.xor_lt_two_pow (n := 4) (Nat.xor_lt_two_pow (n := 4) h1 h2) h3
theorem SOk.len {a b i j : Nat} {ks : List (Key × V)} {ns : List Int} (h : SOk a b i j ks ns) (ha : a < 8) (hb : b < 8) (hi : i ≤ a) (hj : j ≤ b) (hij : i < a ∨ j = 0) : ns.length ≤ 16 := by
  have := nodup_le (m := (List.range 16).map fun k : Nat => (k : Int)) h.nd fun x hx => by
    obtain ⟨a', b', q, rfl⟩ := (h.mem x).mp hx
    have h1 : a' < 8 := by omega
    have h2 : b' < 8 := by omega
    exact List.mem_map.mpr ⟨_, List.mem_range.mpr (term_lt ha hb h1 h2), rfl⟩
  rw [List.length_map, List.length_range] at this
  exact this
theorem SOk.start (a b : Nat) : SOk a b 0 0 [] [] := ⟨rfl, List.nodup_nil, fun t => ⟨fun h => (List.not_mem_nil h).elim, fun h => by
    obtain ⟨_, _, q, _⟩ := h
    omega⟩⟩
theorem SOk.turn {a b i : Nat} {ks : List (Key × V)} {ns : List Int} (h : SOk a b i b ks ns) : SOk a b (i + 1) 0 ks ns := by
  refine ⟨h.fst, h.nd, fun t => (h.mem t).trans ⟨fun ⟨a', b', q, e⟩ => ⟨a', b', by omega, e⟩, fun ⟨a', b', q, e⟩ => ⟨a', b', by omega, e⟩⟩⟩
theorem SOk.put {a b i j : Nat} {ks : List (Key × V)} {ns : List Int} {v : V} (h : SOk a b i j ks ns) (hj : j < b) :
    SOk a b i (j + 1) (putK ks (Sum.inl ((term a b i j : Nat) : Int)) v) (if ((term a b i j : Nat) : Int) ∈ ns then ns else ns ++ [((term a b i j : Nat) : Int)]) := by
  have hm : (Sum.inl ((term a b i j : Nat) : Int) : Key) ∈ ks.map (·.1) ↔ ((term a b i j : Nat) : Int) ∈ ns := by
    rw [h.fst]
    constructor
    · intro q
      obtain ⟨x, hx, e⟩ := List.mem_map.mp q
      rw [← Sum.inl.inj e]
      exact hx
    · intro q
      exact List.mem_map.mpr ⟨_, q, rfl⟩
  refine ⟨?_, ?_, ?_⟩
  · rw [put_fst, h.fst]
    rw [h.fst] at hm
    by_cases c : ((term a b i j : Nat) : Int) ∈ ns
    · rw [if_pos (hm.mpr c), if_pos c]
    · rw [if_neg (fun z => c (hm.mp z)), if_neg c, List.map_append]
      rfl
  · by_cases c : ((term a b i j : Nat) : Int) ∈ ns
    · rw [if_pos c]
      exact h.nd
    · rw [if_neg c]
      refine List.nodup_append.mpr ⟨h.nd, by simp, ?_⟩
      intro x hx y hy e
      rw [List.mem_singleton] at hy
      exact c (by rw [← hy, ← e]; exact hx)
  · intro t
    have key : (t ∈ (if ((term a b i j : Nat) : Int) ∈ ns then ns else ns ++ [((term a b i j : Nat) : Int)])) ↔ (t ∈ ns ∨ t = ((term a b i j : Nat) : Int)) := by
      by_cases c : ((term a b i j : Nat) : Int) ∈ ns
      · rw [if_pos c]
        constructor
        · exact .inl
        · rintro (z | z)
          · exact z
          · rw [z]
            exact c
      · rw [if_neg c, List.mem_append, List.mem_singleton]
    rw [key, h.mem]
    constructor
    · rintro (⟨a', b', q, e⟩ | e)
      · exact ⟨a', b', by omega, e⟩
      · exact ⟨i, j, by omega, e⟩
    · rintro ⟨a', b', q, e⟩
      by_cases c : a' = i ∧ b' = j
      · obtain ⟨rfl, rfl⟩ := c
        exact .inr e
      · exact .inl ⟨a', b', by omega, e⟩
theorem SOk.mex {a b : Nat} {ks : List (Key × V)} {ns ys : List Int} (h : SOk a b a 0 ks ns) (ha : a < 8) (hb : b < 8) (hp : ys.Perm ns) : mexL ys = ((tab a b : Nat) : Int) := by
  refine mexL_of (fun q => ?_) (fun j hj => ?_)
  · obtain ⟨a', b', q, e⟩ := (h.mem _).mp (hp.mem_iff.mp q)
    have h1 : a' < a := by omega
    have h2 : b' < b := by omega
    exact mex_no ⟨a, ha⟩ ⟨b, hb⟩ ⟨a', h1⟩ ⟨b', h2⟩ (by simp only; omega)
  · obtain ⟨a', b', e⟩ := mex_yes ⟨a, ha⟩ ⟨b, hb⟩ ⟨j, hj⟩
    exact hp.mem_iff.mpr ((h.mem _).mpr ⟨a'.1, b'.1, .inl ⟨a'.2, b'.2⟩, congrArg Int.ofNat e.symm⟩)
section
variable {P : Program} {w : World} {K : PySem.W.Frag} {mg : Str → Option Value} {base : Heap}
def spProduct (n : Nat) : Sp := fun vs H Q _ => ∃ (d : Addr) (a b : Nat) (kvs : List (List Key × V)), vs = [.ref d, .int (a : Int), .int (b : Int)] ∧ a < 8 ∧ b < 8 ∧ a + b < n ∧ H d = some (.dT kvs) ∧ KOk kvs ∧
  ∀ kvs' H', KOk kvs' → Off d H H' → H' d = some (.dT kvs') → Q (.int ((tab a b : Nat) : Int)) H'
theorem none_left {f : Addr} {fd : FuncData} {ps : List Str} {k : Nat} : FnOk P w K mg base CX0 k f fd ps (spProduct 0) :=
  have no : ∀ vs H Q E, ¬ spProduct 0 vs H Q E := fun vs H Q E ⟨_, _, _, _, _, _, _, h, _⟩ => by omega
  ⟨fun vs H Q E h => absurd h (no vs H Q E), fun A outer s H args us vs Q E _ _ _ _ h => absurd h (no vs H Q E)⟩
theorem ok_product1 {k n : Nat} (T : Txt K mg) (G_law_xor : FnOk P w K mg base CX0 k T.a_law_xor T.d_law_xor ["_law_one", "_law_other"] (spXor 10)) (G_law_missing : FnOk P w K mg base CX0 k T.a_law_missing T.d_law_missing ["_law_numbers"] (spMissing K))
    (G_law_product : FnOk P w K mg base CX0 k T.a_law_product T.d_law_product ["_law_known", "_law_one", "_law_other"] (spProduct n)) : FnOk P w K mg base CX0 (k + 1) T.a_law_product T.d_law_product ["_law_known", "_law_one", "_law_other"] (spProduct (n + 1)) := by
  refine T.F_law_product.ok sc_law_product (fun vs H Q E h => ?_) (fun cdv A outer s H vs Q E hr h => ?_)
  · obtain ⟨d, a, b, kvs, rfl, _⟩ := h
    rfl
  obtain ⟨d, a, b, kvs, rfl, ha, hb, hn, hd, hk, q⟩ := h
  have hu := hu_of hr
  refine ⟨_, (pss_cons (ps_if (pt_cmp (pc_dnotin hu (pe_tup (pa_cons (pv 1) (pa_cons (pv 2) pa_nil))) (pv 0)))
  (pss_cons (ps_set (i := 3) sc_law_product.nd rfl (Or.inl rfl) pe_dnewK)
  (pss_cons (ps_for PassesOwn.never rfl (pi_range1 rfl T.m_range (pa_cons (pv 1) pa_nil)) (pg_name (i := 4) sc_law_product.nd rfl (Or.inl rfl))
  (pss_one (ps_for PassesOwn.never rfl (pi_range1 rfl T.m_range (pa_cons (pv 2) pa_nil)) (pg_name (i := 5) sc_law_product.nd rfl (Or.inl rfl))
  (pss_cons (ps_set (i := 6) sc_law_product.nd rfl (Or.inl rfl) (pe_call G_law_xor hr rfl T.g_law_xor T.F_law_xor.kp T.b_law_xor .nil pass0 (pa_cons (pe_call G_law_product hr rfl T.g_law_product T.F_law_product.kp T.b_law_product .nil pass0 (pa_cons (pv 0) (pa_cons (pv 4) (pa_cons (pv 2) pa_nil)))) (pa_cons (pe_call G_law_product hr rfl T.g_law_product T.F_law_product.kp T.b_law_product .nil pass0 (pa_cons (pv 0) (pa_cons (pv 1) (pa_cons (pv 5) pa_nil)))) pa_nil))))
  (pss_one (ps_dput hu (pv 3) (pe_call G_law_xor hr rfl T.g_law_xor T.F_law_xor.kp T.b_law_xor .nil pass0 (pa_cons (pv 6) (pa_cons (pe_call G_law_product hr rfl T.g_law_product T.F_law_product.kp T.b_law_product .nil pass0 (pa_cons (pv 0) (pa_cons (pv 4) (pa_cons (pv 5) pa_nil)))) pa_nil))) pe_bl rfl))))))
  (pss_one (ps_dput hu (pv 0) (pe_tup (pa_cons (pv 1) (pa_cons (pv 2) pa_nil))) (pe_call G_law_missing hr rfl T.g_law_missing T.F_law_missing.kp T.b_law_missing .nil pass0 (pa_cons (pe_callB (call_sortedDI rfl) rfl T.m_sorted (by decide +kernel) (pa_cons (pv 3) pa_nil)) pa_nil)) rfl))))
  pss_nil)
  (pss_one (ps_ret (pe_dget hu (pv 0) (pe_tup (pa_cons (pv 1) (pa_cons (pv 2) pa_nil))) (fun _ _ => rfl))))), ?_⟩
  have fin : ∀ (x3 x4 x5 x6 : Option V) (H' : Hp) (kvs' : List (List Key × V)), KOk kvs' → Off d H H' → H' d = some (.dT kvs') → valV kvs' (ky a b) = some (.int ((tab a b : Nat) : Int)) →
      tRet (tDGet (tVar 0) (tTup (tCons (tVar 1) (tCons (tVar 2) tNil)))) { nx := fun x H' => Q V.non H', rt := Q } [some (.ref d), some (.int (a : Int)), some (.int (b : Int)), x3, x4, x5, x6] H' := by
    intro x3 x4 x5 x6 H' kvs' k' o' h' e'
    refine ⟨_, rfl, _, rfl, _, rfl, by show 2 ≤ sizeLine; decide, fun t ht => ⟨d, _, rfl, ?_, q kvs' _ k' (o'.trans (Off.of (same_new ht _))) (by rw [upd_ne (ne_of_none h' ht)]; exact h')⟩⟩
    have g := DGet.t (a := d) (b := t) (k := ky a b) (show (upd H' t (.tup [.int (a : Int), .int (b : Int)])) d = some (.dT kvs') by rw [upd_ne (ne_of_none h' ht)]; exact h') upd_same
    rw [e'] at g
    exact g
  refine ⟨_, rfl, _, rfl, by show 2 ≤ sizeLine; decide, fun t ht => ?_⟩
  have hd1 : (upd H t (.tup [.int (a : Int), .int (b : Int)])) d = some (.dT kvs) := by rw [upd_ne (ne_of_none hd ht)]; exact hd
  refine ⟨_, rfl, d, _, rfl, DGet.t (k := ky a b) hd1 upd_same, _, rfl, ?_⟩
  cases e : valV kvs (ky a b) with
  | some v =>
    refine iteF ?_
    rw [hk.vl a b v e] at e
    exact fin _ _ _ _ _ kvs hk (Off.of (same_new ht _)) hd1 e
  | none =>
    refine iteT ?_
    have hdk := ne_of_none hd ht
    -- _law_some = {}
    intro z hz
    have hzH : H z = none := (same_new ht _).free hz
    have hzd : z ≠ d := fun c => by rw [c, hd1] at hz; cases hz
    have base1 : Off d H (upd (upd H t (.tup [.int (a : Int), .int (b : Int)])) z (.dK [])) := Off.of ((same_new ht _).trans (same_new hz _))
    have hd2 : (upd (upd H t (.tup [.int (a : Int), .int (b : Int)])) z (.dK [])) d = some (.dT kvs) := by rw [upd_ne (Ne.symm hzd)]; exact hd1
    -- the calls: one product
    have call : ∀ (a' b' : Nat) (H1 : Hp) (kvs1 : List (List Key × V)) (ks : List (Key × V)) (Q1 : VK), a' < 8 → b' < 8 → a' + b' < n → Off d H H1 → H1 d = some (.dT kvs1) → KOk kvs1 → H1 z = some (.dK ks) →
        (∀ kvs2 H2, KOk kvs2 → Off d H H2 → H2 d = some (.dT kvs2) → H2 z = some (.dK ks) → Q1 (.int ((tab a' b' : Nat) : Int)) H2) → spProduct n [.ref d, .int (a' : Int), .int (b' : Int)] H1 Q1 E0 := by
      intro a' b' H1 kvs1 ks Q1 h1 h2 h3 o1 e1 k1 s1 q1
      exact ⟨d, a', b', kvs1, rfl, h1, h2, h3, e1, k1, fun kvs2 H2 k2 o2 e2 => q1 kvs2 H2 k2 (o1.trans o2) e2 (o2 z _ hzd s1)⟩
    -- for _law_a in range(_law_one)
    refine ⟨_, rfl, (a : Int), rfl, by omega, by omega, for_range (lo := 0) (n := (a : Int).toNat) (fun i σ' H' => ∃ ks ns kvs' x4 x5 x6, σ' = [some (.ref d), some (.int (a : Int)), some (.int (b : Int)), some (.ref z), x4, x5, x6] ∧ SOk a b i 0 ks ns ∧ KOk kvs' ∧ H' d = some (.dT kvs') ∧ H' z = some (.dK ks) ∧ Off d H H') ?_ ?_ ?_⟩
    · exact ⟨[], [], kvs, none, none, none, rfl, SOk.start a b, hk, hd2, upd_same, base1⟩
    · rintro i σ' H1 hi ⟨ks, ns, kvs1, x4, x5, x6, rfl, so, k1, e1, s1, o1⟩
      rw [Int.toNat_natCast] at hi
      refine ⟨_, rfl, (b : Int), rfl, by omega, by omega, for_range (lo := 0) (n := (b : Int).toNat) (fun j σ' H' => ∃ ks ns kvs' x5 x6, σ' = [some (.ref d), some (.int (a : Int)), some (.int (b : Int)), some (.ref z), some (.int (i : Int)), x5, x6] ∧ SOk a b i j ks ns ∧ KOk kvs' ∧ H' d = some (.dT kvs') ∧ H' z = some (.dK ks) ∧ Off d H H') ?_ ?_ ?_⟩
      · exact ⟨ks, ns, kvs1, x5, x6, by rw [Int.zero_add]; rfl, so, k1, e1, s1, o1⟩
      · rintro j σ' H2 hj ⟨ks, ns, kvs2, x5, x6, rfl, so, k2, e2, s2, o2⟩
        rw [Int.toNat_natCast] at hj
        rw [Int.zero_add]
        have t1 := tab_lt ⟨i, by omega⟩ ⟨b, hb⟩
        have t2 := tab_lt ⟨a, ha⟩ ⟨j, by omega⟩
        have t3 := tab_lt ⟨i, by omega⟩ ⟨j, by omega⟩
        simp only at t1 t2 t3
        have t4 := Nat.xor_lt_two_pow (n := 4) t1 t2
        have sl := so.len ha hb (by omega) (by omega) (.inl hi)
        have kl : ks.length = ns.length := by
          have := congrArg List.length so.fst
          rw [List.length_map, List.length_map] at this
          exact this
        -- _law_told = ..
        simp only [tRet, tAndV, tOrV, tNotV, tAnd, tOr, tNot, tB, tTest, tCB, tCons, tNil, tVar, tC, L2.start, tOp, tUn, tIf, tIfS, tSeq, tAsg, gName, tNext, tNever, tPar, tDrop, tCall, tChain, rI, rI0, rU, rEq, rNe, scal, List.map, List.length, List.replicate, List.append, List.set, List.cons_append, List.nil_append, List.append_nil,
  List.getElem?_cons_zero, List.getElem?_cons_succ, List.set_cons_zero, List.set_cons_succ, Option.some.injEq, exists_eq_left', exists_eq_left, exists_eq_right, exists_eq_right', exists_and_left, V.int.injEq, V.bl.injEq, V.str.injEq, V.ref.injEq, List.cons.injEq, and_true, true_and, and_self, Nat.reduceAdd, Nat.reduceSub, Nat.sub_self, decide_eq_true_eq, Bool.not_eq_true', decide_eq_false_iff_not, ↓reduceIte, Bool.false_eq_true, TG.ex2_eq, TG.ex3_eq, TG.ex4_eq, sDPut]
        refine call i b H2 kvs2 ks _ (by omega) hb (by omega) o2 e2 k2 s2 fun kvs3 H3 k3 o3 e3 s3 => ?_
        try dsimp only
        refine call a j H3 kvs3 ks _ ha (by omega) (by omega) o3 e3 k3 s3 fun kvs4 H4 k4 o4 e4 s4 => ?_
        try dsimp only
        refine ⟨_, _, rfl, ⟨by omega, by omega⟩, fun H5 m5 => ?_⟩
        have o5 : Off d H H5 := o4.trans (Off.of m5)
        try dsimp only
        -- _law_some[..] = True
        refine call i j H5 kvs4 ks _ (by omega) (by omega) (by omega) o5 (m5 _ _ e4) k4 (m5 _ _ s4) fun kvs6 H6 k6 o6 e6 s6 => ?_
        try dsimp only
        refine ⟨_, _, rfl, ⟨by omega, by omega⟩, fun H7 m7 => ?_⟩
        refine ⟨_, DPut.k (k := Sum.inl ((term a b i j : Nat) : Int)) (m7 _ _ s6) (small1000 (by omega)), ?_⟩
        refine ⟨_, _, so.put hj, kvs6, k6, ?_, upd_same, ?_⟩
        · rw [upd_ne (Ne.symm hzd)]
          exact m7 _ _ e6
        · intro c o hc ec
          rw [upd_ne (ne_of_none ec hzH)]
          exact m7 _ _ (o6 c o hc ec)
      · rintro σ' H2 ⟨ks, ns, kvs2, x5, x6, rfl, so, k2, e2, s2, o2⟩
        exact ⟨ks, ns, kvs2, _, _, _, rfl, so.turn, k2, e2, s2, o2⟩
    · rintro σ' H1 ⟨ks, ns, kvs1, x4, x5, x6, rfl, so, k1, e1, s1, o1⟩
      have sl := so.len ha hb (Nat.le_refl _) (Nat.zero_le _) (.inr rfl)
      -- _law_known[one, other] = _law_missing(sorted(_law_some))
      refine ⟨_, rfl, z, ks, ns, rfl, .inl s1, so.fst, by omega, fun ys p hp _ hpn => ?_⟩
      have hpl := hp.length_eq
      refine ⟨p, ys, rfl, SqL.of upd_same, by omega, fun H2 m2 => ?_⟩
      rw [so.mex ha hb hp]
      have m3 : Same H1 H2 := (same_new hpn _).trans m2
      refine ⟨_, rfl, _, rfl, _, rfl, by show 2 ≤ sizeLine; decide, fun t2 ht2 => ?_⟩
      have e3 : (upd H2 t2 (.tup [.int (a : Int), .int (b : Int)])) d = some (.dT kvs1) := by rw [upd_ne (ne_of_none (m3 _ _ e1) ht2)]; exact m3 _ _ e1
      refine ⟨d, _, rfl, DPut.t (k := ky a b) e3 upd_same (small1000 (by have := k1.len; omega)), ?_⟩
      refine fin _ _ _ _ _ _ (k1.put ha hb) ?_ upd_same (by rw [valV_put, if_pos rfl])
      intro c o hc ec
      rw [upd_ne hc]
      exact (same_new ht2 _) _ _ (m3 _ _ (o1 c o hc ec))
theorem ok_product {k : Nat} (T : Txt K mg) (G_law_xor : FnOk P w K mg base CX0 k T.a_law_xor T.d_law_xor ["_law_one", "_law_other"] (spXor 10)) (G_law_missing : FnOk P w K mg base CX0 k T.a_law_missing T.d_law_missing ["_law_numbers"] (spMissing K)) :
    ∀ n : Nat, FnOk P w K mg base CX0 (k + n) T.a_law_product T.d_law_product ["_law_known", "_law_one", "_law_other"] (spProduct n)
  | 0 => none_left
  | n + 1 => ok_product1 T (G_law_xor.mono (Nat.le_add_right _ _)) (G_law_missing.mono (Nat.le_add_right _ _)) (ok_product T G_law_xor G_law_missing n)
end
end K57


set_option Elab.async false
set_option linter.all false
set_option maxRecDepth 100000
set_option maxHeartbeats 4000000
namespace K57
open PySem L2 TG
theorem in16_enc (x : NimF.F4.R) : In16 ((NimF.e4.enc x : Nat) : Int) := ⟨Int.natCast_nonneg _, by have := NimF.e4.lt x; have e : 2 ^ 16 = 65536 := rfl; omega⟩
theorem in16_1 : In16 1 := ⟨by decide, by decide⟩
theorem nim_enc (x y : NimF.F4.R) : nim ((NimF.e4.enc x : Nat) : Int) ((NimF.e4.enc y : Nat) : Int) = ((NimF.e4.enc (NimF.F4.mul x y) : Nat) : Int) := pr_enc NimF.e4 x y
theorem nim_one (x : NimF.F4.R) : nim ((NimF.e4.enc x : Nat) : Int) 1 = ((NimF.e4.enc x : Nat) : Int) := by
  have h := nim_enc x NimF.F4.one
  rw [NimF.e4.one, NimF.F4.mul_one] at h
  exact h
theorem enc_zero_iff (x : NimF.F4.R) : ((NimF.e4.enc x : Nat) : Int) = 0 ↔ x = NimF.F4.zero := by
  constructor
  · intro h
    refine NimF.e4.inj _ _ ?_
    rw [NimF.e4.zero]
    omega
  · rintro rfl
    rw [NimF.e4.zero]
    rfl
theorem natcast_eq (a b : Nat) : ((a : Int) = (b : Int)) = (a = b) := propext Int.ofNat_inj
section
variable {P : Program} {w : World} {K : PySem.W.Frag} {mg : Str → Option Value} {base : Heap}
def spLaw (K : PySem.W.Frag) : Sp := fun vs H Q _ => ∃ (a : Addr) (ns : List Int), vs = [.ref a] ∧ SqL K H a (ns.map V.int) ∧ ns.length ≤ 63 ∧ ∀ H', Q (.bl true) H'
theorem ok_law {k : Nat} (T : Txt K mg) (G_law_taken : FnOk P w K mg base CX0 k T.a_law_taken T.d_law_taken ["_law_row", "_law_many"] (spTaken K)) (G_law_pick : FnOk P w K mg base CX0 k T.a_law_pick T.d_law_pick ["_law_row", "_law_things"] (spPick K))
    (G_law_alike : FnOk P w K mg base CX0 k T.a_law_alike T.d_law_alike ["_law_found", "_law_due"] spAlike) (G_law_product : FnOk P w K mg base CX0 k T.a_law_product T.d_law_product ["_law_known", "_law_one", "_law_other"] (spProduct 15))
    (G_law_sum : FnOk P w K mg base CX0 k T.a_law_sum T.d_law_sum ["_law_one", "_law_other"] (spXor 16)) (G_nim_times : FnOk P w K mg base CX0 k T.a_nim_times T.d_nim_times ["one", "other"] spTimes) (G_nim_inverse : FnOk P w K mg base CX0 k T.a_nim_inverse T.d_nim_inverse ["number"] spInv) :
    FnOk P w K mg base CX0 (k + 1) T.a_law T.d_law ["_law_script"] (spLaw K) := by
  refine T.F_law.ok sc_law (fun vs H Q E h => ?_) (fun cdv A outer s H vs Q E hr h => ?_)
  · obtain ⟨a, ns, rfl, _⟩ := h
    rfl
  obtain ⟨sa, ns, rfl, hS, hl, q⟩ := h
  refine ⟨_, (pss_cons (ps_set (i := 1) sc_law.nd rfl (Or.inl rfl) (pe_lst (pa_cons (pv 0) (pa_cons pe_int (pa_cons pe_int (pa_cons pe_int pa_nil))))))
  (pss_cons (ps_par (i := 2) (j := 3) rfl sc_law.nd rfl rfl (by decide) rfl rfl (pa_cons (pe_call G_law_taken hr rfl T.g_law_taken T.F_law_taken.kp T.b_law_taken .nil pass0 (pa_cons (pv 1) (pa_cons pe_int pa_nil))) (pa_cons (pe_call G_law_taken hr rfl T.g_law_taken T.F_law_taken.kp T.b_law_taken .nil pass0 (pa_cons (pv 1) (pa_cons pe_int pa_nil))) pa_nil)) rfl)
  (pss_cons (ps_if (pt_not (pt_val (pe_call G_law_alike hr rfl T.g_law_alike T.F_law_alike.kp T.b_law_alike .nil pass0 (pa_cons (pe_call G_nim_times hr rfl T.g_nim_times T.F_nim_times.kp T.b_nim_times .nil pass0 (pa_cons (pv 2) (pa_cons (pv 3) pa_nil))) (pa_cons (pe_call G_law_product hr rfl T.g_law_product T.F_law_product.kp T.b_law_product .nil pass0 (pa_cons pe_dnewT (pa_cons (pv 2) (pa_cons (pv 3) pa_nil)))) pa_nil)))))
  (pss_one (ps_ret pe_bl))
  pss_nil)
  (pss_cons (ps_set (i := 4) sc_law.nd rfl (Or.inl rfl) (pe_call G_law_pick hr rfl T.g_law_pick T.F_law_pick.kp T.b_law_pick .nil pass0 (pa_cons (pv 1) (pa_cons (pe_lst (pa_cons pe_int (pa_cons pe_int (pa_cons pe_int (pa_cons pe_int pa_nil))))) pa_nil))))
  (pss_cons (ps_par3 (i := 5) (j := 6) (l := 7) rfl sc_law.nd rfl rfl rfl (by decide) (by decide) (by decide) rfl rfl rfl (pa_cons (pe_call G_law_taken hr rfl T.g_law_taken T.F_law_taken.kp T.b_law_taken .nil pass0 (pa_cons (pv 1) (pa_cons (pv 4) pa_nil))) (pa_cons (pe_call G_law_taken hr rfl T.g_law_taken T.F_law_taken.kp T.b_law_taken .nil pass0 (pa_cons (pv 1) (pa_cons (pv 4) pa_nil))) (pa_cons (pe_call G_law_taken hr rfl T.g_law_taken T.F_law_taken.kp T.b_law_taken .nil pass0 (pa_cons (pv 1) (pa_cons (pv 4) pa_nil))) pa_nil))) rfl)
  (pss_cons (ps_if (PW.pt (pw_or (pt_cmpR op_ne (pe_call G_nim_times hr rfl T.g_nim_times T.F_nim_times.kp T.b_nim_times .nil pass0 (pa_cons (pv 5) (pa_cons (pv 6) pa_nil))) (pe_call G_nim_times hr rfl T.g_nim_times T.F_nim_times.kp T.b_nim_times .nil pass0 (pa_cons (pv 6) (pa_cons (pv 5) pa_nil))) (nomark _)) (pw_or (pt_cmpR op_ge (pe_call G_nim_times hr rfl T.g_nim_times T.F_nim_times.kp T.b_nim_times .nil pass0 (pa_cons (pv 5) (pa_cons (pv 6) pa_nil))) (pv 4) (nomark _)) (pw_or1 (pt_cmpR op_ne (pe_call G_nim_times hr rfl T.g_nim_times T.F_nim_times.kp T.b_nim_times .nil pass0 (pa_cons (pv 5) (pa_cons pe_int pa_nil))) (pv 5) (nomark _))))))
  (pss_one (ps_ret pe_bl))
  pss_nil)
  (pss_cons (ps_if (pt_cmpR op_ne (pe_call G_nim_times hr rfl T.g_nim_times T.F_nim_times.kp T.b_nim_times .nil pass0 (pa_cons (pe_call G_nim_times hr rfl T.g_nim_times T.F_nim_times.kp T.b_nim_times .nil pass0 (pa_cons (pv 5) (pa_cons (pv 6) pa_nil))) (pa_cons (pv 7) pa_nil))) (pe_call G_nim_times hr rfl T.g_nim_times T.F_nim_times.kp T.b_nim_times .nil pass0 (pa_cons (pv 5) (pa_cons (pe_call G_nim_times hr rfl T.g_nim_times T.F_nim_times.kp T.b_nim_times .nil pass0 (pa_cons (pv 6) (pa_cons (pv 7) pa_nil))) pa_nil))) (nomark _))
  (pss_one (ps_ret pe_bl))
  pss_nil)
  (pss_cons (ps_if (pt_cmpR op_ne (pe_call G_nim_times hr rfl T.g_nim_times T.F_nim_times.kp T.b_nim_times .nil pass0 (pa_cons (pv 5) (pa_cons (pe_call G_law_sum hr rfl T.g_law_sum T.F_law_sum.kp T.b_law_sum .nil pass0 (pa_cons (pv 6) (pa_cons (pv 7) pa_nil))) pa_nil))) (pe_call G_law_sum hr rfl T.g_law_sum T.F_law_sum.kp T.b_law_sum .nil pass0 (pa_cons (pe_call G_nim_times hr rfl T.g_nim_times T.F_nim_times.kp T.b_nim_times .nil pass0 (pa_cons (pv 5) (pa_cons (pv 6) pa_nil))) (pa_cons (pe_call G_nim_times hr rfl T.g_nim_times T.F_nim_times.kp T.b_nim_times .nil pass0 (pa_cons (pv 5) (pa_cons (pv 7) pa_nil))) pa_nil))) (nomark _))
  (pss_one (ps_ret pe_bl))
  pss_nil)
  (pss_cons (ps_if (pt_cmpR op_gt (pv 5) pe_int (nomark _))
  (pss_cons (ps_set (i := 8) sc_law.nd rfl (Or.inl rfl) (pe_call G_nim_inverse hr rfl T.g_nim_inverse T.F_nim_inverse.kp T.b_nim_inverse .nil pass0 (pa_cons (pv 5) pa_nil)))
  (pss_one (ps_if (PW.pt (pw_or (pt_cmpR op_ne (pe_call G_nim_times hr rfl T.g_nim_times T.F_nim_times.kp T.b_nim_times .nil pass0 (pa_cons (pv 5) (pa_cons (pv 8) pa_nil))) pe_int (nomark _)) (pw_or (pt_not (pt_val (pe_callB call_isiS rfl T.m_isinstance (by decide +kernel) (pa_cons (pv 8) (pa_cons (pe_bltn (v := .ty "int") (u := .type "int") rfl T.m_int (by decide +kernel) rfl) pa_nil))))) (pw_or1 (pt_cmpR op_ge (pv 8) (pv 4) (nomark _))))))
  (pss_one (ps_ret pe_bl))
  pss_nil)))
  pss_nil)
  (pss_one (ps_ret (pe_cmpR op_eq (pe_cmpR op_eq (pe_call G_nim_times hr rfl T.g_nim_times T.F_nim_times.kp T.b_nim_times .nil pass0 (pa_cons (pv 5) (pa_cons (pv 6) pa_nil))) pe_int (nomark _)) (pe_or (pe_cmpR op_eq (pv 5) pe_int (nomark _)) (pe_one (pe_cmpR op_eq (pv 6) pe_int (nomark _)))) (nomark _))))))))))))), ?_⟩
  simp only [tRet, tAndV, tOrV, tNotV, tAnd, tOr, tNot, tB, tTest, tCB, tCons, tNil, tVar, tC, L2.start, tOp, tUn, tIf, tIfS, tSeq, tAsg, gName, tNext, tNever, tPar, tDrop, tCall, tChain, rI, rI0, rU, rEq, rNe, scal, List.map, List.length, List.replicate, List.append, List.set, List.cons_append, List.nil_append, List.append_nil,
  List.getElem?_cons_zero, List.getElem?_cons_succ, List.set_cons_zero, List.set_cons_succ, Option.some.injEq, exists_eq_left', exists_eq_left, exists_eq_right, exists_eq_right', exists_and_left, V.int.injEq, V.bl.injEq, V.str.injEq, V.ref.injEq, List.cons.injEq, and_true, true_and, and_self, Nat.reduceAdd, Nat.reduceSub, Nat.sub_self, decide_eq_true_eq, Bool.not_eq_true', decide_eq_false_iff_not, ↓reduceIte, Bool.false_eq_true, TG.ex2_eq, TG.ex3_eq, TG.ex4_eq, tPar3, tLst]
  refine ⟨by decide, fun r hr' => ?_⟩
  have hR := Row.make (s := 3157) hr' hS hl
  refine ⟨r, 8, rfl, hR, ⟨by decide, by decide⟩, fun d1 H1 d10 d11 hR1 ho1 => ?_⟩
  refine ⟨r, 8, rfl, hR1, ⟨by decide, by decide⟩, fun d2 H2 d20 d21 hR2 ho2 => ?_⟩
  obtain ⟨n1, rfl⟩ : ∃ n : Nat, d1 = (n : Int) := ⟨d1.toNat, by omega⟩
  obtain ⟨n2, rfl⟩ : ∃ n : Nat, d2 = (n : Int) := ⟨d2.toNat, by omega⟩
  have l1 : n1 < 8 := by omega
  have l2 : n2 < 8 := by omega
  refine ⟨_, _, rfl, ⟨⟨by omega, by omega⟩, by omega, by omega⟩, ?_⟩
  intro dd hdd
  refine ⟨dd, n1, n2, [], rfl, l1, l2, by omega, upd_same, KOk.nil, fun kvs3 H3 _ o3 _ => ?_⟩
  have hR3 : Row K H3 r := (hR2.more (same_new hdd (.dT []))).off o3 upd_same (And.intro (fun _ h => nomatch h) (fun _ _ h => nomatch h))
  refine ⟨_, _, rfl, fun H4 s4 => ⟨_, rfl, ?_⟩⟩
  rw [nim_tab l1 l2, decide_eq_true rfl, if_neg (by decide)]
  refine ⟨by decide, fun p hp => ?_⟩
  have hR4 := (hR3.more s4).more (same_new hp (.lst [V.int 4, V.int 16, V.int 256, V.int 65536]))
  obtain ⟨xs4, hx4⟩ := (hR3.more s4).there
  refine ⟨r, p, _, rfl, hR4, upd_same, ne_of_none hx4 hp |>.symm, ⟨by decide, by decide⟩, fun v H5 hv hR5 ho5 => ?_⟩
  obtain ⟨m, rfl, hm1, hm2, hsub⟩ : ∃ m : Nat, v = .int (m : Int) ∧ 1 < m ∧ m ≤ 65536 ∧ NimF.Sub NimF.e4 m := by
    simp only [List.mem_cons, List.mem_nil_iff, or_false] at hv
    rcases hv with rfl | rfl | rfl | rfl
    · exact ⟨4, rfl, by decide, by decide, NimF.sub4⟩
    · exact ⟨16, rfl, by decide, by decide, NimF.sub16⟩
    · exact ⟨256, rfl, by decide, by decide, NimF.sub256⟩
    · exact ⟨65536, rfl, by decide, by decide, NimF.sub65536⟩
  refine ⟨r, _, rfl, hR5, ⟨by omega, by omega⟩, fun a H6 a0 a1 hR6 ho6 => ?_⟩
  refine ⟨r, _, rfl, hR6, ⟨by omega, by omega⟩, fun b H7 b0 b1 hR7 ho7 => ?_⟩
  refine ⟨r, _, rfl, hR7, ⟨by omega, by omega⟩, fun c H8 c0 c1 hR8 ho8 => ?_⟩
  have p16 : ((2 ^ 16 : Nat) : Int) = 65536 := by decide
  obtain ⟨x, rfl⟩ := of_lt NimF.e4 a0 (by rw [p16]; omega)
  obtain ⟨y, rfl⟩ := of_lt NimF.e4 b0 (by rw [p16]; omega)
  obtain ⟨z, rfl⟩ := of_lt NimF.e4 c0 (by rw [p16]; omega)
  have e1 : NimF.F4.mul y x = NimF.F4.mul x y := NimF.F4.mul_comm y x
  have e2 : ¬ (m : Int) ≤ ((NimF.e4.enc (NimF.F4.mul x y) : Nat) : Int) := by
    have := hsub x y (by omega) (by omega)
    omega
  have e3 : NimF.F4.mul (NimF.F4.mul x y) z = NimF.F4.mul x (NimF.F4.mul y z) := NimF.F4.mul_assoc x y z
  have e4 : NimF.F4.mul x (NimF.F4.add y z) = NimF.F4.add (NimF.F4.mul x y) (NimF.F4.mul x z) := NimF.F4.mul_add x y z
  simp only [tRet, tAndV, tOrV, tNotV, tAnd, tOr, tNot, tB, tTest, tCB, tCons, tNil, tVar, tC, L2.start, tOp, tUn, tIf, tIfS, tSeq, tAsg, gName, tNext, tNever, tPar, tDrop, tCall, tChain, rI, rI0, rU, rEq, rNe, scal, List.map, List.length, List.replicate, List.append, List.set, List.cons_append, List.nil_append, List.append_nil,
  List.getElem?_cons_zero, List.getElem?_cons_succ, List.set_cons_zero, List.set_cons_succ, Option.some.injEq, exists_eq_left', exists_eq_left, exists_eq_right, exists_eq_right', exists_and_left, V.int.injEq, V.bl.injEq, V.str.injEq, V.ref.injEq, List.cons.injEq, and_true, true_and, and_self, Nat.reduceAdd, Nat.reduceSub, Nat.sub_self, decide_eq_true_eq, Bool.not_eq_true', decide_eq_false_iff_not, ↓reduceIte, Bool.false_eq_true, TG.ex2_eq, TG.ex3_eq, TG.ex4_eq, spTimes, in16_enc, in16_1, nim_enc, nim_one, e1, e2, e3, not_true_eq_false, spXor, natcast_eq, NimF.e4.lt]
  have f1 : NimF.F3.pmul x y = NimF.F3.pmul y x := NimF.F4.mul_comm x y
  have f3 : NimF.F3.pmul (NimF.F3.pmul x y) z = NimF.F3.pmul x (NimF.F3.pmul y z) := NimF.F4.mul_assoc x y z
  rw [if_neg (fun h => h (congrArg NimF.e4.enc f1)), if_neg (fun h => h (congrArg NimF.e4.enc f3))]
  intro H9 s9
  have g1 : NimF.e4.enc y ^^^ NimF.e4.enc z = NimF.e4.enc (NimF.F4.add y z) := (NimF.e4.add y z).symm
  have g2 : NimF.e4.enc (NimF.F3.pmul x y) ^^^ NimF.e4.enc (NimF.F3.pmul x z) = NimF.e4.enc (NimF.F4.add (NimF.F4.mul x y) (NimF.F4.mul x z)) := (NimF.e4.add _ _).symm
  rw [g1, g2, nim_enc]
  refine ⟨in16_enc _, fun H10 s10 => ?_⟩
  rw [e4, if_neg (fun h => h rfl)]
  have last : ∀ H', (if ((NimF.e4.enc x : Nat) : Int) = 0 then Q (V.bl (decide (((NimF.e4.enc (NimF.F3.pmul x y) : Nat) : Int) = 0))) H'
      else Q (V.bl (decide (decide (((NimF.e4.enc (NimF.F3.pmul x y) : Nat) : Int) = 0) = decide (((NimF.e4.enc y : Nat) : Int) = 0)))) H') := by
    intro H'
    have hz := NimF.mul_zero_iff x y
    have hz' : ((NimF.e4.enc (NimF.F3.pmul x y) : Nat) : Int) = 0 ↔ (x = NimF.F4.zero ∨ y = NimF.F4.zero) := (enc_zero_iff (NimF.F4.mul x y)).trans hz
    by_cases hx : x = NimF.F4.zero
    · rw [if_pos ((enc_zero_iff x).mpr hx), decide_eq_true (hz'.mpr (.inl hx))]
      exact q H'
    · rw [if_neg (fun h => hx ((enc_zero_iff x).mp h))]
      by_cases hy : y = NimF.F4.zero
      · rw [decide_eq_true (hz'.mpr (.inr hy)), decide_eq_true ((enc_zero_iff y).mpr hy), decide_eq_true rfl]
        exact q H'
      · rw [decide_eq_false (fun h => (hz'.mp h).elim hx hy), decide_eq_false (fun h => hy ((enc_zero_iff y).mp h)), decide_eq_true rfl]
        exact q H'
  by_cases hx : 0 < ((NimF.e4.enc x : Nat) : Int)
  · rw [if_pos hx]
    have hxz : x ≠ NimF.F4.zero := fun h => by
      rw [(enc_zero_iff x).mpr h] at hx
      exact absurd hx (by decide)
    have li := in16_enc x
    refine ⟨_, rfl, ⟨by omega, li.2⟩, ?_⟩
    have ei : invI ((NimF.e4.enc x : Nat) : Int) = ((NimF.e4.enc (NimF.invGo 15 x).1 : Nat) : Int) := by
      unfold invI
      rw [Int.toNat_natCast, dec_enc]
    refine ⟨_, _, ⟨rfl, rfl⟩, ⟨in16_enc _, by rw [ei]; exact in16_enc _⟩, ?_⟩
    rw [ei, nim_enc, NimF.inv_ok hxz, NimF.e4.one, if_neg (fun h => h rfl)]
    refine ⟨_, _, _, _, rfl, rfl, kit_int_int, _, rfl, ?_⟩
    rw [if_neg (by decide)]
    refine ⟨_, rfl, ?_⟩
    have hs2 := (NimF.sub_inv hsub hm1 (a := x) (by omega) 15).1
    rw [if_neg (by omega)]
    exact last H10
  · rw [if_neg hx]
    exact last H10
theorem law_end {P : Program} {w : World} {K : PySem.W.Frag} {mg : Str → Option Value} {fa : Addr} (N : Nonempty (Txt K mg)) (hfa : mg "law" = some (.ref fa)) :
    ∃ fd : FuncData, (∀ (s : Shared) (v : Value), BindsTo s fd ⟨[v], []⟩ [("_law_script", v)]) ∧ ∀ base : Heap, K.In base → base.Ns mainGlobals mg → FnOk P w K mg base CX0 30 fa fd ["_law_script"] (spLaw K) := by
  obtain ⟨T⟩ := N
  have e := hfa.symm.trans T.g_law
  cases e
  refine ⟨T.d_law, T.B_law, fun base _ _ => ?_⟩
  have t1 : FnOk P w K mg base CX0 1 T.a_law_taken T.d_law_taken ["_law_row", "_law_many"] (spTaken K) := ok_taken T
  have n1 : FnOk P w K mg base CX0 1 T.a_is_int T.d_is_int ["value"] spIsInt := ok_is_int T
  have n2 := ok_is_in T n1
  have n3 := ok_need_number T n2
  have p5 : FnOk P w K mg base CX0 5 T.a_product_of T.d_product_of ["one", "other", "half"] (spProd NimF.e4 8) := ok_product_of T
  have x1 : FnOk P w K mg base CX0 1 T.a_law_xor T.d_law_xor ["_law_one", "_law_other"] (spXor 10) := ok_xor T
  have m1 : FnOk P w K mg base CX0 1 T.a_law_missing T.d_law_missing ["_law_numbers"] (spMissing K) := ok_missing T
  have s1 : FnOk P w K mg base CX0 1 T.a_law_sum T.d_law_sum ["_law_one", "_law_other"] (spXor 16) := ok_sum T
  have a1 : FnOk P w K mg base CX0 1 T.a_law_alike T.d_law_alike ["_law_found", "_law_due"] spAlike := ok_alike T
  exact ok_law (k := 29) T (t1.mono (by decide)) ((ok_pick T t1).mono (by decide)) (a1.mono (by decide)) ((ok_product T x1 m1 15).mono (by decide)) (s1.mono (by decide))
    ((ok_nim_times (k := 5) T (n3.mono (by decide)) p5).mono (by decide)) ((ok_nim_inverse (k := 5) T (n3.mono (by decide)) p5).mono (by decide))
end
end K57
open PySem PySem.W PyProof.Rows
set_option maxRecDepth 100000 in
set_option maxHeartbeats 0 in
theorem PySem.Challenge.cw_thermogames_k57_whole_nim_products_holds : PySem.Challenge.rw_thermogames_k57_whole_nim_products.Holds := by
  w_on; o_law; k_head; (case hw => w_witness2)
  k_fill
  refine L2.walk_of (l := PySem.Challenge.rw_thermogames_k57_whole_nim_products) (n := 63) (k := 30) (x := "_law_script") (CX := fun _ => L2.CX0) (sp := fun w => K57.spLaw _) rfl (by decide) rfl ⟨rfl, by decide, by decide⟩ (fun w h Y => PySem.W.kIn_of Y) ?F (fun _ _ a ns hl _ hS => ⟨a, ns, rfl, hS, hl, fun _ => rfl⟩) (fun _ _ _ _ _ h => h)
  case F =>
    intro w mg fa h KX G hmg
    refine' K57.law_end (K57.txt_mk KX G ?a0 ?l0 ?c0 ?k0 ?a1 ?l1 ?c1 ?k1 ?a2 ?l2 ?c2 ?k2 ?a3 ?l3 ?c3 ?k3 ?a4 ?l4 ?c4 ?k4 ?a5 ?l5 ?c5 ?k5 ?a6 ?l6 ?c6 ?k6 ?a7 ?l7 ?c7 ?k7 ?a8 ?l8 ?c8 ?k8 ?a9 ?l9 ?c9 ?k9 ?a10 ?l10 ?c10 ?k10 ?a11 ?l11 ?c11 ?k11 ?a12 ?l12 ?c12 ?k12 ?a13 ?l13 ?c13 ?k13 ?v0 ?z0 ?z1 ?z2 ?z3 ?z4 ?z5 ?z6 ?z7 ?z8) hmg
    case a0 => k_is
    case l0 => k_is
    case c0 => k_is
    case k0 => k_is
    case a1 => k_is
    case l1 => k_is
    case c1 => k_is
    case k1 => k_is
    case a2 => k_is
    case l2 => k_is
    case c2 => k_is
    case k2 => k_is
    case a3 => k_is
    case l3 => k_is
    case c3 => k_is
    case k3 => k_is
    case a4 => k_is
    case l4 => k_is
    case c4 => k_is
    case k4 => k_is
    case a5 => k_is
    case l5 => k_is
    case c5 => k_is
    case k5 => k_is
    case a6 => k_is
    case l6 => k_is
    case c6 => k_is
    case k6 => k_is
    case a7 => k_is
    case l7 => k_is
    case c7 => k_is
    case k7 => k_is
    case a8 => k_is
    case l8 => k_is
    case c8 => k_is
    case k8 => k_is
    case a9 => k_is
    case l9 => k_is
    case c9 => k_is
    case k9 => k_is
    case a10 => k_is
    case l10 => k_is
    case c10 => k_is
    case k10 => k_is
    case a11 => k_is
    case l11 => k_is
    case c11 => k_is
    case k11 => k_is
    case a12 => k_is
    case l12 => k_is
    case c12 => k_is
    case k12 => k_is
    case a13 => k_is
    case l13 => k_is
    case c13 => k_is
    case k13 => k_is
    case v0 => k_is
    case z0 => k_is
    case z1 => k_is
    case z2 => k_is
    case z3 => k_is
    case z4 => k_is
    case z5 => k_is
    case z6 => k_is
    case z7 => k_is
    case z8 => k_is
#print axioms PySem.Challenge.cw_thermogames_k57_whole_nim_products_holds

