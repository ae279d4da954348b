import PyProof.Rows.All
import Wide.All
import OpenK.AllK
import Wide.FinOn
import HandS.ForMost
import HandS.IsInst
import HandS.SortInts
import HandS.Style
import HandS.Evl
import HandS.More
import HandS.Zip
import PyProof.Draws
import PyProof.EnumMake
import HandS.TupAny
import PySem.Challenge.RW_thermogames_k56_whole_first_periods
set_option Elab.async false
set_option linter.all false
set_option maxRecDepth 100000
set_option maxHeartbeats 4000000
/-! The kit of our own, over the hand layer: what all laws share. -/
namespace TG
open PySem L2
/-! ### names at once, for simp -/
theorem ex2_eq {α β : Sort _} {a : α} {b : β} {p : α → β → Prop} : (∃ v w, (a = v ∧ b = w) ∧ p v w) ↔ p a b :=
  ⟨fun ⟨_, _, ⟨h1, h2⟩, h⟩ => by subst h1 h2; exact h, fun h => ⟨_, _, ⟨rfl, rfl⟩, h⟩⟩
theorem ex3_eq {α β γ : Sort _} {a : α} {b : β} {c : γ} {p : α → β → γ → Prop} : (∃ v w x, (a = v ∧ b = w ∧ c = x) ∧ p v w x) ↔ p a b c :=
  ⟨fun ⟨_, _, _, ⟨h1, h2, h3⟩, h⟩ => by subst h1 h2 h3; exact h, fun h => ⟨_, _, _, ⟨rfl, rfl, rfl⟩, h⟩⟩
theorem ex4_eq {α β γ δ : Sort _} {a : α} {b : β} {c : γ} {d : δ} {p : α → β → γ → δ → Prop} : (∃ v w x y, (a = v ∧ b = w ∧ c = x ∧ d = y) ∧ p v w x y) ↔ p a b c d :=
  ⟨fun ⟨_, _, _, _, ⟨h1, h2, h3, h4⟩, h⟩ => by subst h1 h2 h3 h4; exact h, fun h => ⟨_, _, _, _, ⟨rfl, rfl, rfl, rfl⟩, h⟩⟩
/-! ### a weaker reading -/
theorem ps_imp {X : Cx} {st : Stmt} {t t' : TS} (h : ∀ D σ H, t' D σ H → t D σ H) (p : PS X st t) : PS X st t' := ⟨fun pins s σ H D I q => p.run pins s σ H D I (h D σ H q)⟩
theorem pe_imp {X : Cx} {e : Expr} {t t' : TE} (h : ∀ σ H Q, t' σ H Q → t σ H Q) (p : PE X e t) : PE X e t' := ⟨fun pins s σ H Q I q => p.run pins s σ H Q I (h σ H Q q)⟩
theorem same_new {H : Hp} {p : Addr} (h : H p = none) (o : HO) : Same H (upd H p o) := fun b u q => by rw [upd_ne (ne_of_none q h)]; exact q
/-- a, b = constants: a tuple is made on the way -/
def tParC (i j : Nat) (v w : V) : TS := fun D σ H => ∀ H', Same H H' → D.nx ((σ.set i (some v)).set j (some w)) H'
theorem parC {K : PySem.W.Frag} {i j : Nat} {v w : V} : ∀ D σ H, tParC i j v w D σ H → tAsg (tTup (tCons (tC v) (tCons (tC w) tNil))) (gTup K 2 (gCons (gName i) (gCons (gName j) gNil))) D σ H :=
  fun D σ H h => ⟨by show 2 ≤ sizeLine; decide, fun p hp => ⟨p, _, rfl, SqT.of upd_same, rfl, _, _, rfl, _, _, rfl, rfl, h _ (same_new hp _)⟩⟩
/-! ### one step into a reading -/
section
variable {σ : L2.St} {H : Hp} {D : Ends} {te ta tb : TE} {r : R2} {Q : VK} {g : TG} {t u : TS} {tt : TT} {ts : TA}
theorem go_ret (h : te σ H D.rt) : tRet te D σ H := h
theorem go_op (h : ta σ H fun x H1 => tb σ H1 fun y H2 => r x y H2 Q) : tOp r ta tb σ H Q := h
theorem go_asg (h : te σ H fun x H1 => g x σ H1 D.nx) : tAsg te g D σ H := h
theorem go_seq (h : t { D with nx := u D } σ H) : tSeq t u D σ H := h
theorem go_drop (h : te σ H fun _ H1 => D.nx σ H1) : tDrop te D σ H := h
theorem go_ifS {u : TS} (h : tt σ H fun b H1 => if b = true then t D σ H1 else u D σ H1) : tIfS tt t u D σ H := h
theorem go_cons {tr : TA} {Q : List V → Hp → Prop} (h : ta σ H fun x H1 => tr σ H1 fun xs H2 => Q (x :: xs) H2) : tCons ta tr σ H Q := h
theorem go_cb {f : List V → Hp → VK → Prop} (h : ts σ H fun vs H1 => f vs H1 Q) : tCB f ts σ H Q := h
theorem go_call {sp : Sp} {dvs : List V} {E : XK} (h : ts σ H fun vs H1 => sp (vs ++ dvs) H1 Q E) : tCall sp dvs E ts σ H Q := h
end
/-! ### the rules with the written part named -/
section
variable {X : Cx} {K : PySem.W.Frag}
theorem op_in_seqK (hK : X.K = K) : OpR X (compareOp .In) (rIn K false) := by subst hK; exact op_in_seq
theorem op_notIn_seqK (hK : X.K = K) : OpR X (compareOp .NotIn) (rIn K true) := by subst hK; exact op_notIn_seq
theorem ix_listK (hK : X.K = K) : IxR X (rIxL K) := by subst hK; exact ix_list
theorem ix_tupK (hK : X.K = K) : IxR X (rIxT K) := by subst hK; exact ix_tup
theorem ix_seqK (hK : X.K = K) : IxR X (rIx K) := by subst hK; exact ix_seq
def rLenQ (K : PySem.W.Frag) : List V → Hp → VK → Prop := fun xs H Q => ∃ p ys, xs = [.ref p] ∧ (SqL K H p ys ∨ SqT K H p ys) ∧ Q (.int ys.length) H
theorem call_lenK (hK : X.K = K) : CallR X (.builtin "len") (rLenQ K) := by subst hK; exact call_len_seq
def rListOf (K : PySem.W.Frag) : List V → Hp → VK → Prop := fun xs H Q => ∃ p ys, xs = [.ref p] ∧ (SqL K H p ys ∨ SqT K H p ys) ∧ ∀ l, H l = none → Q (.ref l) (upd H l (.lst ys))
theorem call_list_ofK (hK : X.K = K) : CallR X (.type "list") (rListOf K) := by subst hK; exact call_list_of
def rTupOf (K : PySem.W.Frag) : List V → Hp → VK → Prop := fun xs H Q => ∃ p ys, xs = [.ref p] ∧ ((SqL K H p ys ∧ ∀ l, H l = none → Q (.ref l) (upd H l (.tup ys))) ∨ (SqT K H p ys ∧ Q (.ref p) H))
theorem call_tuple_ofK (hK : X.K = K) : CallR X (.type "tuple") (rTupOf K) := by subst hK; exact call_tuple_of
theorem cr_sumK (hK : X.K = K) (hc : X.calm = true) : CallR X (.builtin "sum") (rSum K) := by subst hK; exact cr_sum hc
theorem cr_maxK (hK : X.K = K) (hc : X.calm = true) : CallR X (.builtin "max") (rMax K) := by subst hK; exact cr_max hc
theorem cr_minK (hK : X.K = K) (hc : X.calm = true) : CallR X (.builtin "min") (rMin K) := by subst hK; exact cr_min hc
theorem cr_anyK (hK : X.K = K) (hc : X.calm = true) : CallR X (.builtin "any") (rAny K) := by subst hK; exact cr_any hc
theorem cr_allK (hK : X.K = K) (hc : X.calm = true) : CallR X (.builtin "all") (rAll K) := by subst hK; exact cr_all hc
theorem cr_sortedIK (hK : X.K = K) : CallR X (.builtin "sorted") (rSortedI K) := by subst hK; exact cr_sortedI
theorem sl_listK (hK : X.K = K) : SlR X (rSlL K) := by subst hK; exact sl_list
theorem sl_tupK (hK : X.K = K) : SlR X (rSlT K) := by subst hK; exact sl_tup
theorem op_catTK (hK : X.K = K) : OpR X (binaryOp .Add) (rCatT K) := by subst hK; exact op_catT
theorem op_eqDK (hK : X.K = K) (hu : X.A.units + 64 < cLine) : OpR X (compareOp .Eq) (rEqD K) := by subst hK; exact op_eqD hu
theorem op_neDK (hK : X.K = K) (hu : X.A.units + 64 < cLine) : OpR X (compareOp .NotEq) (rNeD K) := by subst hK; exact op_neD hu
theorem call_isiTK (hK : X.K = K) : CallR X (.builtin "isinstance") (rIsiT K) := by subst hK; exact call_isiT
theorem call_isiK' (hK : X.K = K) : CallR X (.builtin "isinstance") (rIsi K) := by subst hK; exact call_isi
theorem pi_listK {tg l : Expr} {tl : TE} (hK : X.K = K) (hl : PE X l tl) : PI X tg l (iList K tl) := by subst hK; exact pi_list hl
theorem pi_tupK {tg l : Expr} {tl : TE} (hK : X.K = K) (hl : PE X l tl) : PI X tg l (iTup K tl) := by subst hK; exact pi_tup hl
theorem pi_enumK {e : Expr} {ta : TA} {p pos tpos : Pos} {elts : List Expr} {kk : Nat} (hK : X.K = K) (hg : Gl X "enumerate") (hm : X.mg "enumerate" = none) (ha : PA X [e] ta) (hs : starEach [e] X.env = [(false, eval e X.env)] := by rfl) :
    PI X (.Tuple elts kk tpos) (.Call (.Name "enumerate" p) [e] [] pos) (iEnum K ta) := by subst hK; exact pi_enum hg hm ha hs
theorem pi_zipK {e e2 : Expr} {ta : TA} {p pos tpos : Pos} {elts : List Expr} {kk : Nat} (hK : X.K = K) (hg : Gl X "zip") (hm : X.mg "zip" = none) (ha : PA X [e, e2] ta)
    (hs : starEach [e, e2] X.env = (false, eval e X.env) :: starEach [e2] X.env := by rfl) (hpl : (backTo pos (starEach [e2] X.env)).any (·.1) = false := by rfl) :
    PI X (.Tuple elts kk tpos) (.Call (.Name "zip" p) [e, e2] [] pos) (iZip K ta) := by subst hK; exact pi_zip hg hm ha hs hpl
theorem pg_tupK {pos : Pos} {es : List Expr} {k : Nat} {t : TGs} {n : Nat} (hK : X.K = K) (hc : X.calm = true) (h : PGs X es t)
    (hn : (assignEach es X.env).length = n := by rfl) (hst : (assignEach es X.env).findIdx? (·.1) = none := by rfl) : PG X (.Tuple es k pos) (gTup K n t) := by subst hK; exact pg_tup hc h hn hst
theorem pe_bm0K {o : Expr} {to : TE} {name : Str} {apos cpos : Pos} {T id : String} {r : V → List V → Hp → VK → Prop} (hK : X.K = K) (pa : PlainAttrs T) (slot : Slot T name id) (hty : typeOf (.builtin id) = pure (.type "method_descriptor")) (hm : MtR X id r) (ho : PE X o to)
    (hbase : attributeBase o name X.env (eval o X.env) = eval o X.env := by rfl) (hline : (apos.endLine == cpos.line) = true := by rfl) : PE X (.Call (.Attribute o name apos) [] [] cpos) (tBM0 K T r to) := by subst hK; exact pe_bm0 pa slot hty hm ho hbase hline
theorem pe_bmK {o e : Expr} {es : List Expr} {to : TE} {t : TA} {name : Str} {apos cpos : Pos} {T id : String} {r : V → List V → Hp → VK → Prop} (hK : X.K = K) (pa : PlainAttrs T) (slot : Slot T name id) (hty : typeOf (.builtin id) = pure (.type "method_descriptor")) (hm : MtR X id r) (ho : PE X o to) (ha : PA X (e :: es) t)
    (hbase : attributeBase o name X.env (eval o X.env) = eval o X.env := by rfl)
    (hfew : ((backTo cpos (starEach (e :: es) X.env)).all (fun x => !x.1) && (backToKw cpos (keywordEach [] X.env)).all (fun x => x.1.isSome)
      && decide ((e :: es).length + ([] : List Keyword).length + (if ([] : List Keyword).isEmpty then 0 else 1) < 30)) = true := by rfl)
    (hline : (apos.endLine == cpos.line) = true := by rfl) (hs : starEach (e :: es) X.env = (false, eval e X.env) :: starEach es X.env := by rfl) (hplain : (backTo cpos (starEach es X.env)).any (·.1) = false := by rfl) :
    PE X (.Call (.Attribute o name apos) (e :: es) [] cpos) (tBM K T r to t) := by subst hK; exact pe_bm pa slot hty hm ho ha hbase hfew hline hs hplain
end
/-! ### isinstance of plain values -/
def sTy : V → Option String
  | .non => some "NoneType"
  | .bl _ => some "bool"
  | .int _ => some "int"
  | .str _ => some "str"
  | _ => none
def rIsiS : List V → Hp → VK → Prop := fun xs H Q => ∃ x c t b, xs = [x, .ty c] ∧ sTy x = some t ∧ kitB t c = some b ∧ Q (.bl b) H
theorem call_isiS {X : Cx} : CallR X (.builtin "isinstance") rIsiS := by
  intro pins s σ H xs us Q I r h
  obtain ⟨x, c, t, b, rfl, ht, hk, q⟩ := h
  have ty : TyX X.K H x (.type t) := by
    cases x with
    | non => cases ht; exact .base .non
    | bl b => cases ht; exact .base (.bl b)
    | int i => cases ht; exact .base (.int i)
    | str z => cases ht; exact .base (.str z)
    | _ => cases ht
  exact call_isi pins s σ H _ us Q I r ⟨x, .ty c, .type t, .type c, b, rfl, .ty c, ty, kit_ty hk, q⟩
theorem kit_int_int : kitB "int" "int" = some true := by decide +kernel
theorem kit_int_bool : kitB "int" "bool" = some false := by decide +kernel
theorem kit_int_str : kitB "int" "str" = some false := by decide +kernel
theorem kit_int_tuple : kitB "int" "tuple" = some false := by decide +kernel
theorem kit_int_list : kitB "int" "list" = some false := by decide +kernel
/-! ### the law's row of draws -/
def hide (H : Hp) (r : Addr) : Hp := fun b => if b = r then none else H b
theorem hide_upd {H : Hp} {r : Addr} {o : HO} : hide (upd H r o) r = hide H r := by
  funext b
  unfold hide upd
  by_cases h : b = r
  · rw [if_pos h, if_pos h]
  · rw [if_neg h, if_neg h, if_neg h]
theorem hide_same {H : Hp} {r : Addr} : Same (hide H r) H := fun b o e => by
  unfold hide at e
  by_cases h : b = r
  · rw [if_pos h] at e
    cases e
  · rw [if_neg h] at e
    exact e
/-- what stands apart from r is as it was, or more -/
def Off (r : Addr) (H H' : Hp) : Prop := ∀ b o, b ≠ r → H b = some o → H' b = some o
theorem Off.hide {r : Addr} {H H' : Hp} (h : Off r H H') : Same (hide H r) (hide H' r) := fun b o e => by
  unfold TG.hide at e ⊢
  by_cases hb : b = r
  · rw [if_pos hb] at e
    cases e
  · rw [if_neg hb] at e ⊢
    exact h b o hb e
theorem Off.refl {r : Addr} {H : Hp} : Off r H H := fun _ _ _ e => e
theorem Off.trans {r : Addr} {H H1 H2 : Hp} (a : Off r H H1) (b : Off r H1 H2) : Off r H H2 := fun x o hx e => b x o hx (a x o hx e)
theorem Off.upd {r : Addr} {H : Hp} {o : HO} : Off r H (upd H r o) := fun b u hb e => by rw [upd_ne hb]; exact e
theorem Off.of {r : Addr} {H H' : Hp} (h : Same H H') : Off r H H' := fun b u _ e => h b u e
theorem Off.eq {r : Addr} {H H' : Hp} (h : ∀ b, b ≠ r → H' b = H b) : Off r H H' := fun b u hb e => by rw [h b hb]; exact e
/-- the row: the script, a place, a seed, what is left of a great cell -/
def Row (K : PySem.W.Frag) (H : Hp) (r : Addr) : Prop :=
  ∃ (a : Addr) (ns : List Int) (i s t : Int), H r = some (.lst [.ref a, .int i, .int s, .int t]) ∧ SqL K (hide H r) a (ns.map V.int) ∧ ns.length ≤ 63 ∧ 0 ≤ i
theorem Row.more {K : PySem.W.Frag} {H H' : Hp} {r : Addr} (h : Row K H r) (s : Same H H') : Row K H' r := by
  obtain ⟨a, ns, i, z, t, h1, h2, h3, h4⟩ := h
  exact ⟨a, ns, i, z, t, s _ _ h1, (Off.hide (Off.of s)).seq h2, h3, h4⟩
theorem Row.there {K : PySem.W.Frag} {H : Hp} {r : Addr} (h : Row K H r) : ∃ xs, H r = some (.lst xs) := by
  obtain ⟨a, ns, i, z, t, h1, _⟩ := h
  exact ⟨_, h1⟩
/-- what changes is no list -/
theorem Row.off {K : PySem.W.Frag} {H H' : Hp} {r d : Addr} {u : HO} (h : Row K H r) (o : Off d H H') (hd : H d = some u) (hu : (∀ xs, u ≠ .lst xs) ∧ ∀ x y, u ≠ .frz x y) : Row K H' r := by
  obtain ⟨a, ns, i, z, t, h1, h2, h3, h4⟩ := h
  have hrd : r ≠ d := fun e => by
    rw [e, hd] at h1
    exact hu.1 _ (Option.some.inj h1)
  refine ⟨a, ns, i, z, t, o _ _ hrd h1, ?_, h3, h4⟩
  have key : ∀ v, hide H r a = some v → ((∃ xs, v = HO.lst xs) ∨ ∃ x y, v = HO.frz x y) → hide H' r a = some v := fun v e c => by
    have e1 : H a = some v := hide_same a v e
    have had : a ≠ d := fun q => by
      rw [q, hd] at e1
      have e2 := Option.some.inj e1
      rcases c with ⟨xs, c⟩ | ⟨x, y, c⟩
      · exact hu.1 _ (e2.trans c)
      · exact hu.2 _ _ (e2.trans c)
    have har : a ≠ r := fun q => by
      unfold hide at e
      rw [if_pos q] at e
      cases e
    unfold hide
    rw [if_neg har]
    exact o a v had e1
  rcases h2 with (h2 | ⟨x, h2⟩) | h2
  · exact .inl (.inl (key _ h2 (.inl ⟨_, rfl⟩)))
  · exact .inl (.inr ⟨x, key _ h2 (.inr ⟨_, _, rfl⟩)⟩)
  · exact .inr h2
/-- a draw: some number below m; the row turns, all else stands -/
def spTaken (K : PySem.W.Frag) : Sp := fun vs H Q _ => ∃ (r : Addr) (m : Int), vs = [.ref r, .int m] ∧ Row K H r ∧ (0 < m ∧ m < 1073741824) ∧
  ∀ (d : Int) (H' : Hp), 0 ≤ d → d < m → Row K H' r → (∀ b, b ≠ r → H' b = H b) → Q (.int d) H'
theorem at0 {a b c d : V} : atI [a, b, c, d] 0 = some a := rfl
theorem at1 {a b c d : V} : atI [a, b, c, d] 1 = some b := rfl
theorem at2 {a b c d : V} : atI [a, b, c, d] 2 = some c := rfl
theorem at3 {a b c d : V} : atI [a, b, c, d] 3 = some d := rfl
theorem mul_small {i : Int} : CMul i 48271 := .inr ⟨by decide, by decide⟩
/-- one of some things -/
def spPick (K : PySem.W.Frag) : Sp := fun vs H Q _ => ∃ (r p : Addr) (xs : List V), vs = [.ref r, .ref p] ∧ Row K H r ∧ H p = some (.lst xs) ∧ p ≠ r ∧ (0 < xs.length ∧ xs.length < 1000) ∧
  ∀ (v : V) (H' : Hp), v ∈ xs → Row K H' r → (∀ b, b ≠ r → H' b = H b) → Q v H'
/-- the row as the law makes it -/
theorem Row.make {K : PySem.W.Frag} {H : Hp} {r a : Addr} {ns : List Int} {s : Int} (hr : H r = none) (h : SqL K H a (ns.map V.int)) (hl : ns.length ≤ 63) : Row K (upd H r (.lst [.ref a, .int 0, .int s, .int 0])) r :=
  ⟨a, ns, 0, s, 0, upd_same, by
    rw [hide_upd]
    refine Same.seq (fun b o e => ?_) h
    unfold hide
    rw [if_neg (ne_of_none e hr)]
    exact e, hl, Int.le_refl 0⟩
/-! ### lists without repetition -/
theorem nodup_le {α : Type} [DecidableEq α] : ∀ {l m : List α}, l.Nodup → (∀ x ∈ l, x ∈ m) → l.length ≤ m.length
  | [], _, _, _ => Nat.zero_le _
  | x :: r, m, hn, hs => by
    have hx : x ∈ m := hs x List.mem_cons_self
    have hr := List.nodup_cons.mp hn
    have ih := nodup_le (l := r) (m := m.erase x) hr.2 fun y hy => by
      have hne : y ≠ x := fun e => hr.1 (e ▸ hy)
      exact (List.mem_erase_of_ne hne).mpr (hs y (List.mem_cons_of_mem _ hy))
    have hp : 0 < m.length := List.length_pos_of_mem hx
    rw [List.length_erase_of_mem hx] at ih
    rw [List.length_cons]
    omega
theorem nodup_cast : ∀ n : Nat, ((List.range n).map fun k : Nat => (k : Int)).Nodup := fun n => by
  rw [List.Nodup, List.pairwise_map]
  exact List.Pairwise.imp (fun h e => by omega) (List.pairwise_lt_range (n := n))
theorem int_in (k : Int) : ∀ ns : List Int, inV (.int k) (ns.map V.int) = decide (k ∈ ns)
  | [] => rfl
  | n :: r => by
    have ih := int_in k r
    unfold inV at ih ⊢
    rw [List.map_cons, List.any_cons, ih]
    by_cases h : n = k
    · subst h
      simp [eqV]
    · have h2 : ¬ k = n := fun e => h e.symm
      simp [eqV, h, h2]
theorem ints_flat (ns : List Int) : (ns.map V.int).all flatV = true := by
  rw [List.all_map, List.all_eq_true]
  intro x _
  rfl
end TG


set_option Elab.async false
set_option linter.all false
set_option maxRecDepth 100000
set_option maxHeartbeats 4000000
/-! enumerate(tuple) in a for, over the hand layer -/
namespace TG
open PySem PySem.Spec PyProof.Rows L2
open PySem.AutoSeq1 (wpAny_loadPart')
theorem meets_enumT (l : Addr) (items : Array Value) (n : Nat) (dct : Option Addr) (sl : Array (Option Value)) :
    Meets (Builtin.«enumerate.__new__» ⟨[.type "enumerate", .ref l], []⟩) (fun _ R s => s.heap.get? l = some { cls := .type "tuple", dict := dct, data := .seq items n, slots := sl } ∧
      R (.ok (.ret (.ref (s.heap.push { cls := .type "tuple_iterator", data := .fields #[.ref l, .int 0 0] }).objs.size)))
        { s with heap := (s.heap.push { cls := .type "tuple_iterator", data := .fields #[.ref l, .int 0 0] }).push { cls := .type "enumerate", data := .fields #[.none, .bool false, .ref s.heap.objs.size, rawInt 0, .none, .none] } }) :=
  .of_wp fun prog w A R s h => by
    obtain ⟨hp, g, d, tk, os⟩ := s; obtain ⟨hl, h⟩ := h
    have hsub := sub_enumerate
    have hL : Heap.IsTuple (Shared.heap ⟨hp, g, d, tk, os⟩) l items := ⟨_, hl, rfl, n, rfl⟩
    wp_walk using wpAny_loadPart' hl
    refine wpAny_stack_any fun st => wpAny_pure ?_
    split
    · rename_i c _ _ _ _ _
      cases (c == Value.type "enumerate")
      · wp_walk using wpAny_loadPart' hl, wpAny_pyIter_tuple hL
        exact ⟨_, rfl, h⟩
      · wp_walk using wpAny_loadPart' hl, wpAny_pyIter_tuple hL
        exact ⟨_, rfl, h⟩
    · wp_walk using wpAny_loadPart' hl, wpAny_pyIter_tuple hL
      exact ⟨_, rfl, h⟩
section
variable {prog : Program} {w : World} {A : Around} {E : Value → Shared → Prop} {s : Shared}
theorem call_enumT {l : Addr} {items : Array Value} {Q : Value → Shared → Prop} (hL : s.heap.IsTuple l items)
    (h : ∀ h', IsEnum h' (s.heap.objs.size + 1) s.heap.objs.size 0 .none → h'.IsTupleIter s.heap.objs.size l 0 → h'.objs.size = s.heap.objs.size + 2 →
      (∀ b o, s.heap.get? b = some o → h'.get? b = some o) → Q (.ref (s.heap.objs.size + 1)) { s with heap := h' }) :
    wpAny (model prog w) A (call (.type "enumerate") [.ref l]) Q E s := by
  obtain ⟨⟨c, dct, dt, sl⟩, hl, hc, n, hd⟩ := hL
  replace hc : c = .type "tuple" := hc
  replace hd : dt = .seq items n := hd
  subst hc hd
  refine callType_new F.called_enumerate (by decide) (F.typeCall_enumerate_1 _) (F.newCall_enumerate_1 _) (fun obj => F.args_object_init_2 obj _) F.entry_enumerate_new
    (meets_enumT l items n dct sl) ⟨hl, ?_⟩
  have hz : (s.heap.push { cls := .type "tuple_iterator", data := .fields #[.ref l, .int 0 0] }).objs.size = s.heap.objs.size + 1 := Heap.size_push ..
  show _ ∧ _
  rw [hz]
  have he : IsEnum ((s.heap.push { cls := .type "tuple_iterator", data := .fields #[.ref l, .int 0 0] }).push
      { cls := .type "enumerate", data := .fields #[.none, .bool false, .ref s.heap.objs.size, rawInt 0, .none, .none] }) (s.heap.objs.size + 1) s.heap.objs.size 0 .none := by
    have := Heap.get?_push_size (s.heap.push { cls := .type "tuple_iterator", data := .fields #[.ref l, .int 0 0] })
      (o := { cls := .type "enumerate", data := .fields #[.none, .bool false, .ref s.heap.objs.size, rawInt 0, .none, .none] }) rfl
    rw [hz] at this; exact this
  refine ⟨⟨_, he, rfl⟩, h _ he ⟨_, Heap.get?_push_of_some _ (Heap.get?_push_size _ rfl), rfl, rfl⟩ (by rw [Heap.size_push, hz]) fun b o x => Heap.get?_push_of_some _ (Heap.get?_push_of_some _ x)⟩
end
theorem drawsT {prog : Program} {w : World} {A : Around} (hh : A.handled = none) (it l : Addr) (hne : l ≠ it) (items : Array Value) :
    Draws prog w A it [it, l] items.size (fun i v => items[i]? = some v) (fun i h => h.IsTupleIter it l i ∧ h.IsTuple l items) where
  live := fun _ _ st => let ⟨o, ho, _⟩ := st.1; ⟨o, ho⟩
  frame := fun _ _ _ st hk => ⟨st.1.at fun o e => hk it (by simp) o e, let ⟨o, ho, r⟩ := st.2; ⟨o, hk l (by simp) o ho, r⟩⟩
  item := fun i s Q E hi st hQ => by
    refine RZ.nextOf_tuple_item st.1 st.2 (x := items[i]) (by simp [hi]) fun h' hit' hs' => ?_
    exact hQ _ h' s.toks (by simp [hi]) ⟨hit', let ⟨o, ho, r⟩ := st.2; ⟨o, (hs'.2 l hne).trans ho, r⟩⟩ hs'
  done := fun s Q E st hE => RZ.nextOf_tuple_end hh st.1 st.2 (by simp) hE
/-- the tuple at a as it stands at each turn, each item in a new pair -/
def IteT (K : PySem.W.Frag) (a : Addr) : It :=
  ⟨fun i H => ∃ (xs : List V) (x : V), SqT K H a xs ∧ xs[i]? = some x, fun i H v H' => ∃ T x, v = .ref T ∧ H T = none ∧ H' = upd H T (.tup [.int (i : Nat), x]) ∧ ∀ xs, SqT K H a xs → xs[i]? = some x, fun i H => ∃ xs : List V, SqT K H a xs ∧ xs.length = i⟩
theorem turn_enumT {P : Program} {w : World} {K : PySem.W.Frag} {elts : List Expr} {kk : Nat} {tpos : Pos} (a e it : Addr) :
    Turn P w K (.Tuple elts kk tpos) (IteT K a) [e, it] e (fun i h => (∃ old, IsEnum h e it ((i : Nat) : Int) old) ∧ h.IsTupleIter it a i ∧ e ≠ it ∧ a ≠ it ∧ a ≠ e) where
  mem := by simp
  obj := fun i h st b hb => by
    obtain ⟨⟨old, he⟩, ⟨o, ho, hc, hd⟩, _⟩ := st
    have e' : b = e ∨ b = it := by simpa using hb
    rcases e' with z | z
    · rw [z]; exact ⟨_, he, fun v q => nomatch q⟩
    · rw [z]; exact ⟨o, ho, fun v q => by rw [hd] at q; cases q⟩
  keep := fun i h h' st k => let ⟨⟨old, he⟩, hi, hne⟩ := st; ⟨⟨old, k e (by simp) _ he⟩, hi.at fun o q => k it (by simp) o q, hne⟩
  item := by
    intro X hP hw hK hc i pins s σ H E I hf st hg
    subst hP hw hK
    obtain ⟨⟨old, he⟩, hit, hne, hai, hae⟩ := st
    obtain ⟨xs, x, hq, hx⟩ := hg
    obtain ⟨its, rv, p, hz⟩ := I.tuple hq
    obtain ⟨u, hu, ru⟩ := rv.get hx
    have hel : e < s.heap.objs.size := Heap.lt_size he
    have hil : it < s.heap.objs.size := by obtain ⟨_, q, _⟩ := hit; exact Heap.lt_size q
    have hilen : i < its.toArray.size := by
      have := (List.getElem?_eq_some_iff.mp hu).1
      simpa using this
    have D := drawsT (prog := X.prog) (w := X.w) (A := X.A.in1) (I.ok.hd hc) it a hai its.toArray
    refine wpAny_pyNext_enum_itemD D he ⟨hit, p⟩ hilen hne (by simp [hne, Ne.symm hae]) fun x' h' tk hP' ho hit' hT hsz hk => ?_
    have ex : x' = u := by
      have h1 : its[i]? = some x' := by simpa using hP'
      rw [hu] at h1
      exact (Option.some.inj h1).symm
    subst ex
    refine ⟨_, rfl, wpAny_letOwnedTupleGo_enum (s := { s with heap := h', toks := tk + 1 }) ho fun h'' he' sb => ?_⟩
    have hT2 : h''.get? s.heap.objs.size = some { cls := .type "tuple", data := .seq #[.int i tk, x'] } := (sb.2 _ (Nat.ne_of_gt hel)).trans hT
    have new : ObjOk X.prog X.w (upd H s.heap.objs.size (.tup [.int (i : Nat), x])) h'' s.heap.objs.size (.tup [.int (i : Nat), x]) :=
      ⟨by show 2 ≤ sizeLine; decide, [.int i tk, x'], .cons ⟨_, rfl⟩ (.cons ru .nil), ⟨_, hT2, rfl, _, rfl⟩⟩
    have I1 : Inv X pins σ (upd H s.heap.objs.size (.tup [.int (i : Nat), x])) { s with heap := h'', toks := tk + 1 } :=
      I.turnedNew (ch := [e, it]) (fun b ob hb q => (sb.2 b (fun z => hb (by simp [z]))).trans (hk b ob (fun z => hb (by simp [z])) (fun z => hb (by simp [z])) q)) hf (Nat.le_refl _) new
    refine ⟨.ref s.heap.objs.size, _, I1, rfl, ⟨_, x, rfl, I.hok.fresh (Nat.le_refl _), rfl, fun ys hy => by rw [I.tuple_inj hy hq]; exact hx⟩, ⟨⟨x', ?_⟩, hit'.1.at fun o q => (sb.2 it (Ne.symm hne)).trans q, hne, hai, hae⟩, fun b hb => ?_⟩
    · have e1 : ((i + 1 : Nat) : Int) = (i : Int) + 1 := by omega
      rw [e1]; exact he'
    · have hb' : b < s.heap.objs.size := by
        have e' : b = e ∨ b = it := by simpa using hb
        rcases e' with z | z
        · rw [z]; exact hel
        · rw [z]; exact hil
      rw [upd_ne (Nat.ne_of_lt hb')]
      exact (hf b hb).1
  done := by
    intro X hP hw hK hc i pins s σ H E I hf st hg
    subst hP hw hK
    obtain ⟨⟨old, he⟩, hit, hne, hai, hae⟩ := st
    obtain ⟨xs, hq, hx⟩ := hg
    obtain ⟨its, rv, p, hz⟩ := I.tuple hq
    obtain ⟨f0, f1, f2, f3, f4, f5⟩ := hf it (by simp)
    have hl := rv.length
    have D := drawsT (prog := X.prog) (w := X.w) (A := X.A.in1) (I.ok.hd hc) it a hai its.toArray
    have hi : i = its.toArray.size := by simp; omega
    rw [hi] at hit
    exact wpAny_pyNext_enum_endD D he ⟨hit, p⟩ fun h' eb => ⟨rfl, I.turned (t' := s.toks) (fun b o hb q => eb b o hb q) f0 f1 f3 f4 f5⟩
  self := fun A i s Q E st h => let ⟨⟨_, he⟩, _⟩ := st; wpAny_pyIter_enum he h
def iEnumT (K : PySem.W.Frag) (ta : TA) : TI := fun σ H R => ta σ H fun vs H1 => ∃ a xs, vs = [.ref a] ∧ SqT K H1 a xs ∧ R (IteT K a) H1
theorem pi_enumT {X : Cx} {K : PySem.W.Frag} {e : Expr} {ta : TA} {p pos tpos : Pos} {elts : List Expr} {kk : Nat} (hK : X.K = K) (hg : Gl X "enumerate") (hm : X.mg "enumerate" = none) (ha : PA X [e] ta) (hs : starEach [e] X.env = [(false, eval e X.env)] := by rfl) :
    PI X (.Tuple elts kk tpos) (.Call (.Name "enumerate" p) [e] [] pos) (iEnumT K ta) := by
  subst hK
  refine ⟨fun pins s σ H R I h => ?_⟩
  refine Call_ (ld_blt I hg hm boot_enumerate (PyProof.Rows.callWith_type1 (thn (ha.run pos pins s σ H _ I h) fun us s1 ⟨vs, H1, I1, r1, q1⟩ => ?_) hs rfl))
  obtain ⟨a, xs, ex, hq, q⟩ := q1
  subst ex
  cases r1 with
  | cons r rr =>
    cases rr
    cases r
    obtain ⟨its, rv, p', hz⟩ := I1.tuple hq
    have hal : a < s1.heap.objs.size := by obtain ⟨o, ho, _⟩ := p'; exact Heap.lt_size ho
    refine call_enumT p' fun h' he hit hsz hk => wpAny_pyIter_enum he ?_
    have I2 : Inv X pins σ H1 { s1 with heap := h' } := I1.kept (t' := s1.toks) hk
    refine ⟨s1.heap.objs.size + 1, [s1.heap.objs.size + 1, s1.heap.objs.size], _, _, H1, rfl, I2, turn_enumT a (s1.heap.objs.size + 1) s1.heap.objs.size, ⟨⟨.none, he⟩, hit, Nat.succ_ne_self _, Nat.ne_of_lt hal, Nat.ne_of_lt (Nat.lt_succ_of_lt hal)⟩, fun b hb => ?_, q⟩
    have e' : b = s1.heap.objs.size + 1 ∨ b = s1.heap.objs.size := by simpa using hb
    have hle : s1.heap.objs.size ≤ b := by
      rcases e' with z | z
      · rw [z]; exact Nat.le_add_right _ _
      · rw [z]; exact Nat.le_refl _
    exact I1.fpOk hle (I1.hok.fresh hle)
/-- a for over enumerate(tuple): the invariant by the turn -/
theorem for_enumT {K : PySem.W.Frag} {a : Addr} {xs : List V} {i1 i2 : Nat} {tb : TS} {D : Ends} {σ : L2.St} {H : Hp} (Pv : Nat → L2.St → Hp → Prop) (h0 : Pv 0 σ H) (hl : ∀ i σ H, i ≤ xs.length → Pv i σ H → SqT K H a xs)
    (hs : ∀ i x σ H H', xs[i]? = some x → Pv i σ H → Same H H' → tb { D with nx := Pv (i + 1), ct := Pv (i + 1), bk := D.nx } ((σ.set i1 (some (.int (i : Nat)))).set i2 (some x)) H') (hd : ∀ σ H, Pv xs.length σ H → D.nx σ H) :
    ∃ W : Nat → Nat → L2.St → Hp → Prop, (∃ m, W 0 m σ H) ∧ ∀ i m σ H, W i m σ H →
      ((IteT K a).stop i H ∧ D.nx σ H) ∨ ((IteT K a).go i H ∧ ∃ N : L2.St → Hp → Prop, (∀ σ' H', N σ' H' → ∃ m', m' < m ∧ W (i + 1) m' σ' H') ∧ ∀ x H', (IteT K a).yld i H x H' →
        gTup K 2 (gCons (gName i1) (gCons (gName i2) gNil)) x σ H' fun σ2 H2 => tb { D with nx := N, ct := N, bk := D.nx } σ2 H2) := by
  refine ⟨fun i m σ H => m = xs.length - i ∧ i ≤ xs.length ∧ Pv i σ H, ⟨xs.length, by simp, Nat.zero_le _, h0⟩, ?_⟩
  rintro i m σ H ⟨rfl, hi, p⟩
  have hq := hl i σ H hi p
  by_cases hlt : i < xs.length
  · refine .inr ⟨⟨xs, xs[i], hq, List.getElem?_eq_getElem hlt⟩, Pv (i + 1), fun σ' H' p' => ⟨xs.length - (i + 1), by omega, rfl, hlt, p'⟩, fun x H' y => ?_⟩
    obtain ⟨T, z, rfl, hT, rfl, hz⟩ := y
    exact ⟨T, _, rfl, SqT.of upd_same, rfl, _, _, rfl, _, _, rfl, rfl, hs i z σ H _ (hz xs hq) p (same_new hT _)⟩
  · have e : i = xs.length := by omega
    subst e
    exact .inl ⟨⟨xs, hq, rfl⟩, hd σ H p⟩
end TG


set_option Elab.async false
set_option linter.all false
set_option maxRecDepth 100000
set_option maxHeartbeats 4000000
namespace TG
open PySem L2
/-! ### further steps into a reading -/
section
variable {σ : L2.St} {H : Hp} {D : Ends} {te : TE} {tt tu : TT} {Q : Bool → Hp → Prop}
theorem go_next (h : D.nx σ H) : tNext D σ H := h
theorem go_or (h : tt σ H fun c H1 => if c = true then Q true H1 else tu σ H1 Q) : tOr tt tu σ H Q := h
theorem go_and (h : tt σ H fun c H1 => if c = true then tu σ H1 Q else Q false H1) : tAnd tt tu σ H Q := h
theorem go_not (h : tt σ H fun c H1 => Q (!c) H1) : tNot tt σ H Q := h
theorem go_B (h : te σ H fun x H1 => ∃ c, x = .bl c ∧ Q c H1) : tB te σ H Q := h
theorem go_test (h : te σ H fun x H1 => ∃ c, x = .bl c ∧ Q c H1) : tTest te σ H Q := h
end
/-! ### more rules with the written part named -/
section
variable {X : Cx} {K : PySem.W.Frag}
theorem op_catAK (hK : X.K = K) : OpR X (binaryOp .Add) (rCatA K) := by subst hK; exact op_catA
theorem sl_tupAK (hK : X.K = K) : SlR X (rSlA K) := by subst hK; exact sl_tupA
/-- the type's name of a value: plain ones, tuples, lists -/
def TyN (K : PySem.W.Frag) (H : Hp) (x : V) (t : String) : Prop :=
  sTy x = some t ∨ (t = "tuple" ∧ ∃ a ys, x = .ref a ∧ SqT K H a ys) ∨ (t = "list" ∧ ∃ a ys, x = .ref a ∧ H a = some (.lst ys)) ∨ (t = "dict" ∧ ∃ a kvs, x = .ref a ∧ H a = some (.dK kvs))
theorem TyN.x {H : Hp} {x : V} {t : String} (h : TyN K H x t) : TyX K H x (.type t) := by
  rcases h with h | ⟨rfl, a, ys, rfl, (h | ⟨o, h⟩) | ⟨o, its, n, h, hc, _⟩⟩ | ⟨rfl, a, ys, rfl, h⟩ | ⟨rfl, a, kvs, rfl, h⟩
  · cases x with
    | non => cases h; exact .base .non
    | bl b => cases h; exact .base (.bl b)
    | int i => cases h; exact .base (.int i)
    | str z => cases h; exact .base (.str z)
    | _ => cases h
  · exact .base (.tup h)
  · exact .fTuple h
  · exact .kTuple h hc
  · exact .base (.lst h)
  · exact .base (.dK h)
def rIsiG (K : PySem.W.Frag) : List V → Hp → VK → Prop := fun xs H Q => ∃ x c t b, xs = [x, .ty c] ∧ TyN K H x t ∧ kitB t c = some b ∧ Q (.bl b) H
theorem call_isiG (hK : X.K = K) : CallR X (.builtin "isinstance") (rIsiG K) := by
  subst hK
  intro pins s σ H xs us Q I r h
  obtain ⟨x, c, t, b, rfl, ht, hk, q⟩ := h
  exact call_isi pins s σ H _ us Q I r ⟨x, .ty c, .type t, .type c, b, rfl, .ty c, ht.x, kit_ty hk, q⟩
end
theorem kit_tuple_tuple : kitB "tuple" "tuple" = some true := by decide +kernel
theorem kit_tuple_int : kitB "tuple" "int" = some false := by decide +kernel
theorem kit_bool_bool : kitB "bool" "bool" = some true := by decide +kernel
theorem kit_bool_int : kitB "bool" "int" = some true := by decide +kernel
theorem TyN.int {K : PySem.W.Frag} {H : Hp} {n : Int} : TyN K H (.int n) "int" := .inl rfl
theorem TyN.bl {K : PySem.W.Frag} {H : Hp} {b : Bool} : TyN K H (.bl b) "bool" := .inl rfl
theorem TyN.tup {K : PySem.W.Frag} {H : Hp} {a : Addr} {ys : List V} (h : SqT K H a ys) : TyN K H (.ref a) "tuple" := .inr (.inl ⟨rfl, a, ys, rfl, h⟩)
theorem sqT {K : PySem.W.Frag} {H H' : Hp} {a : Addr} {xs : List V} (e : Same H H') (h : SqT K H a xs) : SqT K H' a xs := Evl.ex_t e h
theorem sqL {K : PySem.W.Frag} {H H' : Hp} {a : Addr} {xs : List V} (e : Same H H') (h : SqL K H a xs) : SqL K H' a xs := Evl.ex_l e h
/-! ### the row of draws, the script named -/
def RowA (K : PySem.W.Frag) (a : Addr) (ns : List Int) (H : Hp) (r : Addr) : Prop :=
  ∃ (i s t : Int), H r = some (.lst [.ref a, .int i, .int s, .int t]) ∧ SqL K (hide H r) a (ns.map V.int) ∧ ns.length ≤ 63 ∧ 0 ≤ i
section
variable {K : PySem.W.Frag} {a : Addr} {ns : List Int} {H H' : Hp} {r D : Addr}
theorem RowA.more (h : RowA K a ns H r) (s : Same H H') : RowA K a ns H' r := by
  obtain ⟨i, z, t, h1, h2, h3, h4⟩ := h
  exact ⟨i, z, t, s _ _ h1, (Off.hide (Off.of s)).seq h2, h3, h4⟩
theorem RowA.there (h : RowA K a ns H r) : ∃ xs, H r = some (.lst xs) := by
  obtain ⟨i, z, t, h1, _⟩ := h
  exact ⟨_, h1⟩
theorem RowA.make {s : Int} (hr : H r = none) (h : SqL K H a (ns.map V.int)) (hl : ns.length ≤ 63) : RowA K a ns (upd H r (.lst [.ref a, .int 0, .int s, .int 0])) r :=
  ⟨0, s, 0, upd_same, by
    rw [hide_upd]
    refine Same.seq (fun b o e => ?_) h
    unfold hide
    rw [if_neg (ne_of_none e hr)]
    exact e, hl, Int.le_refl 0⟩
/-- D is not where the script stands -/
def Safe (K : PySem.W.Frag) (a : Addr) (ns : List Int) (D : Addr) : Prop := a ≠ D ∨ ∀ H, SqL K H a (ns.map V.int)
theorem RowA.safe (h : RowA K a ns H r) (hD : H D = none) : Safe K a ns D := by
  obtain ⟨i, z, t, h1, h2, h3, h4⟩ := h
  rcases h2 with (h2 | ⟨x, h2⟩) | h2
  · exact .inl (ne_of_none (hide_same a _ h2) hD)
  · exact .inl (ne_of_none (hide_same a _ h2) hD)
  · exact .inr fun H => .inr h2
/-- all but D is kept -/
theorem RowA.off (h : RowA K a ns H r) (hr : r ≠ D) (hs : Safe K a ns D) (o : Off D H H') : RowA K a ns H' r := by
  obtain ⟨i, z, t, h1, h2, h3, h4⟩ := h
  refine ⟨i, z, t, o _ _ hr h1, ?_, h3, h4⟩
  rcases hs with hs | hs
  · have key : ∀ v, hide H r a = some v → hide H' r a = some v := fun v e => by
      unfold hide at e ⊢
      by_cases har : a = r
      · rw [if_pos har] at e
        cases e
      · rw [if_neg har] at e ⊢
        exact o a v hs e
    rcases h2 with (h2 | ⟨x, h2⟩) | h2
    · exact .inl (.inl (key _ h2))
    · exact .inl (.inr ⟨x, key _ h2⟩)
    · exact .inr h2
  · exact hs _
theorem RowA.upd {o : HO} (h : RowA K a ns H r) (hr : r ≠ D) (hs : Safe K a ns D) : RowA K a ns (upd H D o) r := h.off hr hs Off.upd
end
/-- a tuple stands while the row turns -/
theorem sqT_row {K : PySem.W.Frag} {H H' : Hp} {p r : Addr} {xs ys : List V} (h : SqT K H p xs) (hr : H r = some (.lst ys)) (ho : ∀ b, b ≠ r → H' b = H b) : SqT K H' p xs := by
  have key : ∀ u, H p = some u → (∀ zs, u ≠ .lst zs) → H' p = some u := fun u e hu => by
    rw [ho p (fun c => by rw [c, hr] at e; exact hu _ (Option.some.inj e).symm)]
    exact e
  rcases h with (h | ⟨o, h⟩) | h
  · exact .inl (.inl (key _ h (fun _ z => by cases z)))
  · exact .inl (.inr ⟨o, key _ h (fun _ z => by cases z)⟩)
  · exact .inr h
/-- a draw: some number below m; the row turns, all else stands -/
def spTk (K : PySem.W.Frag) : Sp := fun vs H Q _ => ∃ (r a : Addr) (ns : List Int) (m : Int), vs = [.ref r, .int m] ∧ RowA K a ns H r ∧ (0 < m ∧ m < 1073741824) ∧
  ∀ (d : Int) (H' : Hp), 0 ≤ d → d < m → RowA K a ns H' r → (∀ b, b ≠ r → H' b = H b) → Q (.int d) H'
/-- one of some things -/
def spPk (K : PySem.W.Frag) : Sp := fun vs H Q _ => ∃ (r a p : Addr) (ns : List Int) (xs : List V), vs = [.ref r, .ref p] ∧ RowA K a ns H r ∧ H p = some (.lst xs) ∧ p ≠ r ∧ (0 < xs.length ∧ xs.length < 1000) ∧
  ∀ (v : V) (H' : Hp), v ∈ xs → RowA K a ns H' r → (∀ b, b ≠ r → H' b = H b) → Q v H'
/-! ### a comprehension over range(a, b) -/
theorem el_lcR2 {σ : L2.St} {H : Hp} {t : TT} {te : TE} {ta : TA} {j : Nat} {vs : List Nat} {lo hi : Int} (f : Nat → Bool) (v : Nat → V) (h : Evl.EvA ta σ H [.int lo, .int hi]) (hn : -100000 ≤ lo ∧ lo ≤ 100000 ∧ -100000 ≤ hi ∧ hi ≤ 100000 ∧ hi - lo ≤ 40000) (hw : ∀ x, wipe ((wipe σ vs).set j (some x)) vs = wipe σ vs)
    (ht : ∀ (i : Nat) H1, Evl.Ex H H1 → lo + (i : Int) < hi → Evl.EvT t ((wipe σ vs).set j (some (.int (lo + (i : Int))))) H1 (f i)) (he : ∀ (i : Nat) H1, Evl.Ex H H1 → lo + (i : Int) < hi → f i = true → Evl.Ev te ((wipe σ vs).set j (some (.int (lo + (i : Int))))) H1 (v i)) :
    Evl.EvL (tLc (iRng2 ta) (gName j) t te vs) σ H (Evl.given (hi - lo).toNat f v) := fun H0 e Q q => h H0 e _ fun H1 e1 => ⟨lo, hi, rfl, ⟨by omega, by omega, by omega, by omega⟩, fun Dl hD =>
  lc_range (lo := lo) (n := (hi - lo).toNat) (Evl.Cw H1 f v Dl) ⟨hD, Evl.Ex.new hD, upd_same⟩ (fun i H' hi' p =>
    ⟨hw _, Evl.cw_turn p (by omega) (ht i H1 (e.trans e1) (by omega)) (fun hf => he i H1 (e.trans e1) (by omega) hf)⟩) (fun H' p => q Dl H' (Evl.fresh_back e1 p.1) (e1.trans p.2.1) p.2.2)⟩
/-- over a tuple -/
theorem el_lcT {K : PySem.W.Frag} {σ : L2.St} {H : Hp} {t : TT} {te : TE} {a : Addr} {xs : List V} {tl : TE} {j : Nat} {vs : List Nat} (f : Nat → Bool) (v : Nat → V) (h : Evl.Ev tl σ H (.ref a)) (hx : SqT K H a xs) (hz : xs.length ≤ 40000) (hw : ∀ x, wipe ((wipe σ vs).set j (some x)) vs = wipe σ vs)
    (ht : ∀ (i : Nat) (x : V) H1, Evl.Ex H H1 → xs[i]? = some x → Evl.EvT t ((wipe σ vs).set j (some x)) H1 (f i)) (he : ∀ (i : Nat) (x : V) H1, Evl.Ex H H1 → xs[i]? = some x → f i = true → Evl.Ev te ((wipe σ vs).set j (some x)) H1 (v i)) :
    Evl.EvL (tLc (iTup K tl) (gName j) t te vs) σ H (Evl.given xs.length f v) := fun H0 e Q q => h H0 e _ fun H1 e1 => ⟨a, rfl, ⟨xs, Evl.ex_t (e.trans e1) hx⟩, fun Dl hD =>
  lc_tup (xs := xs) (Evl.Cw H1 f v Dl) ⟨hD, Evl.Ex.new hD, upd_same⟩ (fun i H' _ p => Evl.ex_t ((e.trans e1).trans p.2.1) hx) (fun i x H' hi p => ⟨hw x, Evl.cw_turn p (by have := (List.getElem?_eq_some_iff.mp hi).1; omega) (ht i x H1 (e.trans e1) hi) (fun hf => he i x H1 (e.trans e1) hi hf)⟩)
    (fun H' p => q Dl H' (Evl.fresh_back e1 p.1) (e1.trans p.2.1) p.2.2)⟩
theorem given_all (n : Nat) (v : Nat → V) : Evl.given n (fun _ => true) v = (List.range n).map v := by
  unfold Evl.given
  rw [List.filter_eq_self.mpr (fun _ _ => rfl)]
/-! ### the least that is missing -/
def miss (ns : List Int) : List Nat := (List.range (ns.length + 1)).filter fun k => !decide ((k : Int) ∈ ns)
theorem miss_ne (ns : List Int) : miss ns ≠ [] := by
  intro h
  have h1 : ∀ k ∈ List.range (ns.length + 1), ((k : Int)) ∈ ns := fun k hk => by
    have := List.filter_eq_nil_iff.mp h k hk
    simpa using this
  have h2 := nodup_le (l := (List.range (ns.length + 1)).map fun k : Nat => (k : Int)) (m := ns) (nodup_cast _) (fun x hx => by
    obtain ⟨k, hk, rfl⟩ := List.mem_map.mp hx
    exact h1 k hk)
  rw [List.length_map, List.length_range] at h2
  omega
def mexL (ns : List Int) : Nat := (miss ns).headD 0
theorem below_len {ns : List Int} {m : Nat} (h2 : ∀ j : Nat, j < m → ((j : Int)) ∈ ns) : m ≤ ns.length := by
  have h3 := nodup_le (l := (List.range m).map fun k : Nat => (k : Int)) (m := ns) (nodup_cast _) (fun x hx => by
    obtain ⟨k, hk, rfl⟩ := List.mem_map.mp hx
    exact h2 k (List.mem_range.mp hk))
  rw [List.length_map, List.length_range] at h3
  exact h3
theorem mexL_of {ns : List Int} {m : Nat} (h1 : ((m : Int)) ∉ ns) (h2 : ∀ j : Nat, j < m → ((j : Int)) ∈ ns) : mexL ns = m := by
  have hm : m ∈ miss ns := by
    refine List.mem_filter.mpr ⟨List.mem_range.mpr ?_, by simpa using h1⟩
    have := below_len h2
    omega
  have hs : (miss ns).Pairwise (· < ·) := List.Pairwise.filter _ List.pairwise_lt_range
  have hin : ∀ j ∈ miss ns, ¬ j < m := fun j hj hlt => by
    have := (List.mem_filter.mp hj).2
    simp [h2 j hlt] at this
  unfold mexL
  cases e : miss ns with
  | nil => exact absurd e (miss_ne ns)
  | cons x r =>
    rw [e] at hm hs hin
    have h3 := hin x List.mem_cons_self
    have : x = m := by
      rcases List.mem_cons.mp hm with h | h
      · exact h.symm
      · have := (List.pairwise_cons.mp hs).1 m h
        omega
    simp [this]
theorem mexL_spec (ns : List Int) : ((mexL ns : Nat) : Int) ∉ ns ∧ ∀ j : Nat, j < mexL ns → ((j : Int)) ∈ ns := by
  have hs : (miss ns).Pairwise (· < ·) := List.Pairwise.filter _ List.pairwise_lt_range
  unfold mexL
  cases e : miss ns with
  | nil => exact absurd e (miss_ne ns)
  | cons x r =>
    have hx : x ∈ miss ns := by rw [e]; exact List.mem_cons_self
    obtain ⟨h1, h2⟩ := List.mem_filter.mp hx
    refine ⟨by simpa using h2, fun j hj => ?_⟩
    show ((j : Int)) ∈ ns
    have hj' : j < x := hj
    have hjr : j ∈ List.range (ns.length + 1) := List.mem_range.mpr (by have := List.mem_range.mp h1; omega)
    by_cases c : ((j : Int)) ∈ ns
    · exact c
    · have hm : j ∈ miss ns := List.mem_filter.mpr ⟨hjr, by simpa using c⟩
      rw [e] at hm hs
      rcases List.mem_cons.mp hm with h | h
      · omega
      · have := (List.pairwise_cons.mp hs).1 j h
        omega
theorem mexL_congr {xs ys : List Int} (h : ∀ t, t ∈ xs ↔ t ∈ ys) : mexL xs = mexL ys := by
  obtain ⟨h1, h2⟩ := mexL_spec ys
  exact mexL_of (fun q => h1 ((h _).mp q)) (fun j hj => (h _).mpr (h2 j hj))
/-! ### dicts -/
theorem put_fst {κ : Type} [DecidableEq κ] (kvs : List (κ × V)) (k : κ) (v : V) : (putK kvs k v).map (·.1) = if k ∈ kvs.map (·.1) then kvs.map (·.1) else kvs.map (·.1) ++ [k] := by
  unfold putK
  by_cases h : k ∈ kvs.map (·.1)
  · rw [if_pos h, if_pos]
    · rw [List.map_map]
      refine List.map_congr_left fun p _ => ?_
      show (if p.1 = k then (p.1, v) else p).1 = p.1
      by_cases hp : p.1 = k
      · rw [if_pos hp]
      · rw [if_neg hp]
    · obtain ⟨p, hp, e⟩ := List.mem_map.mp h
      exact List.any_eq_true.mpr ⟨p, hp, decide_eq_true e⟩
  · rw [if_neg h, if_neg]
    · rw [List.map_append]
      rfl
    · intro q
      obtain ⟨p, hp, e⟩ := List.any_eq_true.mp q
      exact h (List.mem_map.mpr ⟨p, hp, of_decide_eq_true e⟩)
theorem val_none {κ : Type} [DecidableEq κ] {kvs : List (κ × V)} {k : κ} (h : valV kvs k = none) : k ∉ kvs.map (·.1) := by
  intro q
  obtain ⟨p, hp, e⟩ := List.mem_map.mp q
  unfold valV at h
  rw [Option.map_eq_none_iff, List.find?_eq_none] at h
  exact h p hp (decide_eq_true e)
theorem val_some {κ : Type} [DecidableEq κ] {kvs : List (κ × V)} {k : κ} : (valV kvs k).isSome = decide (k ∈ kvs.map (·.1)) := by
  cases e : valV kvs k with
  | none => rw [decide_eq_false (val_none e)]; rfl
  | some v =>
    have : k ∈ kvs.map (·.1) := by
      unfold valV at e
      cases e2 : kvs.find? (fun kv => decide (kv.1 = k)) with
      | none => rw [e2] at e; cases e
      | some p =>
        have h1 := List.mem_of_find?_eq_some e2
        have h2 : p.1 = k := by have := List.find?_some e2; simpa using this
        exact List.mem_map.mpr ⟨p, h1, h2⟩
    rw [decide_eq_true this]
    rfl
/-- a dict with int keys: which keys there are -/
structure Keys (ks : List (Key × V)) (xs : List Int) : Prop where
  ex : ∃ ns : List Int, ks.map (·.1) = ns.map Sum.inl ∧ ns.Nodup ∧ ∀ t, t ∈ ns ↔ t ∈ xs
theorem Keys.nil : Keys [] [] := ⟨[], rfl, List.nodup_nil, fun t => Iff.rfl⟩
theorem Keys.has {ks : List (Key × V)} {xs : List Int} (h : Keys ks xs) (t : Int) : (valV ks (Sum.inl t)).isSome = decide (t ∈ xs) := by
  obtain ⟨ns, e, _, hm⟩ := h.ex
  rw [val_some, e]
  have : (Sum.inl t : Key) ∈ ns.map Sum.inl ↔ t ∈ xs := by
    rw [← hm t]
    constructor
    · intro q
      obtain ⟨y, hy, ey⟩ := List.mem_map.mp q
      rw [← Sum.inl.inj ey]
      exact hy
    · intro q
      exact List.mem_map.mpr ⟨t, q, rfl⟩
  exact decide_eq_decide.mpr this
theorem Keys.put {ks : List (Key × V)} {xs : List Int} (h : Keys ks xs) (t : Int) (v : V) : Keys (putK ks (Sum.inl t) v) (xs ++ [t]) := by
  obtain ⟨ns, e, nd, hm⟩ := h.ex
  have hi : (Sum.inl t : Key) ∈ ns.map Sum.inl ↔ t ∈ ns := by
    constructor
    · intro q
      obtain ⟨y, hy, ey⟩ := List.mem_map.mp q
      rw [← Sum.inl.inj ey]
      exact hy
    · intro q
      exact List.mem_map.mpr ⟨t, q, rfl⟩
  refine ⟨if t ∈ ns then ns else ns ++ [t], ?_, ?_, fun x => ?_⟩
  · rw [put_fst, e]
    by_cases c : t ∈ ns
    · rw [if_pos (hi.mpr c), if_pos c]
    · rw [if_neg (fun z => c (hi.mp z)), if_neg c, List.map_append]
      rfl
  · by_cases c : t ∈ ns
    · rw [if_pos c]
      exact nd
    · rw [if_neg c]
      refine List.nodup_append.mpr ⟨nd, by simp, ?_⟩
      intro x hx y hy e
      rw [List.mem_singleton] at hy
      exact c (by rw [← hy, ← e]; exact hx)
  · rw [List.mem_append, List.mem_singleton, ← hm x]
    by_cases c : t ∈ ns
    · rw [if_pos c]
      constructor
      · exact .inl
      · rintro (z | z)
        · exact z
        · rw [z]
          exact c
    · rw [if_neg c, List.mem_append, List.mem_singleton]
theorem Keys.len {ks : List (Key × V)} {xs : List Int} (h : Keys ks xs) : ks.length ≤ xs.length := by
  obtain ⟨ns, e, nd, hm⟩ := h.ex
  have h1 := nodup_le (m := xs) nd fun x hx => (hm x).mp hx
  have h2 := congrArg List.length e
  rw [List.length_map, List.length_map] at h2
  omega
end TG


set_option linter.all false
namespace Hp
/-! values of heaps by a rule -/
abbrev ge (f : List Nat) (i : Nat) : Nat := f.getD i 0
/-- what a digit gives for a heap of f.length counters -/
def optAt (f : List Nat) (i d : Nat) : List Nat :=
  (if f.length = i + 1 ∧ d % 2 = 1 then [0] else []) ++ (if i + 1 < f.length ∧ d / 2 % 2 = 1 then [ge f (f.length - i - 1)] else []) ++
  (if 4 ≤ d then (List.range ((f.length - i - 1) / 2)).map fun p => ge f (p + 1) ^^^ ge f (f.length - i - 1 - (p + 1)) else [])
def optU (ds f : List Nat) (i : Nat) : List Nat := (List.range i).flatMap fun j => optAt f j (ge ds j)
/-- mex of naturals, specified -/
structure Mex (xs : List Nat) (m : Nat) : Prop where
  no : m ∉ xs
  yes : ∀ j, j < m → j ∈ xs
theorem Mex.uniq {xs ys : List Nat} {m n : Nat} (h : ∀ t, t ∈ xs ↔ t ∈ ys) (a : Mex xs m) (b : Mex ys n) : m = n := by
  rcases Nat.lt_trichotomy m n with c | c | c
  · exact absurd ((h m).mpr (b.yes m c)) a.no
  · exact c
  · exact absurd ((h n).mp (a.yes n c)) b.no
variable (mex : List Nat → Nat) (hmex : ∀ xs, Mex xs (mex xs))
def nextV (ds f : List Nat) : Nat := mex (optU ds f ds.length)
def vals (ds : List Nat) : Nat → List Nat
  | 0 => [0]
  | n + 1 => vals ds n ++ [nextV mex ds (vals ds n)]
theorem vals_len (ds : List Nat) : ∀ n, (vals mex ds n).length = n + 1
  | 0 => rfl
  | n + 1 => by rw [vals, List.length_append, vals_len ds n]; rfl
def g (ds : List Nat) (n : Nat) : Nat := ge (vals mex ds n) n
theorem ge_app {f : List Nat} {x i : Nat} (h : i < f.length) : ge (f ++ [x]) i = ge f i := by
  unfold ge
  simp only [List.getD_eq_getElem?_getD, List.getElem?_append_left h]
theorem vals_get (ds : List Nat) : ∀ n i, i ≤ n → ge (vals mex ds n) i = g mex ds i
  | 0, i, h => by
    have : i = 0 := by omega
    subst this
    rfl
  | n + 1, i, h => by
    by_cases c : i = n + 1
    · subst c
      rfl
    · rw [vals, ge_app (by rw [vals_len]; omega)]
      exact vals_get ds n i (by omega)
theorem g_succ (ds : List Nat) (n : Nat) : g mex ds (n + 1) = nextV mex ds (vals mex ds n) := by
  unfold g
  rw [vals]
  unfold ge
  simp [List.getD_eq_getElem?_getD, vals_len]
/-- the values behind a move in a heap of n -/
def Opt (ds : List Nat) (n x : Nat) : Prop := ∃ i, i < ds.length ∧ ((n = i + 1 ∧ ge ds i % 2 = 1 ∧ x = 0) ∨ (i + 1 < n ∧ ge ds i / 2 % 2 = 1 ∧ x = g mex ds (n - i - 1)) ∨
  (4 ≤ ge ds i ∧ ∃ a b, 1 ≤ a ∧ 1 ≤ b ∧ a + b + i + 1 = n ∧ x = g mex ds a ^^^ g mex ds b))
theorem mem_optAt (ds : List Nat) (n i d x : Nat) : x ∈ optAt (vals mex ds n) i d ↔ ((n + 1 = i + 1 ∧ d % 2 = 1 ∧ x = 0) ∨ (i + 1 < n + 1 ∧ d / 2 % 2 = 1 ∧ x = g mex ds (n + 1 - i - 1)) ∨
    (4 ≤ d ∧ ∃ a b, 1 ≤ a ∧ 1 ≤ b ∧ a + b + i + 1 = n + 1 ∧ x = g mex ds a ^^^ g mex ds b)) := by
  unfold optAt
  rw [vals_len, List.mem_append, List.mem_append, or_assoc]
  have e1 : (x ∈ (if n + 1 = i + 1 ∧ d % 2 = 1 then [0] else [])) ↔ (n + 1 = i + 1 ∧ d % 2 = 1 ∧ x = 0) := by
    by_cases c : n + 1 = i + 1 ∧ d % 2 = 1
    · rw [if_pos c, List.mem_singleton]
      exact ⟨fun h => ⟨c.1, c.2, h⟩, fun h => h.2.2⟩
    · rw [if_neg c]
      exact ⟨fun h => (List.not_mem_nil h).elim, fun h => (c ⟨h.1, h.2.1⟩).elim⟩
  have e2 : (x ∈ (if i + 1 < n + 1 ∧ d / 2 % 2 = 1 then [ge (vals mex ds n) (n + 1 - i - 1)] else [])) ↔ (i + 1 < n + 1 ∧ d / 2 % 2 = 1 ∧ x = g mex ds (n + 1 - i - 1)) := by
    by_cases c : i + 1 < n + 1 ∧ d / 2 % 2 = 1
    · rw [if_pos c, List.mem_singleton, vals_get mex ds n _ (by omega)]
      exact ⟨fun h => ⟨c.1, c.2, h⟩, fun h => h.2.2⟩
    · rw [if_neg c]
      exact ⟨fun h => (List.not_mem_nil h).elim, fun h => (c ⟨h.1, h.2.1⟩).elim⟩
  have e3 : (x ∈ (if 4 ≤ d then (List.range ((n + 1 - i - 1) / 2)).map (fun p => ge (vals mex ds n) (p + 1) ^^^ ge (vals mex ds n) (n + 1 - i - 1 - (p + 1))) else [])) ↔
      (4 ≤ d ∧ ∃ a b, 1 ≤ a ∧ 1 ≤ b ∧ a + b + i + 1 = n + 1 ∧ x = g mex ds a ^^^ g mex ds b) := by
    by_cases c : 4 ≤ d
    · rw [if_pos c, List.mem_map]
      constructor
      · rintro ⟨p, hp, rfl⟩
        have hp' := List.mem_range.mp hp
        refine ⟨c, p + 1, n + 1 - i - 1 - (p + 1), by omega, by omega, by omega, ?_⟩
        rw [vals_get mex ds n _ (by omega), vals_get mex ds n _ (by omega)]
      · rintro ⟨_, a, b, ha, hb, hab, rfl⟩
        by_cases hle : a ≤ b
        · refine ⟨a - 1, List.mem_range.mpr (by omega), ?_⟩
          rw [vals_get mex ds n _ (by omega), vals_get mex ds n _ (by omega), show a - 1 + 1 = a by omega, show n + 1 - i - 1 - a = b by omega]
        · refine ⟨b - 1, List.mem_range.mpr (by omega), ?_⟩
          rw [vals_get mex ds n _ (by omega), vals_get mex ds n _ (by omega), show b - 1 + 1 = b by omega, show n + 1 - i - 1 - b = a by omega, Nat.xor_comm]
    · rw [if_neg c]
      exact ⟨fun h => (List.not_mem_nil h).elim, fun h => (c h.1).elim⟩
  rw [e1, e2, e3]
theorem mem_optU (ds : List Nat) (n x : Nat) : x ∈ optU ds (vals mex ds n) ds.length ↔ Opt mex ds (n + 1) x := by
  unfold optU Opt
  rw [List.mem_flatMap]
  constructor
  · rintro ⟨i, hi, h⟩
    exact ⟨i, List.mem_range.mp hi, (mem_optAt mex ds n i _ x).mp h⟩
  · rintro ⟨i, hi, h⟩
    exact ⟨i, List.mem_range.mpr hi, (mem_optAt mex ds n i _ x).mpr h⟩
/-- equal option sets, equal values -/
theorem g_eq (hmex : ∀ xs, Mex xs (mex xs)) (ds : List Nat) {m n : Nat} (hm : 0 < m) (hn : 0 < n) (h : ∀ x, Opt mex ds m x ↔ Opt mex ds n x) : g mex ds m = g mex ds n := by
  obtain ⟨m, rfl⟩ : ∃ k, m = k + 1 := ⟨m - 1, by omega⟩
  obtain ⟨n, rfl⟩ : ∃ k, n = k + 1 := ⟨n - 1, by omega⟩
  rw [g_succ, g_succ]
  exact Mex.uniq (fun t => by rw [mem_optU, mem_optU]; exact h t) (hmex _) (hmex _)
/-! ### periods -/
def Match (ds : List Nat) (l n : Nat) : Prop := g mex ds n = g mex ds (n + l)
/-- a period that holds far enough holds for ever -/
theorem period (hmex : ∀ xs, Mex xs (mex xs)) (ds : List Nat) {s l : Nat} (hl : 1 ≤ l) (h : ∀ n, s ≤ n → n ≤ 2 * s + 2 * l + ds.length → Match mex ds l n) : ∀ n, s ≤ n → Match mex ds l n := by
  intro n
  induction n using Nat.strongRecOn with
  | _ n ih =>
    intro hs
    by_cases c : n ≤ 2 * s + 2 * l + ds.length
    · exact h n hs c
    · unfold Match
      refine g_eq mex hmex ds (by omega) (by omega) fun x => ?_
      constructor
      · rintro ⟨i, hi, h⟩
        refine ⟨i, hi, ?_⟩
        rcases h with ⟨e, _⟩ | ⟨e, hd, hx⟩ | ⟨hd, a, b, ha, hb, hab, hx⟩
        · omega
        · refine .inr (.inl ⟨by omega, hd, ?_⟩)
          have := ih (n - i - 1) (by omega) (by omega)
          unfold Match at this
          rw [hx, this, show n - i - 1 + l = n + l - i - 1 by omega]
        · refine .inr (.inr ⟨hd, ?_⟩)
          by_cases hle : a ≤ b
          · refine ⟨a, b + l, ha, by omega, by omega, ?_⟩
            have := ih b (by omega) (by omega)
            unfold Match at this
            rw [hx, this]
          · refine ⟨a + l, b, by omega, hb, by omega, ?_⟩
            have := ih a (by omega) (by omega)
            unfold Match at this
            rw [hx, this]
      · rintro ⟨i, hi, h⟩
        refine ⟨i, hi, ?_⟩
        rcases h with ⟨e, _⟩ | ⟨e, hd, hx⟩ | ⟨hd, a, b, ha, hb, hab, hx⟩
        · omega
        · refine .inr (.inl ⟨by omega, hd, ?_⟩)
          have := ih (n - i - 1) (by omega) (by omega)
          unfold Match at this
          rw [hx, this, show n - i - 1 + l = n + l - i - 1 by omega]
        · refine .inr (.inr ⟨hd, ?_⟩)
          by_cases hle : a ≤ b
          · refine ⟨a, b - l, ha, by omega, by omega, ?_⟩
            have := ih (b - l) (by omega) (by omega)
            unfold Match at this
            rw [hx, this, show b - l + l = b by omega]
          · refine ⟨a - l, b, by omega, hb, by omega, ?_⟩
            have := ih (a - l) (by omega) (by omega)
            unfold Match at this
            rw [hx, this, show a - l + l = a by omega]
end Hp


set_option Elab.async false
set_option linter.all false
set_option maxRecDepth 100000
set_option maxHeartbeats 4000000
namespace K56
open PySem L2 TG
def top (i : Nat) : Stmt := PySem.Challenge.pw_thermogames_k56_whole_first_periods.main.body.getD i (.Pass ⟨0, 0, 0, 0⟩)
abbrev s_is_int : Stmt := top 6
abbrev s_is_in : Stmt := top 7
abbrev s_need_number : Stmt := top 8
abbrev s_least_missing : Stmt := top 10
abbrev s_need_rule : Stmt := top 16
abbrev s_value_after : Stmt := top 17
abbrev s_values_to : Stmt := top 18
abbrev s_heap_values : Stmt := top 19
abbrev s_end_of : Stmt := top 20
abbrev s_shows_period : Stmt := top 21
abbrev s_period_of : Stmt := top 22
abbrev s_least_start : Stmt := top 23
abbrev s_law_taken : Stmt := top 25
abbrev s_law : Stmt := top 26
theorem sc_is_int : FnScope ["value"] ["value"] (defScope s_is_int) := ⟨rfl, rfl, rfl, by decide +kernel, rfl, by decide +kernel, by decide +kernel⟩
theorem sc_is_in : FnScope ["value", "least", "most"] ["value", "least", "most"] (defScope s_is_in) := ⟨rfl, rfl, rfl, by decide +kernel, rfl, by decide +kernel, by decide +kernel⟩
theorem sc_need_number : FnScope ["value", "least", "most"] ["value", "least", "most"] (defScope s_need_number) := ⟨rfl, rfl, rfl, by decide +kernel, rfl, by decide +kernel, by decide +kernel⟩
theorem sc_least_missing : FnScope ["numbers", "found"] ["numbers"] (defScope s_least_missing) := ⟨rfl, rfl, rfl, by decide +kernel, rfl, by decide +kernel, by decide +kernel⟩
theorem sc_need_rule : FnScope ["value", "digit"] ["value"] (defScope s_need_rule) := ⟨rfl, rfl, rfl, by decide +kernel, rfl, by decide +kernel, by decide +kernel⟩
theorem sc_value_after : FnScope ["rule", "found", "size", "told", "at", "digit", "rest", "part"] ["rule", "found"] (defScope s_value_after) := ⟨rfl, rfl, rfl, by decide +kernel, rfl, by decide +kernel, by decide +kernel⟩
theorem sc_values_to : FnScope ["rule", "count", "found"] ["rule", "count"] (defScope s_values_to) := ⟨rfl, rfl, rfl, by decide +kernel, rfl, by decide +kernel, by decide +kernel⟩
theorem sc_heap_values : FnScope ["rule", "count"] ["rule", "count"] (defScope s_heap_values) := ⟨rfl, rfl, rfl, by decide +kernel, rfl, by decide +kernel, by decide +kernel⟩
theorem sc_end_of : FnScope ["rule", "start", "length"] ["rule", "start", "length"] (defScope s_end_of) := ⟨rfl, rfl, rfl, by decide +kernel, rfl, by decide +kernel, by decide +kernel⟩
theorem sc_shows_period : FnScope ["rule", "period", "start", "length", "last", "values", "size"] ["rule", "period"] (defScope s_shows_period) := ⟨rfl, rfl, rfl, by decide +kernel, rfl, by decide +kernel, by decide +kernel⟩
theorem sc_period_of : FnScope ["rule", "values", "length", "found"] ["rule"] (defScope s_period_of) := ⟨rfl, rfl, rfl, by decide +kernel, rfl, by decide +kernel, by decide +kernel⟩
theorem sc_least_start : FnScope ["rule", "values", "length", "start", "size"] ["rule", "values", "length"] (defScope s_least_start) := ⟨rfl, rfl, rfl, by decide +kernel, rfl, by decide +kernel, by decide +kernel⟩
theorem sc_law_taken : FnScope ["_law_row", "_law_many", "_law_found", "_law_cell"] ["_law_row", "_law_many"] (defScope s_law_taken) := ⟨rfl, rfl, rfl, by decide +kernel, rfl, by decide +kernel, by decide +kernel⟩
theorem sc_law : FnScope ["_law_script", "_law_row", "_law_rule", "_law_found", "_law_values", "_law_start", "_law_length", "_law_size", "_law_at"] ["_law_script"] (defScope s_law) := ⟨rfl, rfl, rfl, by decide +kernel, rfl, by decide +kernel, by decide +kernel⟩
structure Txt (K : PySem.W.Frag) (mg : Str → Option Value) where
  a_is_int : Addr
  d_is_int : FuncData
  F_is_int : Fun K "is_int" "is_int" s_is_int a_is_int d_is_int
  b_is_int : Binds K d_is_int ["value"] []
  g_is_int : mg "is_int" = some (.ref a_is_int)
  a_is_in : Addr
  d_is_in : FuncData
  F_is_in : Fun K "is_in" "is_in" s_is_in a_is_in d_is_in
  b_is_in : Binds K d_is_in ["value", "least", "most"] []
  g_is_in : mg "is_in" = some (.ref a_is_in)
  a_need_number : Addr
  d_need_number : FuncData
  F_need_number : Fun K "need_number" "need_number" s_need_number a_need_number d_need_number
  b_need_number : Binds K d_need_number ["value", "least", "most"] []
  g_need_number : mg "need_number" = some (.ref a_need_number)
  a_least_missing : Addr
  d_least_missing : FuncData
  F_least_missing : Fun K "least_missing" "least_missing" s_least_missing a_least_missing d_least_missing
  b_least_missing : Binds K d_least_missing ["numbers"] []
  g_least_missing : mg "least_missing" = some (.ref a_least_missing)
  a_need_rule : Addr
  d_need_rule : FuncData
  F_need_rule : Fun K "need_rule" "need_rule" s_need_rule a_need_rule d_need_rule
  b_need_rule : Binds K d_need_rule ["value"] []
  g_need_rule : mg "need_rule" = some (.ref a_need_rule)
  a_value_after : Addr
  d_value_after : FuncData
  F_value_after : Fun K "value_after" "value_after" s_value_after a_value_after d_value_after
  b_value_after : Binds K d_value_after ["rule", "found"] []
  g_value_after : mg "value_after" = some (.ref a_value_after)
  a_values_to : Addr
  d_values_to : FuncData
  F_values_to : Fun K "values_to" "values_to" s_values_to a_values_to d_values_to
  b_values_to : Binds K d_values_to ["rule", "count"] []
  g_values_to : mg "values_to" = some (.ref a_values_to)
  a_heap_values : Addr
  d_heap_values : FuncData
  F_heap_values : Fun K "heap_values" "heap_values" s_heap_values a_heap_values d_heap_values
  b_heap_values : Binds K d_heap_values ["rule", "count"] []
  g_heap_values : mg "heap_values" = some (.ref a_heap_values)
  a_end_of : Addr
  d_end_of : FuncData
  F_end_of : Fun K "end_of" "end_of" s_end_of a_end_of d_end_of
  b_end_of : Binds K d_end_of ["rule", "start", "length"] []
  g_end_of : mg "end_of" = some (.ref a_end_of)
  a_shows_period : Addr
  d_shows_period : FuncData
  F_shows_period : Fun K "shows_period" "shows_period" s_shows_period a_shows_period d_shows_period
  b_shows_period : Binds K d_shows_period ["rule", "period"] []
  g_shows_period : mg "shows_period" = some (.ref a_shows_period)
  a_period_of : Addr
  d_period_of : FuncData
  F_period_of : Fun K "period_of" "period_of" s_period_of a_period_of d_period_of
  b_period_of : Binds K d_period_of ["rule"] []
  g_period_of : mg "period_of" = some (.ref a_period_of)
  a_least_start : Addr
  d_least_start : FuncData
  F_least_start : Fun K "least_start" "least_start" s_least_start a_least_start d_least_start
  b_least_start : Binds K d_least_start ["rule", "values", "length"] []
  g_least_start : mg "least_start" = some (.ref a_least_start)
  a_law_taken : Addr
  d_law_taken : FuncData
  F_law_taken : Fun K "_law_taken" "_law_taken" s_law_taken a_law_taken d_law_taken
  b_law_taken : Binds K d_law_taken ["_law_row", "_law_many"] []
  g_law_taken : mg "_law_taken" = some (.ref a_law_taken)
  a_law : Addr
  d_law : FuncData
  F_law : Fun K "law" "law" s_law a_law d_law
  b_law : Binds K d_law ["_law_script"] []
  g_law : mg "law" = some (.ref a_law)
  B_law : ∀ (s : Shared) (v : Value), BindsTo s d_law ⟨[v], []⟩ [("_law_script", v)]
  t_MOST_DIGITS : Tok
  c_MOST_DIGITS : mg "MOST_DIGITS" = some (Value.int 6 t_MOST_DIGITS)
  t_MOST_COUNT : Tok
  c_MOST_COUNT : mg "MOST_COUNT" = some (Value.int 400 t_MOST_COUNT)
  t_MOST_START : Tok
  c_MOST_START : mg "MOST_START" = some (Value.int 200 t_MOST_START)
  t_MOST_LENGTH : Tok
  c_MOST_LENGTH : mg "MOST_LENGTH" = some (Value.int 100 t_MOST_LENGTH)
  m_len : mg "len" = none
  m_range : mg "range" = none
  m_int : mg "int" = none
  m_bool : mg "bool" = none
  m_tuple : mg "tuple" = none
  m_isinstance : mg "isinstance" = none
  m_enumerate : mg "enumerate" = none
  m_all : mg "all" = none
theorem txt_mk {K : PySem.W.Frag} {h : Heap} {mg : Str → Option Value} (X : K.In h) (G : h.Ns mainGlobals mg)
    {f0 : Addr} {od0 an0 : Option Addr} {sl0 : Array (Option Value)} {oc0 kV0 dc0 pm0 cd0 ct0 : Value}
    {f1 : Addr} {od1 an1 : Option Addr} {sl1 : Array (Option Value)} {oc1 kV1 dc1 pm1 cd1 ct1 : Value}
    {f2 : Addr} {od2 an2 : Option Addr} {sl2 : Array (Option Value)} {oc2 kV2 dc2 pm2 cd2 ct2 : Value}
    {f3 : Addr} {od3 an3 : Option Addr} {sl3 : Array (Option Value)} {oc3 kV3 dc3 pm3 cd3 ct3 : Value}
    {f4 : Addr} {od4 an4 : Option Addr} {sl4 : Array (Option Value)} {oc4 kV4 dc4 pm4 cd4 ct4 : Value}
    {f5 : Addr} {od5 an5 : Option Addr} {sl5 : Array (Option Value)} {oc5 kV5 dc5 pm5 cd5 ct5 : Value}
    {f6 : Addr} {od6 an6 : Option Addr} {sl6 : Array (Option Value)} {oc6 kV6 dc6 pm6 cd6 ct6 : Value}
    {f7 : Addr} {od7 an7 : Option Addr} {sl7 : Array (Option Value)} {oc7 kV7 dc7 pm7 cd7 ct7 : Value}
    {f8 : Addr} {od8 an8 : Option Addr} {sl8 : Array (Option Value)} {oc8 kV8 dc8 pm8 cd8 ct8 : Value}
    {f9 : Addr} {od9 an9 : Option Addr} {sl9 : Array (Option Value)} {oc9 kV9 dc9 pm9 cd9 ct9 : Value}
    {f10 : Addr} {od10 an10 : Option Addr} {sl10 : Array (Option Value)} {oc10 kV10 dc10 pm10 cd10 ct10 : Value}
    {f11 : Addr} {od11 an11 : Option Addr} {sl11 : Array (Option Value)} {oc11 kV11 dc11 pm11 cd11 ct11 : Value}
    {f12 : Addr} {od12 an12 : Option Addr} {sl12 : Array (Option Value)} {oc12 kV12 dc12 pm12 cd12 ct12 : Value}
    {f13 : Addr} {od13 an13 : Option Addr} {sl13 : Array (Option Value)} {oc13 kV13 dc13 pm13 cd13 ct13 : Value}
    {tk0 : Tok}
    {tk1 : Tok}
    {tk2 : Tok}
    {tk3 : Tok}
    (a0 : PySem.W.nsIn K mainGlobals "is_int" = some (some (.ref f0))) (l0 : K.lookup f0 = some ⟨oc0, od0, .func (PySem.W.fnOf "is_int" "is_int" (defArgs s_is_int) (defBody s_is_int) (defScope s_is_int) .none kV0 dc0 pm0 an0 cd0 ct0), sl0⟩) (c0 : PySem.W.codeIn K cd0 "is_int" = true) (k0 : PySem.W.keepIn K (.ref f0) = true)
    (a1 : PySem.W.nsIn K mainGlobals "is_in" = some (some (.ref f1))) (l1 : K.lookup f1 = some ⟨oc1, od1, .func (PySem.W.fnOf "is_in" "is_in" (defArgs s_is_in) (defBody s_is_in) (defScope s_is_in) .none kV1 dc1 pm1 an1 cd1 ct1), sl1⟩) (c1 : PySem.W.codeIn K cd1 "is_in" = true) (k1 : PySem.W.keepIn K (.ref f1) = true)
    (a2 : PySem.W.nsIn K mainGlobals "need_number" = some (some (.ref f2))) (l2 : K.lookup f2 = some ⟨oc2, od2, .func (PySem.W.fnOf "need_number" "need_number" (defArgs s_need_number) (defBody s_need_number) (defScope s_need_number) .none kV2 dc2 pm2 an2 cd2 ct2), sl2⟩) (c2 : PySem.W.codeIn K cd2 "need_number" = true) (k2 : PySem.W.keepIn K (.ref f2) = true)
    (a3 : PySem.W.nsIn K mainGlobals "least_missing" = some (some (.ref f3))) (l3 : K.lookup f3 = some ⟨oc3, od3, .func (PySem.W.fnOf "least_missing" "least_missing" (defArgs s_least_missing) (defBody s_least_missing) (defScope s_least_missing) .none kV3 dc3 pm3 an3 cd3 ct3), sl3⟩) (c3 : PySem.W.codeIn K cd3 "least_missing" = true) (k3 : PySem.W.keepIn K (.ref f3) = true)
    (a4 : PySem.W.nsIn K mainGlobals "need_rule" = some (some (.ref f4))) (l4 : K.lookup f4 = some ⟨oc4, od4, .func (PySem.W.fnOf "need_rule" "need_rule" (defArgs s_need_rule) (defBody s_need_rule) (defScope s_need_rule) .none kV4 dc4 pm4 an4 cd4 ct4), sl4⟩) (c4 : PySem.W.codeIn K cd4 "need_rule" = true) (k4 : PySem.W.keepIn K (.ref f4) = true)
    (a5 : PySem.W.nsIn K mainGlobals "value_after" = some (some (.ref f5))) (l5 : K.lookup f5 = some ⟨oc5, od5, .func (PySem.W.fnOf "value_after" "value_after" (defArgs s_value_after) (defBody s_value_after) (defScope s_value_after) .none kV5 dc5 pm5 an5 cd5 ct5), sl5⟩) (c5 : PySem.W.codeIn K cd5 "value_after" = true) (k5 : PySem.W.keepIn K (.ref f5) = true)
    (a6 : PySem.W.nsIn K mainGlobals "values_to" = some (some (.ref f6))) (l6 : K.lookup f6 = some ⟨oc6, od6, .func (PySem.W.fnOf "values_to" "values_to" (defArgs s_values_to) (defBody s_values_to) (defScope s_values_to) .none kV6 dc6 pm6 an6 cd6 ct6), sl6⟩) (c6 : PySem.W.codeIn K cd6 "values_to" = true) (k6 : PySem.W.keepIn K (.ref f6) = true)
    (a7 : PySem.W.nsIn K mainGlobals "heap_values" = some (some (.ref f7))) (l7 : K.lookup f7 = some ⟨oc7, od7, .func (PySem.W.fnOf "heap_values" "heap_values" (defArgs s_heap_values) (defBody s_heap_values) (defScope s_heap_values) .none kV7 dc7 pm7 an7 cd7 ct7), sl7⟩) (c7 : PySem.W.codeIn K cd7 "heap_values" = true) (k7 : PySem.W.keepIn K (.ref f7) = true)
    (a8 : PySem.W.nsIn K mainGlobals "end_of" = some (some (.ref f8))) (l8 : K.lookup f8 = some ⟨oc8, od8, .func (PySem.W.fnOf "end_of" "end_of" (defArgs s_end_of) (defBody s_end_of) (defScope s_end_of) .none kV8 dc8 pm8 an8 cd8 ct8), sl8⟩) (c8 : PySem.W.codeIn K cd8 "end_of" = true) (k8 : PySem.W.keepIn K (.ref f8) = true)
    (a9 : PySem.W.nsIn K mainGlobals "shows_period" = some (some (.ref f9))) (l9 : K.lookup f9 = some ⟨oc9, od9, .func (PySem.W.fnOf "shows_period" "shows_period" (defArgs s_shows_period) (defBody s_shows_period) (defScope s_shows_period) .none kV9 dc9 pm9 an9 cd9 ct9), sl9⟩) (c9 : PySem.W.codeIn K cd9 "shows_period" = true) (k9 : PySem.W.keepIn K (.ref f9) = true)
    (a10 : PySem.W.nsIn K mainGlobals "period_of" = some (some (.ref f10))) (l10 : K.lookup f10 = some ⟨oc10, od10, .func (PySem.W.fnOf "period_of" "period_of" (defArgs s_period_of) (defBody s_period_of) (defScope s_period_of) .none kV10 dc10 pm10 an10 cd10 ct10), sl10⟩) (c10 : PySem.W.codeIn K cd10 "period_of" = true) (k10 : PySem.W.keepIn K (.ref f10) = true)
    (a11 : PySem.W.nsIn K mainGlobals "least_start" = some (some (.ref f11))) (l11 : K.lookup f11 = some ⟨oc11, od11, .func (PySem.W.fnOf "least_start" "least_start" (defArgs s_least_start) (defBody s_least_start) (defScope s_least_start) .none kV11 dc11 pm11 an11 cd11 ct11), sl11⟩) (c11 : PySem.W.codeIn K cd11 "least_start" = true) (k11 : PySem.W.keepIn K (.ref f11) = true)
    (a12 : PySem.W.nsIn K mainGlobals "_law_taken" = some (some (.ref f12))) (l12 : K.lookup f12 = some ⟨oc12, od12, .func (PySem.W.fnOf "_law_taken" "_law_taken" (defArgs s_law_taken) (defBody s_law_taken) (defScope s_law_taken) .none kV12 dc12 pm12 an12 cd12 ct12), sl12⟩) (c12 : PySem.W.codeIn K cd12 "_law_taken" = true) (k12 : PySem.W.keepIn K (.ref f12) = true)
    (a13 : PySem.W.nsIn K mainGlobals "law" = some (some (.ref f13))) (l13 : K.lookup f13 = some ⟨oc13, od13, .func (PySem.W.fnOf "law" "law" (defArgs s_law) (defBody s_law) (defScope s_law) .none kV13 dc13 pm13 an13 cd13 ct13), sl13⟩) (c13 : PySem.W.codeIn K cd13 "law" = true) (k13 : PySem.W.keepIn K (.ref f13) = true)
    (v0 : PySem.W.nsIn K mainGlobals "MOST_DIGITS" = some (some (Value.int 6 tk0)))
    (v1 : PySem.W.nsIn K mainGlobals "MOST_COUNT" = some (some (Value.int 400 tk1)))
    (v2 : PySem.W.nsIn K mainGlobals "MOST_START" = some (some (Value.int 200 tk2)))
    (v3 : PySem.W.nsIn K mainGlobals "MOST_LENGTH" = some (some (Value.int 100 tk3)))
    (z0 : PySem.W.nsIn K mainGlobals "len" = some none)
    (z1 : PySem.W.nsIn K mainGlobals "range" = some none)
    (z2 : PySem.W.nsIn K mainGlobals "int" = some none)
    (z3 : PySem.W.nsIn K mainGlobals "bool" = some none)
    (z4 : PySem.W.nsIn K mainGlobals "tuple" = some none)
    (z5 : PySem.W.nsIn K mainGlobals "isinstance" = some none)
    (z6 : PySem.W.nsIn K mainGlobals "enumerate" = some none)
    (z7 : PySem.W.nsIn K mainGlobals "all" = some none) :
    Nonempty (Txt K mg) :=
  ⟨{ a_is_int := f0, d_is_int := _, F_is_int := fun_mk (st := s_is_int) l0 c0 k0, b_is_int := (fun_mk (st := s_is_int) l0 c0 k0).binds (ps := ["value"]) (fun _ _ _ _ _ _ us hl => match us, hl with | [_], _ => rfl), g_is_int := PySem.W.mg_of X G a0,
     a_is_in := f1, d_is_in := _, F_is_in := fun_mk (st := s_is_in) l1 c1 k1, b_is_in := (fun_mk (st := s_is_in) l1 c1 k1).binds (ps := ["value", "least", "most"]) (fun _ _ _ _ _ _ us hl => match us, hl with | [_, _, _], _ => rfl), g_is_in := PySem.W.mg_of X G a1,
     a_need_number := f2, d_need_number := _, F_need_number := fun_mk (st := s_need_number) l2 c2 k2, b_need_number := (fun_mk (st := s_need_number) l2 c2 k2).binds (ps := ["value", "least", "most"]) (fun _ _ _ _ _ _ us hl => match us, hl with | [_, _, _], _ => rfl), g_need_number := PySem.W.mg_of X G a2,
     a_least_missing := f3, d_least_missing := _, F_least_missing := fun_mk (st := s_least_missing) l3 c3 k3, b_least_missing := (fun_mk (st := s_least_missing) l3 c3 k3).binds (ps := ["numbers"]) (fun _ _ _ _ _ _ us hl => match us, hl with | [_], _ => rfl), g_least_missing := PySem.W.mg_of X G a3,
     a_need_rule := f4, d_need_rule := _, F_need_rule := fun_mk (st := s_need_rule) l4 c4 k4, b_need_rule := (fun_mk (st := s_need_rule) l4 c4 k4).binds (ps := ["value"]) (fun _ _ _ _ _ _ us hl => match us, hl with | [_], _ => rfl), g_need_rule := PySem.W.mg_of X G a4,
     a_value_after := f5, d_value_after := _, F_value_after := fun_mk (st := s_value_after) l5 c5 k5, b_value_after := (fun_mk (st := s_value_after) l5 c5 k5).binds (ps := ["rule", "found"]) (fun _ _ _ _ _ _ us hl => match us, hl with | [_, _], _ => rfl), g_value_after := PySem.W.mg_of X G a5,
     a_values_to := f6, d_values_to := _, F_values_to := fun_mk (st := s_values_to) l6 c6 k6, b_values_to := (fun_mk (st := s_values_to) l6 c6 k6).binds (ps := ["rule", "count"]) (fun _ _ _ _ _ _ us hl => match us, hl with | [_, _], _ => rfl), g_values_to := PySem.W.mg_of X G a6,
     a_heap_values := f7, d_heap_values := _, F_heap_values := fun_mk (st := s_heap_values) l7 c7 k7, b_heap_values := (fun_mk (st := s_heap_values) l7 c7 k7).binds (ps := ["rule", "count"]) (fun _ _ _ _ _ _ us hl => match us, hl with | [_, _], _ => rfl), g_heap_values := PySem.W.mg_of X G a7,
     a_end_of := f8, d_end_of := _, F_end_of := fun_mk (st := s_end_of) l8 c8 k8, b_end_of := (fun_mk (st := s_end_of) l8 c8 k8).binds (ps := ["rule", "start", "length"]) (fun _ _ _ _ _ _ us hl => match us, hl with | [_, _, _], _ => rfl), g_end_of := PySem.W.mg_of X G a8,
     a_shows_period := f9, d_shows_period := _, F_shows_period := fun_mk (st := s_shows_period) l9 c9 k9, b_shows_period := (fun_mk (st := s_shows_period) l9 c9 k9).binds (ps := ["rule", "period"]) (fun _ _ _ _ _ _ us hl => match us, hl with | [_, _], _ => rfl), g_shows_period := PySem.W.mg_of X G a9,
     a_period_of := f10, d_period_of := _, F_period_of := fun_mk (st := s_period_of) l10 c10 k10, b_period_of := (fun_mk (st := s_period_of) l10 c10 k10).binds (ps := ["rule"]) (fun _ _ _ _ _ _ us hl => match us, hl with | [_], _ => rfl), g_period_of := PySem.W.mg_of X G a10,
     a_least_start := f11, d_least_start := _, F_least_start := fun_mk (st := s_least_start) l11 c11 k11, b_least_start := (fun_mk (st := s_least_start) l11 c11 k11).binds (ps := ["rule", "values", "length"]) (fun _ _ _ _ _ _ us hl => match us, hl with | [_, _, _], _ => rfl), g_least_start := PySem.W.mg_of X G a11,
     a_law_taken := f12, d_law_taken := _, F_law_taken := fun_mk (st := s_law_taken) l12 c12 k12, b_law_taken := (fun_mk (st := s_law_taken) l12 c12 k12).binds (ps := ["_law_row", "_law_many"]) (fun _ _ _ _ _ _ us hl => match us, hl with | [_, _], _ => rfl), g_law_taken := PySem.W.mg_of X G a12,
     a_law := f13, d_law := _, F_law := fun_mk (st := s_law) l13 c13 k13, b_law := (fun_mk (st := s_law) l13 c13 k13).binds (ps := ["_law_script"]) (fun _ _ _ _ _ _ us hl => match us, hl with | [_], _ => rfl), g_law := PySem.W.mg_of X G a13,
     B_law := fun s v => .of_eq rfl,
     t_MOST_DIGITS := tk0, c_MOST_DIGITS := PySem.W.mg_of X G v0,
     t_MOST_COUNT := tk1, c_MOST_COUNT := PySem.W.mg_of X G v1,
     t_MOST_START := tk2, c_MOST_START := PySem.W.mg_of X G v2,
     t_MOST_LENGTH := tk3, c_MOST_LENGTH := PySem.W.mg_of X G v3,
     m_len := PySem.W.mg_none_of X G z0,
     m_range := PySem.W.mg_none_of X G z1,
     m_int := PySem.W.mg_none_of X G z2,
     m_bool := PySem.W.mg_none_of X G z3,
     m_tuple := PySem.W.mg_none_of X G z4,
     m_isinstance := PySem.W.mg_none_of X G z5,
     m_enumerate := PySem.W.mg_none_of X G z6,
     m_all := PySem.W.mg_none_of X G z7 }⟩
end K56


set_option Elab.async false
set_option linter.all false
set_option maxRecDepth 100000
set_option maxHeartbeats 4000000
namespace K56
open PySem L2 TG
section
variable {P : Program} {w : World} {K : PySem.W.Frag} {mg : Str → Option Value} {base : Heap}
/-! ### is_int, is_in of ints -/
def spIsInt : Sp := fun vs H Q _ => ∃ n : Int, vs = [.int n] ∧ Q (.bl true) H
theorem ok_is_int {k : Nat} (T : Txt K mg) : FnOk P w K mg base CX0 (k + 1) T.a_is_int T.d_is_int ["value"] spIsInt := by
  refine T.F_is_int.ok sc_is_int (fun vs H Q E h => ?_) (fun cdv A outer s H vs Q E hr h => ?_)
  · obtain ⟨n, rfl, _⟩ := h
    rfl
  obtain ⟨n, rfl, q⟩ := h
  refine ⟨_, (pss_one (ps_ret (pe_and (pe_callB (call_isiG (K := K) rfl) rfl T.m_isinstance (by decide +kernel) (pa_cons (pv 0) (pa_cons (pe_bltn (v := .ty "int") (u := .type "int") rfl T.m_int (by decide +kernel) rfl) pa_nil))) (pe_one (pe_not (pe_callB (call_isiG (K := K) rfl) rfl T.m_isinstance (by decide +kernel) (pa_cons (pv 0) (pa_cons (pe_bltn (v := .ty "bool") (u := .type "bool") rfl T.m_bool (by decide +kernel) rfl) pa_nil)))))))), ?_⟩
  exact ⟨_, rfl, _, _, _, _, rfl, TyN.int, kit_int_int, _, rfl, _, rfl, _, _, _, _, rfl, TyN.int, kit_int_bool, _, rfl, q⟩
def spIsIn : Sp := fun vs H Q _ => ∃ n a b : Int, vs = [.int n, .int a, .int b] ∧ Q (.bl (decide (a ≤ n) && decide (n ≤ b))) H
theorem ok_is_in {k : Nat} (T : Txt K mg) (G_is_int : FnOk P w K mg base CX0 k T.a_is_int T.d_is_int ["value"] spIsInt) : FnOk P w K mg base CX0 (k + 1) T.a_is_in T.d_is_in ["value", "least", "most"] spIsIn := by
  refine T.F_is_in.ok sc_is_in (fun vs H Q E h => ?_) (fun cdv A outer s H vs Q E hr h => ?_)
  · obtain ⟨n, a, b, rfl, _⟩ := h
    rfl
  obtain ⟨n, a, b, rfl, q⟩ := h
  refine ⟨_, (pss_one (ps_ret (pe_and (pe_call G_is_int hr rfl T.g_is_int T.F_is_int.kp T.b_is_int .nil pass0 (pa_cons (pv 0) pa_nil)) (pe_one (pe_chain op_le op_le (pv 1) (pv 0) (pv 2)))))), ?_⟩
  simp only [tRet, tAndV, tOrV, tNotV, tAnd, tOr, tNot, tB, tTest, tCB, tCons, tNil, tVar, tC, L2.start, tOp, tUn, tIf, tIfS, tSeq, tAsg, gName, tNext, tNever, tPar, tDrop, tCall, tChain, rI, rI0, rU, rEq, rNe, scal, List.map, List.length, List.replicate, List.append, List.set, List.cons_append, List.nil_append, List.append_nil,
  List.getElem?_cons_zero, List.getElem?_cons_succ, List.set_cons_zero, List.set_cons_succ, Option.some.injEq, exists_eq_left', exists_eq_left, exists_eq_right, exists_eq_right', exists_and_left, V.int.injEq, V.bl.injEq, V.str.injEq, V.ref.injEq, List.cons.injEq, and_true, true_and, and_self, Nat.reduceAdd, Nat.reduceSub, Nat.sub_self, decide_eq_true_eq, Bool.not_eq_true', decide_eq_false_iff_not, ↓reduceIte, Bool.false_eq_true, TG.ex2_eq, TG.ex3_eq, TG.ex4_eq]
  refine ⟨n, rfl, true, rfl, ?_⟩
  rw [if_pos rfl]
  by_cases h : a ≤ n
  · rw [if_pos h]
    rw [decide_eq_true h] at q
    exact q
  · rw [if_neg h]
    rw [decide_eq_false h] at q
    exact q
end
end K56


set_option Elab.async false
set_option linter.all false
set_option maxRecDepth 100000
set_option maxHeartbeats 4000000
namespace K56
open PySem L2 TG
section
variable {P : Program} {w : World} {K : PySem.W.Frag} {mg : Str → Option Value} {base : Heap}
/-- a good number is let through -/
def spNeed : Sp := fun vs H Q _ => ∃ n a b : Int, vs = [.int n, .int a, .int b] ∧ (a ≤ n ∧ n ≤ b) ∧ Q .non H
theorem ok_need_number {k : Nat} (T : Txt K mg) (G_is_in : FnOk P w K mg base CX0 k T.a_is_in T.d_is_in ["value", "least", "most"] spIsIn) : FnOk P w K mg base CX0 (k + 1) T.a_need_number T.d_need_number ["value", "least", "most"] spNeed := by
  refine T.F_need_number.ok sc_need_number (fun vs H Q E h => ?_) (fun cdv A outer s H vs Q E hr h => ?_)
  · obtain ⟨n, a, b, rfl, _⟩ := h
    rfl
  obtain ⟨n, a, b, rfl, ⟨h1, h2⟩, q⟩ := h
  refine ⟨_, (pss_one (ps_if (pt_not (pt_val (pe_call G_is_in hr rfl T.g_is_in T.F_is_in.kp T.b_is_in .nil pass0 (pa_cons (pv 0) (pa_cons (pv 1) (pa_cons (pv 2) pa_nil))))))
  (pss_one ps_never)
  pss_nil)), ?_⟩
  simp only [tRet, tAndV, tOrV, tNotV, tAnd, tOr, tNot, tB, tTest, tCB, tCons, tNil, tVar, tC, L2.start, tOp, tUn, tIf, tIfS, tSeq, tAsg, gName, tNext, tNever, tPar, tDrop, tCall, tChain, rI, rI0, rU, rEq, rNe, scal, List.map, List.length, List.replicate, List.append, List.set, List.cons_append, List.nil_append, List.append_nil,
  List.getElem?_cons_zero, List.getElem?_cons_succ, List.set_cons_zero, List.set_cons_succ, Option.some.injEq, exists_eq_left', exists_eq_left, exists_eq_right, exists_eq_right', exists_and_left, V.int.injEq, V.bl.injEq, V.str.injEq, V.ref.injEq, List.cons.injEq, and_true, true_and, and_self, Nat.reduceAdd, Nat.reduceSub, Nat.sub_self, decide_eq_true_eq, Bool.not_eq_true', decide_eq_false_iff_not, ↓reduceIte, Bool.false_eq_true, TG.ex2_eq, TG.ex3_eq, TG.ex4_eq, spIsIn, h1, h2, decide_true, Bool.and_self, Bool.true_eq, Bool.not_true]
  simpa [h1, h2] using q
end
end K56


set_option Elab.async false
set_option linter.all false
set_option maxRecDepth 100000
set_option maxHeartbeats 4000000
namespace K56
open PySem L2 TG
section
variable {P : Program} {w : World} {K : PySem.W.Frag} {mg : Str → Option Value} {base : Heap}
/-! ### a draw -/
theorem ok_taken {k : Nat} (T : Txt K mg) : FnOk P w K mg base CX0 (k + 1) T.a_law_taken T.d_law_taken ["_law_row", "_law_many"] (spTk K) := by
  refine T.F_law_taken.ok sc_law_taken (fun vs H Q E h => ?_) (fun cdv A outer s H vs Q E hr h => ?_)
  · obtain ⟨r, a, ns, m, rfl, _⟩ := h
    rfl
  obtain ⟨r, a, ns, m, rfl, ⟨i, z, t, h1, h2, h3, h4⟩, ⟨m0, m1⟩, q⟩ := h
  refine ⟨_, (pss_cons (ps_if (pt_cmpR op_gt (pe_ix (ix_listK (K := K) rfl) (pv 0) pe_int (fun _ _ => rfl)) pe_int (nomark _))
  (pss_cons (ps_set (i := 2) sc_law_taken.nd rfl (Or.inl rfl) (pe_op op_mod (pe_callTy call_int1 rfl T.m_int (by decide +kernel) (pa_cons (pe_ix (ix_listK (K := K) rfl) (pv 0) pe_int (fun _ _ => rfl)) pa_nil)) (pv 1)))
  (pss_cons (ps_asg (pe_op op_fdiv (pe_ix (ix_listK (K := K) rfl) (pv 0) pe_int (fun _ _ => rfl)) (pv 1)) (pg_sub (pv 0) pe_int set_list))
  (pss_one (ps_ret (pv 2)))))
  pss_nil)
  (pss_cons (ps_asg (pe_op op_add (pe_ix (ix_listK (K := K) rfl) (pv 0) pe_int (fun _ _ => rfl)) pe_int) (pg_sub (pv 0) pe_int set_list))
  (pss_cons (ps_if (pt_cmpR op_gt (pe_ix (ix_listK (K := K) rfl) (pv 0) pe_int (fun _ _ => rfl)) (pe_callB (call_lenK (K := K) rfl) rfl T.m_len PySem.boot_len (pa_cons (pe_ix (ix_listK (K := K) rfl) (pv 0) pe_int (fun _ _ => rfl)) pa_nil)) (nomark _))
  (pss_cons (ps_asg (pe_op op_mod (pe_callTy call_int1 rfl T.m_int (by decide +kernel) (pa_cons (pe_op op_add (pe_op op_mul (pe_ix (ix_listK (K := K) rfl) (pv 0) pe_int (fun _ _ => rfl)) pe_int) pe_int) pa_nil)) pe_int) (pg_sub (pv 0) pe_int set_list))
  (pss_one (ps_ret (pe_op op_mod (pe_callTy call_int1 rfl T.m_int (by decide +kernel) (pa_cons (pe_op op_fdiv (pe_ix (ix_listK (K := K) rfl) (pv 0) pe_int (fun _ _ => rfl)) pe_int) pa_nil)) (pv 1)))))
  pss_nil)
  (pss_cons (ps_set (i := 3) sc_law_taken.nd rfl (Or.inl rfl) (pe_ix (ix_listK (K := K) rfl) (pe_ix (ix_listK (K := K) rfl) (pv 0) pe_int (fun _ _ => rfl)) (pe_op op_sub (pe_ix (ix_listK (K := K) rfl) (pv 0) pe_int (fun _ _ => rfl)) pe_int) (fun _ _ => rfl)))
  (pss_cons (ps_asg (pe_op op_mod (pe_callTy call_int1 rfl T.m_int (by decide +kernel) (pa_cons (pe_op op_add (pe_op op_add (pe_op op_mul (pe_ix (ix_listK (K := K) rfl) (pv 0) pe_int (fun _ _ => rfl)) pe_int) (pv 3)) pe_int) pa_nil)) pe_int) (pg_sub (pv 0) pe_int set_list))
  (pss_cons (ps_if (pt_cmpR op_ge (pv 3) (pe_op op_pow pe_int pe_int) (nomark _))
  (pss_one (ps_asg (pe_op op_fdiv (pv 3) (pv 1)) (pg_sub (pv 0) pe_int set_list)))
  pss_nil)
  (pss_one (ps_ret (pe_op op_mod (pe_callTy call_int1 rfl T.m_int (by decide +kernel) (pa_cons (pv 3) pa_nil)) (pv 1)))))))))), ?_⟩
  have md : ∀ x : Int, CDiv x m := fun x => ⟨m0, m1⟩
  have fin : ∀ (x i' z' t' : Int), 0 ≤ i' → Q (.int (x % m)) (upd H r (.lst [.ref a, .int i', .int z', .int t'])) := fun x i' z' t' hi =>
    q _ _ (Int.emod_nonneg _ (by omega)) (Int.emod_lt_of_pos _ m0) ⟨i', z', t', upd_same, by rw [hide_upd]; exact h2, h3, hi⟩ fun b hb => upd_ne hb
  have sc : ∀ o, SqL K (upd H r o) a (ns.map V.int) := fun o => hide_same.seq (by rw [hide_upd]; exact h2)
  -- if _law_row[3] > 0
  refine ⟨_, rfl, ⟨_, _, _, _, rfl, rfl, SqL.of h1, at3, ?_⟩⟩
  refine ⟨_, _, rfl, rfl, _, rfl, ite2 (fun c => ?_) (fun c => ?_)⟩
  · refine ⟨_, rfl, ⟨_, _, _, _, rfl, rfl, SqL.of h1, at3, (.inl ⟨_, rfl, _, rfl, _, _, rfl, rfl, m0, ?_⟩)⟩⟩
    refine ⟨_, rfl, ⟨_, _, _, _, rfl, rfl, SqL.of h1, at3, ⟨_, rfl, _, _, rfl, rfl, md _, ?_⟩⟩⟩
    refine ⟨_, rfl, r, _, 3, 3, rfl, rfl, h1, rfl, _, rfl, ?_⟩
    exact fin _ _ _ _ h4
  · -- _law_row[1] = _law_row[1] + 1
    refine ⟨_, rfl, ⟨_, _, _, _, rfl, rfl, SqL.of h1, at1, ⟨_, _, rfl, rfl, _, rfl, r, _, 1, 1, rfl, rfl, h1, rfl, ?_⟩⟩⟩
    -- if _law_row[1] > len(_law_row[0])
    refine ⟨_, rfl, ⟨_, _, _, _, rfl, rfl, SqL.of upd_same, at1, ⟨_, rfl, ⟨_, _, _, _, rfl, rfl, SqL.of upd_same, at0, ⟨a, _, rfl, .inl (sc _), _, _, rfl, rfl, _, rfl, ite2 (fun c2 => ?_) (fun c2 => ?_)⟩⟩⟩⟩⟩
    · refine ⟨_, rfl, ⟨_, _, _, _, rfl, rfl, SqL.of upd_same, at2, ⟨_, _, rfl, rfl, mul_small, _, _, rfl, rfl, .inl ⟨_, rfl, _, _, rfl, rfl, (by show (0 : Int) < 2147483647; decide), ?_⟩⟩⟩⟩
      refine ⟨_, rfl, r, _, 2, 2, rfl, rfl, upd_same, rfl, ?_⟩
      refine ⟨_, rfl, ⟨_, _, _, _, rfl, rfl, SqL.of upd_same, at2, ⟨_, _, rfl, rfl, ⟨by decide, by decide⟩, .inl ⟨_, rfl, _, rfl, _, _, rfl, rfl, m0, ?_⟩⟩⟩⟩
      rw [upd_upd]
      exact fin _ _ _ _ (by omega)
    · have c3 : ¬ ((((ns.map V.int).length : Nat) : Int) < i + 1) := of_decide_eq_false (Bool.eq_false_iff.mpr c2)
      rw [List.length_map] at c3
      have hi : i.toNat < ns.length := by omega
      have hv : atI (ns.map V.int) (i + 1 - 1) = some (.int (ns[i.toNat])) := by
        have e : i + 1 - 1 = ((i.toNat : Nat) : Int) := by omega
        rw [e]
        exact atI_nat (by rw [List.getElem?_map, List.getElem?_eq_getElem hi]; rfl)
      -- _law_cell = _law_row[0][_law_row[1] - 1]
      refine ⟨_, rfl, ⟨_, _, _, _, rfl, rfl, SqL.of upd_same, at0, ⟨_, rfl, ⟨_, _, _, _, rfl, rfl, SqL.of upd_same, at1, ⟨_, _, rfl, rfl, a, _, _, _, rfl, rfl, sc _, hv, ?_⟩⟩⟩⟩⟩
      refine ⟨_, rfl, ⟨_, _, _, _, rfl, rfl, SqL.of upd_same, at2, ⟨_, _, rfl, rfl, mul_small, _, rfl, _, _, rfl, rfl, _, _, rfl, rfl, .inl ⟨_, rfl, _, _, rfl, rfl, (by show (0 : Int) < 2147483647; decide), ?_⟩⟩⟩⟩
      refine ⟨_, rfl, r, _, 2, 2, rfl, rfl, upd_same, rfl, ?_⟩
      rw [upd_upd]
      refine ⟨_, rfl, _, _, rfl, rfl, ⟨by decide, by decide, by decide⟩, _, _, rfl, rfl, _, rfl, ite2 (fun c4 => ?_) (fun c4 => ?_)⟩
      · refine ⟨_, rfl, _, rfl, _, _, rfl, rfl, md _, _, rfl, r, _, 3, 3, rfl, rfl, upd_same, rfl, ?_⟩
        rw [upd_upd]
        refine ⟨_, rfl, .inl ⟨_, rfl, _, rfl, _, _, rfl, rfl, m0, ?_⟩⟩
        exact fin _ _ _ _ (by omega)
      · refine ⟨_, rfl, .inl ⟨_, rfl, _, rfl, _, _, rfl, rfl, m0, ?_⟩⟩
        exact fin _ _ _ _ (by omega)
end
end K56


set_option Elab.async false
set_option linter.all false
set_option maxRecDepth 100000
set_option maxHeartbeats 4000000
namespace K56
open PySem L2 TG
/-! ### naturals as values -/
abbrev I (n : Nat) : V := .int (n : Int)
def mexN (xs : List Nat) : Nat := mexL (xs.map fun n : Nat => (n : Int))
theorem mem_cast (xs : List Nat) (j : Nat) : ((j : Int) ∈ xs.map fun n : Nat => (n : Int)) ↔ j ∈ xs := by
  rw [List.mem_map]
  constructor
  · rintro ⟨n, hn, e⟩
    have : n = j := by omega
    rw [← this]
    exact hn
  · intro h
    exact ⟨j, h, rfl⟩
theorem mexN_ok (xs : List Nat) : Hp.Mex xs (mexN xs) := by
  obtain ⟨h1, h2⟩ := mexL_spec (xs.map fun n : Nat => (n : Int))
  exact ⟨fun q => h1 ((mem_cast xs _).mpr q), fun j hj => (mem_cast xs j).mp (h2 j hj)⟩
abbrev vals (ds : List Nat) (n : Nat) : List Nat := Hp.vals mexN ds n
theorem vals_succ (ds : List Nat) (j : Nat) : vals ds (j + 1) = vals ds j ++ [Hp.nextV mexN ds (vals ds j)] := rfl
abbrev g (ds : List Nat) (n : Nat) : Nat := Hp.g mexN ds n
theorem optAt_len (f : List Nat) (i d : Nat) : (Hp.optAt f i d).length ≤ f.length + 2 := by
  unfold Hp.optAt
  rw [List.length_append, List.length_append]
  have h1 : (if f.length = i + 1 ∧ d % 2 = 1 then [0] else ([] : List Nat)).length ≤ 1 := by split <;> simp
  have h2 : (if i + 1 < f.length ∧ d / 2 % 2 = 1 then [Hp.ge f (f.length - i - 1)] else ([] : List Nat)).length ≤ 1 := by split <;> simp
  have h3 : (if 4 ≤ d then (List.range ((f.length - i - 1) / 2)).map (fun p => Hp.ge f (p + 1) ^^^ Hp.ge f (f.length - i - 1 - (p + 1))) else ([] : List Nat)).length ≤ f.length := by
    split
    · rw [List.length_map, List.length_range]
      omega
    · exact Nat.zero_le _
  omega
theorem optU_succ (ds f : List Nat) (i : Nat) : Hp.optU ds f (i + 1) = Hp.optU ds f i ++ Hp.optAt f i (Hp.ge ds i) := by
  unfold Hp.optU
  rw [List.range_succ, List.flatMap_append]
  simp
theorem optU_len (ds f : List Nat) : ∀ i, (Hp.optU ds f i).length ≤ i * (f.length + 2)
  | 0 => Nat.zero_le _
  | i + 1 => by
    rw [optU_succ, List.length_append, Nat.succ_mul]
    have := optU_len ds f i
    have := optAt_len f i (Hp.ge ds i)
    omega
/-- the digits of a rule -/
structure RuleOk (ds : List Nat) : Prop where
  l1 : 1 ≤ ds.length
  l6 : ds.length ≤ 6
  d7 : ∀ d ∈ ds, d ≤ 7
  nz : Hp.ge ds (ds.length - 1) ≠ 0
section
variable {P : Program} {w : World} {K : PySem.W.Frag} {mg : Str → Option Value} {base : Heap}
/-! ### least_missing of a dict -/
def spMiss : Sp := fun vs H Q _ => ∃ (d : Addr) (ks : List (Key × V)) (xs : List Int), vs = [.ref d] ∧ H d = some (.dK ks) ∧ Keys ks xs ∧ Q (I (mexL xs)) H
theorem ok_least_missing {k : Nat} (T : Txt K mg) : FnOk P w K mg base CX0 (k + 1) T.a_least_missing T.d_least_missing ["numbers"] spMiss := by
  refine T.F_least_missing.ok sc_least_missing (fun vs H Q E h => ?_) (fun cdv A outer s H vs Q E hr h => ?_)
  · obtain ⟨d, ks, xs, rfl, _⟩ := h
    rfl
  obtain ⟨d, ks, xs, rfl, hd, hk, q⟩ := h
  have hu := hu_of hr
  refine ⟨_, (pss_cons (ps_set (i := 1) sc_least_missing.nd rfl (Or.inl rfl) pe_int)
  (pss_cons (ps_while PassesOwn.never (pt_cmp (pc_din hu (pv 1) (pv 0)))
  (pss_one (ps_aug (i := 1) sc_least_missing.nd rfl (Or.inl rfl) pe_int ip_add)))
  (pss_one (ps_ret (pv 1))))), ?_⟩
  refine ⟨fun m σ H' => ∃ f : Nat, σ = [some (.ref d), some (.int (f : Int))] ∧ H' = H ∧ (∀ j : Nat, j < f → ((j : Int)) ∈ xs) ∧ m + f = xs.length + 1, ⟨xs.length + 1, 0, rfl, rfl, fun j hj => by omega, rfl⟩, ?_⟩
  rintro m σ H' ⟨f, rfl, rfl, hf, hm⟩
  refine ⟨_, rfl, _, rfl, d, _, rfl, DGet.k (k := Sum.inl (f : Int)) hd, _, rfl, ?_⟩
  rw [hk.has]
  by_cases c : ((f : Int)) ∈ xs
  · rw [decide_eq_true c]
    refine iteT ?_
    have hle : f + 1 ≤ xs.length := below_len (m := f + 1) fun j hj => by
      by_cases e : j = f
      · rw [e]; exact c
      · exact hf j (by omega)
    refine ⟨fun σ' H1 => σ' = [some (.ref d), some (.int ((f + 1 : Nat) : Int))] ∧ H1 = H', fun σ' H1 z => ?_, ?_⟩
    · obtain ⟨rfl, rfl⟩ := z
      exact ⟨m - 1, by omega, f + 1, rfl, rfl, fun j hj => by
        by_cases e : j = f
        · rw [e]; exact c
        · exact hf j (by omega), by omega⟩
    · exact ⟨_, rfl, _, _, rfl, rfl, rfl, rfl⟩
  · rw [decide_eq_false c]
    refine iteF ?_
    refine ⟨_, rfl, ?_⟩
    have e : mexL xs = f := mexL_of c hf
    rw [e] at q
    exact q
/-! ### need_rule: a good rule is let through -/
def spRule (K : PySem.W.Frag) : Sp := fun vs H Q _ => ∃ (a : Addr) (ds : List Nat), vs = [.ref a] ∧ SqT K H a (ds.map I) ∧ RuleOk ds ∧ ∀ H', Same H H' → Q .non H'
theorem ok_need_rule {k : Nat} (T : Txt K mg) (G_is_in : FnOk P w K mg base CX0 k T.a_is_in T.d_is_in ["value", "least", "most"] spIsIn) : FnOk P w K mg base CX0 (k + 1) T.a_need_rule T.d_need_rule ["value"] (spRule K) := by
  refine T.F_need_rule.ok sc_need_rule (fun vs H Q E h => ?_) (fun cdv A outer s H vs Q E hr h => ?_)
  · obtain ⟨a, ds, rfl, _⟩ := h
    rfl
  obtain ⟨a, ds, rfl, hS, hR, q⟩ := h
  refine ⟨_, (pss_cons (ps_if (PW.pt (pw_or (pt_not (pt_val (pe_callB (call_isiG (K := K) rfl) rfl T.m_isinstance (by decide +kernel) (pa_cons (pv 0) (pa_cons (pe_bltn (v := .ty "tuple") (u := .type "tuple") rfl T.m_tuple (by decide +kernel) rfl) pa_nil))))) (pw_or1 (pt_not (pt_chain op_le op_le pe_int (pe_callB (call_lenK (K := K) rfl) rfl T.m_len PySem.boot_len (pa_cons (pv 0) pa_nil)) (pe_glob (v := .int 6) rfl T.c_MOST_DIGITS ⟨_, rfl⟩))))))
  (pss_one ps_never)
  pss_nil)
  (pss_one (ps_if (PW.pt (pw_or (pt_not (pt_val (pe_callB (cr_allK (K := K) rfl rfl) rfl T.m_all (by decide +kernel) (pa_cons (pe_lc (own := [("digit", 1)]) rfl sc_need_rule.nd (pi_tupK (K := K) rfl (pv 0)) (blkOk_by (N := ["value", "digit"]) (sc := defScope s_need_rule) (by decide +kernel)) (fun _ _ _ _ _ => (pg_name (i := 1) sc_need_rule.nd rfl (Or.inl rfl))) (fun _ _ _ _ _ => pts_nil) (fun _ _ _ _ _ => (pe_call G_is_in hr rfl T.g_is_in T.F_is_in.kp T.b_is_in .nil pass0 (pa_cons (pv 1) (pa_cons pe_int (pa_cons pe_int pa_nil)))))) pa_nil)))) (pw_or1 (pt_cmpR op_eq (pe_ix (ix_tupK (K := K) rfl) (pv 0) (pe_un un_neg pe_int) (fun _ _ => rfl)) pe_int (nomark _)))))
  (pss_one ps_never)
  pss_nil))), ?_⟩
  have hl : ((ds.map I).length : Int) = (ds.length : Int) := by rw [List.length_map]
  have l1 := hR.l1
  have l6 := hR.l6
  refine ⟨_, rfl, _, _, _, _, rfl, TyN.tup hS, kit_tuple_tuple, _, rfl, iteF ?_⟩
  refine ⟨_, rfl, a, _, rfl, .inr hS, _, _, rfl, rfl, _, rfl, ?_⟩
  rw [hl, decide_eq_true (by omega)]
  refine iteT ⟨_, _, rfl, rfl, _, rfl, ?_⟩
  rw [decide_eq_true (by omega)]
  refine iteF ?_
  -- all([is_in(digit, 0, 7) for digit in value])
  dsimp only [tNext]
  refine go_ifS (go_or (go_not (go_B (go_cb (go_cons ?_)))))
  refine el_lcT (K := K) (a := a) (xs := ds.map I) (fun _ => true) (fun _ => .bl true) ?_ hS ?_ ?_ ?_ ?_ H (Evl.Ex.refl H) _ ?_
  · exact Evl.ev_var rfl
  · rw [List.length_map]
    omega
  · intro x
    rfl
  · intro i x H1 e1 hx H2 e2 Q2 q2
    exact q2 H2 (Evl.Ex.refl H2)
  · intro i x H1 e1 hx _ H2 e2 Q2 q2
    rw [List.getElem?_map] at hx
    cases hd : ds[i]? with
    | none => rw [hd] at hx; cases hx
    | some d =>
      rw [hd] at hx
      obtain rfl := Option.some.inj hx
      have d7 := hR.d7 d (List.mem_of_getElem? hd)
      refine ⟨_, rfl, _, _, _, rfl, ?_⟩
      rw [decide_eq_true (by omega), decide_eq_true (by omega)]
      exact q2 H2 (Evl.Ex.refl H2)
  · intro D1 H1 hD e1 h1
    have hg : Evl.given (ds.map I).length (fun _ => true) (fun _ => V.bl true) = (List.replicate ds.length true).map V.bl := by
      rw [given_all, List.length_map, List.map_replicate, List.map_const', List.length_range]
    rw [hg] at h1
    refine ⟨D1, _, rfl, SqL.of h1, _, rfl, ?_⟩
    have ha : (List.replicate ds.length true).all id = true := by simp
    rw [ha]
    refine iteF ?_
    -- value[-1] == 0
    refine ⟨_, rfl, _, rfl, a, _, _, I (Hp.ge ds (ds.length - 1)), rfl, rfl, Evl.ex_t e1 hS, ?_, rfl, _, rfl, ?_⟩
    · have e : ds.map I = (ds.dropLast.map I) ++ [I (Hp.ge ds (ds.length - 1))] := by
        have hne : ds ≠ [] := fun z => by rw [z] at l1; exact absurd l1 (by decide)
        have hlast : Hp.ge ds (ds.length - 1) = ds.getLast hne := by
          unfold Hp.ge
          rw [List.getD_eq_getElem?_getD, List.getElem?_eq_getElem (by omega), List.getLast_eq_getElem]
          rfl
        rw [hlast, ← List.map_singleton (f := I), ← List.map_append, List.dropLast_concat_getLast]
      rw [e]
      exact atI_last _ _
    · have hz : ¬ (V.int ((Hp.ge ds (ds.length - 1) : Nat) : Int) = V.int 0) := fun z => hR.nz (by
        have := V.int.inj z
        omega)
      rw [decide_eq_false hz]
      refine iteF ?_
      exact q H1 e1
/-! ### value_after -/
def spAfter (K : PySem.W.Frag) : Sp := fun vs H Q _ => ∃ (a p : Addr) (ds f : List Nat), vs = [.ref a, .ref p] ∧ SqT K H a (ds.map I) ∧ SqL K H p (f.map I) ∧ ds.length ≤ 6 ∧ 1 ≤ f.length ∧ f.length ≤ 2000 ∧ ∀ H', Same H H' → Q (I (Hp.nextV mexN ds f)) H'
theorem at_ge {f : List Nat} {i : Nat} (h : i < f.length) : atI (f.map I) ((i : Nat) : Int) = some (I (Hp.ge f i)) := by
  refine atI_nat ?_
  rw [List.getElem?_map, List.getElem?_eq_getElem h]
  unfold Hp.ge
  rw [List.getD_eq_getElem?_getD, List.getElem?_eq_getElem h]
  rfl
theorem xorI (a b : Nat) : Builtin.bitXor (a : Int) (b : Int) = ((a ^^^ b : Nat) : Int) := by
  rw [Bits.bitXor_pp (Int.natCast_nonneg _) (Int.natCast_nonneg _), Int.toNat_natCast, Int.toNat_natCast]
theorem ok_value_after {k : Nat} (T : Txt K mg) (G_least_missing : FnOk P w K mg base CX0 k T.a_least_missing T.d_least_missing ["numbers"] spMiss) : FnOk P w K mg base CX0 (k + 1) T.a_value_after T.d_value_after ["rule", "found"] (spAfter K) := by
  refine T.F_value_after.ok sc_value_after (fun vs H Q E h => ?_) (fun cdv A outer s H vs Q E hr h => ?_)
  · obtain ⟨a, p, ds, f, rfl, _⟩ := h
    rfl
  obtain ⟨a, p, ds, f, rfl, hS, hF, l6, f1, f2, q⟩ := h
  have hu := hu_of hr
  refine ⟨_, (pss_cons (ps_par (i := 2) (j := 3) rfl sc_value_after.nd rfl rfl (by decide) rfl rfl (pa_cons (pe_callB (call_lenK (K := K) rfl) rfl T.m_len PySem.boot_len (pa_cons (pv 1) pa_nil)) (pa_cons pe_dnewK pa_nil)) rfl)
  (pss_cons (ps_for PassesOwn.never rfl (pi_enumT (K := K) rfl rfl T.m_enumerate (pa_cons (pv 0) pa_nil)) (pg_tupK (K := K) (n := 2) rfl rfl (pgs_cons (pg_name (i := 4) sc_value_after.nd rfl (Or.inl rfl)) (pgs_cons (pg_name (i := 5) sc_value_after.nd rfl (Or.inl rfl)) pgs_nil)))
  (pss_cons (ps_set (i := 6) sc_value_after.nd rfl (Or.inl rfl) (pe_op op_sub (pe_op op_sub (pv 2) (pv 4)) pe_int))
  (Evl.pss_cut (ps_if (PW.pt (pw_and (pt_cmpR op_eq (pv 6) pe_int (nomark _)) (pw_and1 (pt_cmpR op_eq (pe_op op_mod (pv 5) pe_int) pe_int (nomark _)))))
  (pss_one (ps_dput hu (pv 3) pe_int pe_bl rfl))
  pss_nil)
  (Evl.pss_cut (ps_if (PW.pt (pw_and (pt_cmpR op_gt (pv 6) pe_int (nomark _)) (pw_and1 (pt_cmpR op_eq (pe_op op_mod (pe_op op_fdiv (pv 5) pe_int) pe_int) pe_int (nomark _)))))
  (pss_one (ps_dput hu (pv 3) (pe_ix (ix_listK (K := K) rfl) (pv 1) (pv 6) (fun _ _ => rfl)) pe_bl rfl))
  pss_nil)
  (pss_one (ps_if (pt_cmpR op_ge (pv 5) pe_int (nomark _))
  (pss_one (ps_for PassesOwn.never rfl (pi_range2 rfl T.m_range (pa_cons pe_int (pa_cons (pe_op op_add (pe_op op_fdiv (pv 6) pe_int) pe_int) pa_nil))) (pg_name (i := 7) sc_value_after.nd rfl (Or.inl rfl))
  (pss_one (ps_dput hu (pv 3) (pe_op op_xor (pe_ix (ix_listK (K := K) rfl) (pv 1) (pv 7) (fun _ _ => rfl)) (pe_ix (ix_listK (K := K) rfl) (pv 1) (pe_op op_sub (pv 6) (pv 7)) (fun _ _ => rfl))) pe_bl rfl))))
  pss_nil))))))
  (pss_one (ps_ret (pe_call G_least_missing hr rfl T.g_least_missing T.F_least_missing.kp T.b_least_missing .nil pass0 (pa_cons (pv 3) pa_nil)))))), ?_⟩
  have hfl : (((f.map I).length : Nat) : Int) = (f.length : Int) := by rw [List.length_map]
  -- size, told = len(found), {}
  refine ⟨_, rfl, p, _, rfl, .inl hF, fun z hz => ⟨_, _, rfl, ?_⟩⟩
  rw [hfl]
  have s0 : Same H (upd H z (.dK [])) := same_new hz _
  -- the invariant: the keys so far
  refine ⟨_, rfl, a, _, rfl, sqT s0 hS, for_enumT (K := K) (a := a) (xs := ds.map I) (fun i σ' H' => ∃ ks x4 x5 x6 x7, σ' = [some (.ref a), some (.ref p), some (.int (f.length : Int)), some (.ref z), x4, x5, x6, x7] ∧ Keys ks ((Hp.optU ds f i).map fun n : Nat => (n : Int)) ∧ H' z = some (.dK ks) ∧ Same H H') ?_ ?_ ?_ ?_⟩
  · exact ⟨[], none, none, none, none, rfl, Keys.nil, upd_same, s0⟩
  · rintro i σ' H' _ ⟨_, _, _, _, _, _, _, _, sm⟩
    exact sqT sm hS
  · rintro i x σ' H1 H2 hx ⟨ks, x4, x5, x6, x7, rfl, hk, hz1, sm1⟩ s2
    obtain ⟨d, hd, rfl⟩ : ∃ d, ds[i]? = some d ∧ x = I d := by
      rw [List.getElem?_map] at hx
      cases e : ds[i]? with
      | none => rw [e] at hx; cases hx
      | some d => rw [e] at hx; exact ⟨d, rfl, (Option.some.inj hx).symm⟩
    have hi : i < ds.length := (List.getElem?_eq_some_iff.mp hd).1
    have hgd : Hp.ge ds i = d := by
      unfold Hp.ge
      rw [List.getD_eq_getElem?_getD, hd]
      rfl
    have hul := optU_len ds f i
    have hul2 : i * (f.length + 2) ≤ 6 * 2002 := Nat.mul_le_mul (by omega) (by omega)
    -- the end of the turn
    have sm2 : Same H H2 := sm1.trans s2
    have hz2 : H2 z = some (.dK ks) := s2 _ _ hz1
    have keep : ∀ (H3 : Hp) (o : HO), Same H H3 → Same H (upd H3 z o) := fun H3 o sm b u e => by
      rw [upd_ne (ne_of_none e hz)]
      exact sm b u e
    have opt1 : Hp.optU ds f (i + 1) = Hp.optU ds f i ++ Hp.optAt f i d := by rw [optU_succ, hgd]
    have two : (0 : Int) < 2 := by decide
    have cd : ∀ x : Int, CDiv x 2 := fun x => ⟨by decide, by decide⟩
    have hdl : (Hp.optAt f i d).length ≤ 2002 := by have := optAt_len f i d; omega
    have putM : ∀ (H3 : Hp) (ks3 : List (Key × V)) (xs3 : List Nat) (t : Nat), Same H H3 → H3 z = some (.dK ks3) → Keys ks3 (xs3.map fun n : Nat => (n : Int)) → xs3.length ≤ 20000 →
        ∃ ks4, DPut H3 z (.int (t : Int)) (.bl true) (upd H3 z (.dK ks4)) ∧ Keys ks4 ((xs3 ++ [t]).map fun n : Nat => (n : Int)) ∧ Same H (upd H3 z (.dK ks4)) := by
      intro H3 ks3 xs3 t sm3 hz3 hk3 hl3
      refine ⟨_, DPut.k (k := Sum.inl (t : Int)) hz3 ?_, ?_, keep _ _ sm3⟩
      · have := hk3.len
        rw [List.length_map] at this
        exact Nat.lt_of_le_of_lt (Nat.le_trans this hl3) (by decide)
      · have := hk3.put (t : Int) (.bl true)
        rw [List.map_append]
        exact this
    refine ⟨_, rfl, _, rfl, _, _, rfl, rfl, _, _, rfl, rfl, ?_⟩
    -- if rest == 0
    refine ⟨fun σ' H3 => σ' = [some (.ref a), some (.ref p), some (.int (f.length : Int)), some (.ref z), some (.int (i : Int)), some (I d), some (.int ((f.length : Int) - (i : Int) - 1)), x7] ∧ ∃ ks3, Keys ks3 ((Hp.optU ds f i ++ (if f.length = i + 1 ∧ d % 2 = 1 then [0] else [])).map fun n : Nat => (n : Int)) ∧ H3 z = some (.dK ks3) ∧ Same H H3, ?_, ?_⟩
    · have e1 : ((f.length : Int) - (i : Int) - 1 = 0) = (f.length = i + 1) := propext ⟨fun h => by omega, fun h => by omega⟩
      have e2 : ((d : Int) % 2 = 1) = (d % 2 = 1) := propext ⟨fun h => by omega, fun h => by omega⟩
      simp only [tRet, tAndV, tOrV, tNotV, tAnd, tOr, tNot, tB, tTest, tCB, tCons, tNil, tVar, tC, L2.start, tOp, tUn, tIf, tIfS, tSeq, tAsg, gName, tNext, tNever, tPar, tDrop, tCall, tChain, rI, rI0, rU, rEq, rNe, scal, List.map, List.length, List.replicate, List.append, List.set, List.cons_append, List.nil_append, List.append_nil,
  List.getElem?_cons_zero, List.getElem?_cons_succ, List.set_cons_zero, List.set_cons_succ, Option.some.injEq, exists_eq_left', exists_eq_left, exists_eq_right, exists_eq_right', exists_and_left, V.int.injEq, V.bl.injEq, V.str.injEq, V.ref.injEq, List.cons.injEq, and_true, true_and, and_self, Nat.reduceAdd, Nat.reduceSub, Nat.sub_self, decide_eq_true_eq, Bool.not_eq_true', decide_eq_false_iff_not, ↓reduceIte, Bool.false_eq_true, TG.ex2_eq, TG.ex3_eq, TG.ex4_eq, e1, e2, two]
      by_cases c1 : f.length = i + 1
      · by_cases c2 : d % 2 = 1
        · rw [if_pos c1, if_pos c2, if_pos ⟨c1, c2⟩]
          obtain ⟨ks4, p4, k4, s4⟩ := putM H2 ks (Hp.optU ds f i) 0 sm2 hz2 hk (by omega)
          exact ⟨_, rfl, _, _, rfl, p4, rfl, ks4, k4, upd_same, s4⟩
        · rw [if_pos c1, if_neg c2, if_neg (fun h => c2 h.2), List.append_nil]
          exact ⟨ks, hk, hz2, sm2⟩
      · rw [if_neg c1, if_neg (fun h => c1 h.1), List.append_nil]
        exact ⟨ks, hk, hz2, sm2⟩
    rintro σ' H3 ⟨rfl, ks3, hk3, hz3, sm3⟩
    have l3 : (Hp.optU ds f i ++ (if f.length = i + 1 ∧ d % 2 = 1 then [0] else [])).length ≤ 6 * 2002 + 1 := by
      rw [List.length_append]
      split <;> simp <;> omega
    generalize hx3 : Hp.optU ds f i ++ (if f.length = i + 1 ∧ d % 2 = 1 then [0] else []) = xs3 at hk3 l3
    -- if rest > 0
    refine ⟨fun σ' H4 => σ' = [some (.ref a), some (.ref p), some (.int (f.length : Int)), some (.ref z), some (.int (i : Int)), some (I d), some (.int ((f.length : Int) - (i : Int) - 1)), x7] ∧ ∃ ks4, Keys ks4 ((xs3 ++ (if i + 1 < f.length ∧ d / 2 % 2 = 1 then [Hp.ge f (f.length - i - 1)] else [])).map fun n : Nat => (n : Int)) ∧ H4 z = some (.dK ks4) ∧ Same H H4, ?_, ?_⟩
    · have e1 : (0 < (f.length : Int) - (i : Int) - 1) = (i + 1 < f.length) := propext ⟨fun h => by omega, fun h => by omega⟩
      have e2 : ((d : Int) / 2 % 2 = 1) = (d / 2 % 2 = 1) := propext ⟨fun h => by omega, fun h => by omega⟩
      simp only [tRet, tAndV, tOrV, tNotV, tAnd, tOr, tNot, tB, tTest, tCB, tCons, tNil, tVar, tC, L2.start, tOp, tUn, tIf, tIfS, tSeq, tAsg, gName, tNext, tNever, tPar, tDrop, tCall, tChain, rI, rI0, rU, rEq, rNe, scal, List.map, List.length, List.replicate, List.append, List.set, List.cons_append, List.nil_append, List.append_nil,
  List.getElem?_cons_zero, List.getElem?_cons_succ, List.set_cons_zero, List.set_cons_succ, Option.some.injEq, exists_eq_left', exists_eq_left, exists_eq_right, exists_eq_right', exists_and_left, V.int.injEq, V.bl.injEq, V.str.injEq, V.ref.injEq, List.cons.injEq, and_true, true_and, and_self, Nat.reduceAdd, Nat.reduceSub, Nat.sub_self, decide_eq_true_eq, Bool.not_eq_true', decide_eq_false_iff_not, ↓reduceIte, Bool.false_eq_true, TG.ex2_eq, TG.ex3_eq, TG.ex4_eq, e1, e2, two, cd]
      by_cases c1 : i + 1 < f.length
      · by_cases c2 : d / 2 % 2 = 1
        · rw [if_pos c1, if_pos c2, if_pos ⟨c1, c2⟩]
          obtain ⟨ks4, p4, k4, s4⟩ := putM H3 ks3 xs3 (Hp.ge f (f.length - i - 1)) sm3 hz3 hk3 (by omega)
          have er : (f.length : Int) - (i : Int) - 1 = ((f.length - i - 1 : Nat) : Int) := by omega
          refine ⟨_, rfl, _, rfl, _, rfl, p, _, _, _, rfl, rfl, sqL sm3 hF, ?_, z, _, rfl, p4, rfl, ks4, k4, upd_same, s4⟩
          rw [er]
          exact at_ge (by omega)
        · rw [if_pos c1, if_neg c2, if_neg (fun h => c2 h.2), List.append_nil]
          exact ⟨ks3, hk3, hz3, sm3⟩
      · rw [if_neg c1, if_neg (fun h => c1 h.1), List.append_nil]
        exact ⟨ks3, hk3, hz3, sm3⟩
    rintro σ' H4 ⟨rfl, ks4, hk4, hz4, sm4⟩
    have l4 : (xs3 ++ (if i + 1 < f.length ∧ d / 2 % 2 = 1 then [Hp.ge f (f.length - i - 1)] else [])).length ≤ 6 * 2002 + 2 := by
      rw [List.length_append]
      split <;> simp <;> omega
    generalize hx4 : xs3 ++ (if i + 1 < f.length ∧ d / 2 % 2 = 1 then [Hp.ge f (f.length - i - 1)] else []) = xs4 at hk4 l4
    have opt2 : Hp.optU ds f (i + 1) = xs4 ++ (if 4 ≤ d then (List.range ((f.length - i - 1) / 2)).map fun p => Hp.ge f (p + 1) ^^^ Hp.ge f (f.length - i - 1 - (p + 1)) else []) := by
      rw [opt1, ← hx4, ← hx3]
      unfold Hp.optAt
      rw [List.append_assoc, List.append_assoc, List.append_assoc]
    -- if digit >= 4
    refine ⟨_, rfl, _, _, rfl, rfl, _, rfl, ?_⟩
    by_cases c4 : 4 ≤ d
    · rw [decide_eq_true (by omega : (4 : Int) ≤ (d : Int))]
      rw [if_pos c4] at opt2
      have er : ((f.length : Int) - (i : Int) - 1) / 2 + 1 - 1 = (((f.length : Int) - (i : Int) - 1) / 2) := by omega
      have en : (((f.length : Int) - (i : Int) - 1) / 2 + 1 - 1).toNat = (f.length - i - 1) / 2 := by omega
      refine iteT ⟨_, rfl, _, _, rfl, rfl, cd _, _, _, rfl, rfl, _, _, rfl, ⟨by decide, by decide, by omega, by omega⟩, ?_⟩
      rw [en]
      refine for_range (lo := 1) (n := (f.length - i - 1) / 2) (fun j σ' H5 => ∃ y7 ks5, σ' = [some (.ref a), some (.ref p), some (.int (f.length : Int)), some (.ref z), some (.int (i : Int)), some (I d), some (.int ((f.length : Int) - (i : Int) - 1)), y7] ∧ Keys ks5 ((xs4 ++ (List.range j).map fun p => Hp.ge f (p + 1) ^^^ Hp.ge f (f.length - i - 1 - (p + 1))).map fun n : Nat => (n : Int)) ∧ H5 z = some (.dK ks5) ∧ Same H H5) ?_ ?_ ?_
      · exact ⟨x7, ks4, rfl, by simpa using hk4, hz4, sm4⟩
      · rintro j σ' H5 hj ⟨y7, ks5, rfl, hk5, hz5, sm5⟩
        obtain ⟨ks6, p6, k6, s6⟩ := putM H5 ks5 _ (Hp.ge f (j + 1) ^^^ Hp.ge f (f.length - i - 1 - (j + 1))) sm5 hz5 hk5 (by rw [List.length_append, List.length_map, List.length_range]; omega)
        have a1 : atI (f.map I) (1 + (j : Int)) = some (I (Hp.ge f (j + 1))) := by
          rw [show (1 : Int) + (j : Int) = ((j + 1 : Nat) : Int) by omega]
          exact at_ge (by omega)
        have a2 : atI (f.map I) ((f.length : Int) - (i : Int) - 1 - (1 + (j : Int))) = some (I (Hp.ge f (f.length - i - 1 - (j + 1)))) := by
          rw [show (f.length : Int) - (i : Int) - 1 - (1 + (j : Int)) = ((f.length - i - 1 - (j + 1) : Nat) : Int) by omega]
          exact at_ge (by omega)
        rw [← xorI] at p6
        refine ⟨_, rfl, _, rfl, _, rfl, p, _, _, _, rfl, rfl, sqL sm5 hF, a1, _, rfl, _, rfl, _, rfl, _, _, rfl, rfl, p, _, _, _, rfl, rfl, sqL sm5 hF, a2, _, _, rfl, rfl, z, _, rfl, p6, _, ks6, rfl, ?_, upd_same, s6⟩
        have eL : xs4 ++ (List.range (j + 1)).map (fun p => Hp.ge f (p + 1) ^^^ Hp.ge f (f.length - i - 1 - (p + 1))) = xs4 ++ (List.range j).map (fun p => Hp.ge f (p + 1) ^^^ Hp.ge f (f.length - i - 1 - (p + 1))) ++ [Hp.ge f (j + 1) ^^^ Hp.ge f (f.length - i - 1 - (j + 1))] := by
          rw [List.range_succ, List.map_append, List.append_assoc]
          rfl
        rw [eL]
        exact k6
      · rintro σ' H5 ⟨y7, ks5, rfl, hk5, hz5, sm5⟩
        rw [← opt2] at hk5
        exact ⟨ks5, _, _, _, _, rfl, hk5, hz5, sm5⟩
    · rw [decide_eq_false (by omega : ¬ (4 : Int) ≤ (d : Int))]
      rw [if_neg c4, List.append_nil] at opt2
      refine iteF ?_
      rw [← opt2] at hk4
      exact ⟨ks4, _, _, _, _, rfl, hk4, hz4, sm4⟩
  · rintro σ' H' ⟨ks, x4, x5, x6, x7, rfl, hk, hz1, sm1⟩
    rw [List.length_map] at hk
    refine ⟨_, rfl, z, ks, _, rfl, hz1, hk, ?_⟩
    exact q H' sm1
/-! ### values_to -/
def spTo (K : PySem.W.Frag) : Sp := fun vs H Q _ => ∃ (a : Addr) (n : Nat) (ds : List Nat), vs = [.ref a, .int (n : Int)] ∧ SqT K H a (ds.map I) ∧ ds.length ≤ 6 ∧ n ≤ 1500 ∧ ∀ p H', Same H H' → H p = none → H' p = some (.lst ((vals ds n).map I)) → Q (.ref p) H'
theorem ok_values_to {k : Nat} (T : Txt K mg) (G_value_after : FnOk P w K mg base CX0 k T.a_value_after T.d_value_after ["rule", "found"] (spAfter K)) : FnOk P w K mg base CX0 (k + 1) T.a_values_to T.d_values_to ["rule", "count"] (spTo K) := by
  refine T.F_values_to.ok sc_values_to (fun vs H Q E h => ?_) (fun cdv A outer s H vs Q E hr h => ?_)
  · obtain ⟨a, n, ds, rfl, _⟩ := h
    rfl
  obtain ⟨a, n, ds, rfl, hS, l6, hn, q⟩ := h
  refine ⟨_, (pss_cons (ps_set (i := 2) sc_values_to.nd rfl (Or.inl rfl) (pe_lst (pa_cons pe_int pa_nil)))
  (pss_cons (ps_while PassesOwn.never (pt_cmpR op_le (pe_callB (call_lenK (K := K) rfl) rfl T.m_len PySem.boot_len (pa_cons (pv 2) pa_nil)) (pv 1) (nomark _))
  (pss_one (ps_expr (pe_bmK (K := K) rfl PySem.F.plainAttrs_list PySem.F.slot_list_append PySem.F.type_list_append mt_append (pv 2) (pa_cons (pe_call G_value_after hr rfl T.g_value_after T.F_value_after.kp T.b_value_after .nil pass0 (pa_cons (pv 0) (pa_cons (pv 2) pa_nil))) pa_nil)))))
  (pss_one (ps_ret (pv 2))))), ?_⟩
  refine ⟨by decide, fun p hp => ?_⟩
  refine ⟨fun m σ' H' => ∃ j, j ≤ n ∧ m + j = n ∧ σ' = [some (.ref a), some (.int (n : Int)), some (.ref p)] ∧ H' p = some (.lst ((vals ds j).map I)) ∧ Same H H', ⟨n, 0, Nat.zero_le _, rfl, rfl, upd_same, same_new hp _⟩, ?_⟩
  rintro m σ' H' ⟨j, hj, hm, rfl, hp1, sm⟩
  have hlen : ((((vals ds j).map I).length : Nat) : Int) = ((j + 1 : Nat) : Int) := by rw [List.length_map, Hp.vals_len]
  refine ⟨_, rfl, p, _, rfl, .inl (SqL.of hp1), _, rfl, _, _, rfl, rfl, _, rfl, ?_⟩
  rw [hlen]
  by_cases c : j + 1 ≤ n
  · rw [decide_eq_true (by omega : ((j + 1 : Nat) : Int) ≤ (n : Int))]
    refine iteT ⟨fun σ2 H2 => σ2 = [some (.ref a), some (.int (n : Int)), some (.ref p)] ∧ H2 p = some (.lst ((vals ds (j + 1)).map I)) ∧ Same H H2, fun σ2 H2 z => ⟨m - 1, by omega, j + 1, c, by omega, z.1, z.2.1, z.2.2⟩, ?_⟩
    refine ⟨_, rfl, .inl ⟨rfl, _, SqL.of hp1⟩, _, rfl, _, rfl, a, p, ds, vals ds j, rfl, sqT sm hS, SqL.of hp1, l6, ?_, ?_, fun H2 s2 => ?_⟩
    · rw [Hp.vals_len]; omega
    · rw [Hp.vals_len]; omega
    refine ⟨p, _, _, rfl, rfl, s2 _ _ hp1, ?_, rfl, ?_, ?_⟩
    · rw [List.length_map, Hp.vals_len]
      exact Nat.lt_of_le_of_lt (by omega : j + 1 ≤ 1500) (by decide)
    · rw [upd_same, vals_succ, List.map_append]
      rfl
    · intro b u e
      rw [upd_ne (ne_of_none e hp)]
      exact s2 _ _ (sm b u e)
  · rw [decide_eq_false (by omega : ¬ ((j + 1 : Nat) : Int) ≤ (n : Int))]
    refine iteF ⟨_, rfl, ?_⟩
    have e : j = n := by omega
    rw [e] at hp1
    exact q p H' sm hp hp1
/-! ### heap_values -/
def spHV (K : PySem.W.Frag) : Sp := fun vs H Q _ => ∃ (a : Addr) (n : Nat) (ds : List Nat), vs = [.ref a, .int (n : Int)] ∧ SqT K H a (ds.map I) ∧ RuleOk ds ∧ n ≤ 400 ∧ ∀ p H', Same H H' → H p = none → H' p = some (.tup ((vals ds n).map I)) → Q (.ref p) H'
theorem ok_heap_values {k : Nat} (T : Txt K mg) (G_need_rule : FnOk P w K mg base CX0 k T.a_need_rule T.d_need_rule ["value"] (spRule K)) (G_need_number : FnOk P w K mg base CX0 k T.a_need_number T.d_need_number ["value", "least", "most"] spNeed)
    (G_values_to : FnOk P w K mg base CX0 k T.a_values_to T.d_values_to ["rule", "count"] (spTo K)) : FnOk P w K mg base CX0 (k + 1) T.a_heap_values T.d_heap_values ["rule", "count"] (spHV K) := by
  refine T.F_heap_values.ok sc_heap_values (fun vs H Q E h => ?_) (fun cdv A outer s H vs Q E hr h => ?_)
  · obtain ⟨a, n, ds, rfl, _⟩ := h
    rfl
  obtain ⟨a, n, ds, rfl, hS, hR, hn, q⟩ := h
  refine ⟨_, (pss_cons (ps_expr (pe_call G_need_rule hr rfl T.g_need_rule T.F_need_rule.kp T.b_need_rule .nil pass0 (pa_cons (pv 0) pa_nil)))
  (pss_cons (ps_expr (pe_call G_need_number hr rfl T.g_need_number T.F_need_number.kp T.b_need_number .nil pass0 (pa_cons (pv 1) (pa_cons pe_int (pa_cons (pe_glob (v := .int 400) rfl T.c_MOST_COUNT ⟨_, rfl⟩) pa_nil)))))
  (pss_one (ps_ret (pe_callTy (call_tuple_ofK (K := K) rfl) rfl T.m_tuple (by decide +kernel) (pa_cons (pe_call G_values_to hr rfl T.g_values_to T.F_values_to.kp T.b_values_to .nil pass0 (pa_cons (pv 0) (pa_cons (pv 1) pa_nil))) pa_nil)))))), ?_⟩
  refine ⟨_, rfl, a, ds, rfl, hS, hR, fun H1 s1 => ?_⟩
  refine ⟨_, rfl, _, _, _, rfl, ⟨by omega, by omega⟩, ?_⟩
  refine ⟨_, rfl, _, rfl, a, n, ds, rfl, sqT s1 hS, hR.l6, by omega, fun p H2 s2 hp h2 => ?_⟩
  refine ⟨p, _, rfl, .inl ⟨SqL.of h2, fun l hl => ?_⟩⟩
  exact q l _ ((s1.trans s2).trans (same_new hl _)) ((s1.trans s2).free hl) upd_same
end
end K56


set_option Elab.async false
set_option linter.all false
set_option maxRecDepth 100000
set_option maxHeartbeats 4000000
namespace K56
open PySem L2 TG
/-- the period holds as far as it is looked at -/
def Shows (ds : List Nat) (l s : Nat) : Prop := ∀ n, s ≤ n → n ≤ 2 * s + 2 * l + ds.length → g ds n = g ds (n + l)
theorem Shows.ever {ds : List Nat} {l s : Nat} (hl : 1 ≤ l) (h : Shows ds l s) : ∀ n, s ≤ n → g ds n = g ds (n + l) := Hp.period mexN mexN_ok ds hl h
section
variable {P : Program} {w : World} {K : PySem.W.Frag} {mg : Str → Option Value} {base : Heap}
def spEnd (K : PySem.W.Frag) : Sp := fun vs H Q _ => ∃ (a : Addr) (s l : Int) (ds : List Nat), vs = [.ref a, .int s, .int l] ∧ SqT K H a (ds.map I) ∧ Q (.int (2 * s + 2 * l + (ds.length : Int))) H
theorem ok_end_of {k : Nat} (T : Txt K mg) : FnOk P w K mg base CX0 (k + 1) T.a_end_of T.d_end_of ["rule", "start", "length"] (spEnd K) := by
  refine T.F_end_of.ok sc_end_of (fun vs H Q E h => ?_) (fun cdv A outer s H vs Q E hr h => ?_)
  · obtain ⟨a, s, l, ds, rfl, _⟩ := h
    rfl
  obtain ⟨a, s, l, ds, rfl, hS, q⟩ := h
  refine ⟨_, (pss_one (ps_ret (pe_op op_add (pe_op op_add (pe_op op_mul pe_int (pv 1)) (pe_op op_mul pe_int (pv 2))) (pe_callB (call_lenK (K := K) rfl) rfl T.m_len PySem.boot_len (pa_cons (pv 0) pa_nil))))), ?_⟩
  have c2 : ∀ x : Int, CMul 2 x := fun x => .inl ⟨by decide, by decide⟩
  refine ⟨_, rfl, _, _, rfl, rfl, c2 _, _, rfl, _, _, rfl, rfl, c2 _, _, _, rfl, rfl, _, rfl, a, _, rfl, .inr hS, _, _, rfl, rfl, ?_⟩
  rw [List.length_map]
  exact q
theorem at_val {ds : List Nat} {n i : Nat} (h : i ≤ n) : atI ((vals ds n).map I) ((i : Nat) : Int) = some (I (g ds i)) := by
  rw [at_ge (by rw [Hp.vals_len]; omega)]
  exact congrArg (fun x => some (I x)) (Hp.vals_get mexN ds n i h)
theorem dec_I (a b : Nat) : decide (I a = I b) = decide (a = b) := by
  by_cases h : a = b
  · subst h
    simp
  · rw [decide_eq_false h]
    refine decide_eq_false fun z => h ?_
    have := V.int.inj z
    omega
/-! ### shows_period -/
def spShows (K : PySem.W.Frag) : Sp := fun vs H Q _ => ∃ (a p : Addr) (ds : List Nat) (s l : Nat), vs = [.ref a, .ref p] ∧ SqT K H a (ds.map I) ∧ RuleOk ds ∧ SqT K H p [I s, I l] ∧ s ≤ 200 ∧ 1 ≤ l ∧ l ≤ 100 ∧ ∀ (b : Bool) H', (b = true ↔ Shows ds l s) → Same H H' → Q (.bl b) H'
theorem ok_shows_period {k : Nat} (T : Txt K mg) (G_need_rule : FnOk P w K mg base CX0 k T.a_need_rule T.d_need_rule ["value"] (spRule K)) (G_is_in : FnOk P w K mg base CX0 k T.a_is_in T.d_is_in ["value", "least", "most"] spIsIn)
    (G_end_of : FnOk P w K mg base CX0 k T.a_end_of T.d_end_of ["rule", "start", "length"] (spEnd K)) (G_values_to : FnOk P w K mg base CX0 k T.a_values_to T.d_values_to ["rule", "count"] (spTo K)) : FnOk P w K mg base CX0 (k + 1) T.a_shows_period T.d_shows_period ["rule", "period"] (spShows K) := by
  refine T.F_shows_period.ok sc_shows_period (fun vs H Q E h => ?_) (fun cdv A outer s H vs Q E hr h => ?_)
  · obtain ⟨a, p, ds, s, l, rfl, _⟩ := h
    rfl
  obtain ⟨a, p, ds, s, l, rfl, hS, hR, hP, hs, hl1, hl2, q⟩ := h
  refine ⟨_, (pss_cons (ps_expr (pe_call G_need_rule hr rfl T.g_need_rule T.F_need_rule.kp T.b_need_rule .nil pass0 (pa_cons (pv 0) pa_nil)))
  (pss_cons (ps_if (PW.pt (pw_or (pt_not (pt_val (pe_callB (call_isiG (K := K) rfl) rfl T.m_isinstance (by decide +kernel) (pa_cons (pv 1) (pa_cons (pe_bltn (v := .ty "tuple") (u := .type "tuple") rfl T.m_tuple (by decide +kernel) rfl) pa_nil))))) (pw_or1 (pt_cmpR op_ne (pe_callB (call_lenK (K := K) rfl) rfl T.m_len PySem.boot_len (pa_cons (pv 1) pa_nil)) pe_int (nomark _)))))
  (pss_one ps_never)
  pss_nil)
  (pss_cons (ps_if (PW.pt (pw_or (pt_not (pt_val (pe_call G_is_in hr rfl T.g_is_in T.F_is_in.kp T.b_is_in .nil pass0 (pa_cons (pe_ix (ix_tupK (K := K) rfl) (pv 1) pe_int (fun _ _ => rfl)) (pa_cons pe_int (pa_cons (pe_glob (v := .int 200) rfl T.c_MOST_START ⟨_, rfl⟩) pa_nil)))))) (pw_or1 (pt_not (pt_val (pe_call G_is_in hr rfl T.g_is_in T.F_is_in.kp T.b_is_in .nil pass0 (pa_cons (pe_ix (ix_tupK (K := K) rfl) (pv 1) pe_int (fun _ _ => rfl)) (pa_cons pe_int (pa_cons (pe_glob (v := .int 100) rfl T.c_MOST_LENGTH ⟨_, rfl⟩) pa_nil)))))))))
  (pss_one ps_never)
  pss_nil)
  (pss_cons (ps_asg (pv 1) (pg_tupK (K := K) (n := 2) rfl rfl (pgs_cons (pg_name (i := 2) sc_shows_period.nd rfl (Or.inl rfl)) (pgs_cons (pg_name (i := 3) sc_shows_period.nd rfl (Or.inr rfl)) pgs_nil))))
  (pss_cons (ps_set (i := 4) sc_shows_period.nd rfl (Or.inl rfl) (pe_call G_end_of hr rfl T.g_end_of T.F_end_of.kp T.b_end_of .nil pass0 (pa_cons (pv 0) (pa_cons (pv 2) (pa_cons (pv 3) pa_nil)))))
  (pss_cons (ps_set (i := 5) sc_shows_period.nd rfl (Or.inr rfl) (pe_call G_values_to hr rfl T.g_values_to T.F_values_to.kp T.b_values_to .nil pass0 (pa_cons (pv 0) (pa_cons (pe_op op_add (pv 4) (pv 3)) pa_nil))))
  (pss_one (ps_ret (pe_callB (cr_allK (K := K) rfl rfl) rfl T.m_all (by decide +kernel) (pa_cons (pe_lc (own := [("size", 6)]) rfl sc_shows_period.nd (pi_range2 rfl T.m_range (pa_cons (pv 2) (pa_cons (pe_op op_add (pv 4) pe_int) pa_nil))) (blkOk_by (N := ["rule", "period", "start", "length", "last", "values", "size"]) (sc := defScope s_shows_period) (by decide +kernel)) (fun _ _ _ _ _ => (pg_name (i := 6) sc_shows_period.nd rfl (Or.inl rfl))) (fun _ _ _ _ _ => pts_nil) (fun _ _ _ _ _ => (pe_cmpR op_eq (pe_ix (ix_listK (K := K) rfl) (pv 5) (pv 6) (fun _ _ => rfl)) (pe_ix (ix_listK (K := K) rfl) (pv 5) (pe_op op_add (pv 6) (pv 3)) (fun _ _ => rfl)) (nomark _)))) pa_nil)))))))))), ?_⟩
  have l6 := hR.l6
  refine ⟨_, rfl, a, ds, rfl, hS, hR, fun H1 s1 => ?_⟩
  have hP1 := sqT s1 hP
  have hS1 := sqT s1 hS
  refine ⟨_, rfl, _, _, _, _, rfl, TyN.tup hP1, kit_tuple_tuple, _, rfl, iteF ?_⟩
  refine ⟨_, rfl, p, _, rfl, .inr hP1, rfl, _, rfl, iteF ?_⟩
  dsimp only [tNext]
  refine ⟨_, rfl, p, _, 0, _, rfl, rfl, hP1, rfl, _, _, _, rfl, _, rfl, ?_⟩
  rw [decide_eq_true (by omega), decide_eq_true (by omega)]
  refine iteF ?_
  refine ⟨_, rfl, p, _, 1, _, rfl, rfl, hP1, rfl, _, _, _, rfl, _, rfl, ?_⟩
  rw [decide_eq_true (by omega), decide_eq_true (by omega)]
  refine iteF ?_
  dsimp only [tNext]
  -- start, length = period
  refine ⟨_, rfl, p, _, rfl, hP1, rfl, _, _, rfl, _, _, rfl, rfl, ?_⟩
  -- last, values
  refine ⟨_, rfl, _, rfl, _, rfl, a, _, _, ds, rfl, hS1, ?_⟩
  refine ⟨_, rfl, _, rfl, _, rfl, _, _, rfl, rfl, a, 2 * s + 2 * l + ds.length + l, ds, ?_, hS1, l6, by omega, fun vp H2 s2 hv h2 => ?_⟩
  · show [V.ref a, V.int (2 * (s : Int) + 2 * (l : Int) + (ds.length : Int) + (l : Int))] = _
    rw [show (2 * (s : Int) + 2 * (l : Int) + (ds.length : Int) + (l : Int)) = ((2 * s + 2 * l + ds.length + l : Nat) : Int) by omega]
  dsimp only [gName]
  refine go_ret (go_cb (go_cons ?_))
  refine el_lcR2 (lo := (s : Int)) (hi := 2 * (s : Int) + 2 * (l : Int) + (ds.length : Int) + 1) (fun _ => true) (fun i => .bl (decide (g ds (s + i) = g ds (s + i + l)))) ?_ ?_ ?_ ?_ ?_ H2 (Evl.Ex.refl H2) _ ?_
  · intro H3 e3 Q3 q3
    exact ⟨_, rfl, _, rfl, _, _, rfl, rfl, q3 H3 (Evl.Ex.refl H3)⟩
  · omega
  · intro x
    rfl
  · intro i H3 e3 _ H4 e4 Q4 q4
    exact q4 H4 (Evl.Ex.refl H4)
  · intro i H3 e3 hi _ H4 e4 Q4 q4
    have e1 : (s : Int) + (i : Int) = ((s + i : Nat) : Int) := by omega
    have e2 : (s : Int) + (i : Int) + (l : Int) = ((s + i + l : Nat) : Int) := by omega
    refine ⟨_, rfl, _, rfl, vp, _, _, I (g ds (s + i)), rfl, rfl, SqL.of (e4 _ _ (e3 _ _ h2)), ?_, _, rfl, _, rfl, _, rfl, _, _, rfl, rfl, vp, _, _, I (g ds (s + i + l)), rfl, rfl, SqL.of (e4 _ _ (e3 _ _ h2)), ?_, rfl, ?_⟩
    · rw [e1]
      exact at_val (by omega)
    · rw [e2]
      exact at_val (by omega)
    · rw [dec_I]
      exact q4 H4 (Evl.Ex.refl H4)
  · intro D1 H3 hD e3 h3
    have hn : (2 * (s : Int) + 2 * (l : Int) + (ds.length : Int) + 1 - (s : Int)).toNat = s + 2 * l + ds.length + 1 := by omega
    rw [hn, given_all] at h3
    have hm : (List.range (s + 2 * l + ds.length + 1)).map (fun i => V.bl (decide (g ds (s + i) = g ds (s + i + l)))) = ((List.range (s + 2 * l + ds.length + 1)).map fun i => decide (g ds (s + i) = g ds (s + i + l))).map V.bl := by
      rw [List.map_map]
      rfl
    rw [hm] at h3
    refine ⟨D1, _, rfl, SqL.of h3, ?_⟩
    refine q _ H3 ?_ ((s1.trans s2).trans e3)
    rw [List.all_map, List.all_eq_true]
    constructor
    · intro h n h1 h2
      have := h (n - s) (List.mem_range.mpr (by omega))
      simp only [Function.comp, id, decide_eq_true_eq] at this
      rw [show s + (n - s) = n by omega] at this
      exact this
    · intro h i hi
      have hi' := List.mem_range.mp hi
      simp only [Function.comp, id, decide_eq_true_eq]
      exact h (s + i) (by omega) (by omega)
/-! ### least_start -/
def spLeast (K : PySem.W.Frag) : Sp := fun vs H Q _ => ∃ (a p : Addr) (ds : List Nat) (l : Nat), vs = [.ref a, .ref p, .int (l : Int)] ∧ SqT K H a (ds.map I) ∧ ds.length ≤ 6 ∧ SqL K H p ((vals ds (700 + ds.length)).map I) ∧ 1 ≤ l ∧ l ≤ 100 ∧
  (∀ s : Nat, s ≤ 200 → Shows ds l s → (∀ s', s' < s → ¬ Shows ds l s') → Q (.int (s : Int)) H) ∧ ((∀ s, s ≤ 200 → ¬ Shows ds l s) → Q .non H)
theorem ok_least_start {k : Nat} (T : Txt K mg) (G_end_of : FnOk P w K mg base CX0 k T.a_end_of T.d_end_of ["rule", "start", "length"] (spEnd K)) : FnOk P w K mg base CX0 (k + 1) T.a_least_start T.d_least_start ["rule", "values", "length"] (spLeast K) := by
  refine T.F_least_start.ok sc_least_start (fun vs H Q E h => ?_) (fun cdv A outer s H vs Q E hr h => ?_)
  · obtain ⟨a, p, ds, l, rfl, _⟩ := h
    rfl
  obtain ⟨a, p, ds, l, rfl, hS, l6, hV, hl1, hl2, q1, q2⟩ := h
  refine ⟨_, (pss_cons (ps_set (i := 3) sc_least_start.nd rfl (Or.inl rfl) pe_int)
  (pss_cons (ps_for PassesOwn.never rfl (pi_range1 rfl T.m_range (pa_cons (pe_op op_sub (pe_callB (call_lenK (K := K) rfl) rfl T.m_len PySem.boot_len (pa_cons (pv 1) pa_nil)) (pv 2)) pa_nil)) (pg_name (i := 4) sc_least_start.nd rfl (Or.inl rfl))
  (pss_one (ps_if (pt_cmpR op_ne (pe_ix (ix_listK (K := K) rfl) (pv 1) (pv 4) (fun _ _ => rfl)) (pe_ix (ix_listK (K := K) rfl) (pv 1) (pe_op op_add (pv 4) (pv 2)) (fun _ _ => rfl)) (nomark _))
  (pss_cons (ps_if (pt_cmpR op_gt (pv 4) (pe_call G_end_of hr rfl T.g_end_of T.F_end_of.kp T.b_end_of .nil pass0 (pa_cons (pv 0) (pa_cons (pv 3) (pa_cons (pv 2) pa_nil)))) (nomark _))
  (pss_one (ps_ret (pv 3)))
  pss_nil)
  (pss_cons (ps_set (i := 3) sc_least_start.nd rfl (Or.inl rfl) (pe_op op_add (pv 4) pe_int))
  (pss_one (ps_if (pt_cmpR op_gt (pv 3) (pe_glob (v := .int 200) rfl T.c_MOST_START ⟨_, rfl⟩) (nomark _))
  (pss_one (ps_ret pe_non))
  pss_nil))))
  pss_nil)))
  (pss_one (ps_ret (pv 3))))), ?_⟩
  have hlen : ((((vals ds (700 + ds.length)).map I).length : Nat) : Int) = ((701 + ds.length : Nat) : Int) := by
    rw [List.length_map, Hp.vals_len]
    congr 1
    omega
  refine ⟨_, rfl, p, _, rfl, .inl hV, _, rfl, _, _, rfl, rfl, _, rfl, ?_⟩
  rw [hlen]
  have hn : (((701 + ds.length : Nat) : Int) - (l : Int)).toNat = 701 + ds.length - l := by omega
  refine ⟨by omega, by omega, ?_⟩
  rw [hn]
  refine for_range (lo := 0) (n := 701 + ds.length - l) (fun i σ' H' => ∃ (s : Nat) (x4 : Option V), σ' = [some (.ref a), some (.ref p), some (.int (l : Int)), some (.int (s : Int)), x4] ∧ H' = H ∧ s ≤ i ∧ s ≤ 200 ∧ (∀ n, s ≤ n → n < i → g ds n = g ds (n + l)) ∧ ∀ s', s' < s → ¬ Shows ds l s') ?_ ?_ ?_
  · exact ⟨0, none, rfl, rfl, Nat.le_refl _, Nat.zero_le _, fun n _ h => by omega, fun s' h => by omega⟩
  · rintro i σ' H' hi ⟨s, x4, rfl, rfl, hsi, hs2, hok, hno⟩
    rw [Int.zero_add]
    have e2 : (i : Int) + (l : Int) = ((i + l : Nat) : Int) := by omega
    refine ⟨_, rfl, _, rfl, p, _, _, I (g ds i), rfl, rfl, hV, at_val (by omega), _, rfl, _, rfl, _, rfl, _, _, rfl, rfl, p, _, _, I (g ds (i + l)), rfl, rfl, hV, ?_, rfl, _, rfl, ?_⟩
    · rw [e2]
      exact at_val (by omega)
    rw [dec_I]
    by_cases c : g ds i = g ds (i + l)
    · rw [decide_eq_true c]
      refine iteF ?_
      refine ⟨s, _, rfl, rfl, by omega, hs2, fun n h1 h2 => ?_, hno⟩
      by_cases e : n = i
      · rw [e]; exact c
      · exact hok n h1 (by omega)
    · rw [decide_eq_false c]
      refine iteT ?_
      refine ⟨_, rfl, _, rfl, _, rfl, _, rfl, a, _, _, ds, rfl, hS, _, _, rfl, rfl, _, rfl, ?_⟩
      by_cases c2 : 2 * s + 2 * l + ds.length < i
      · rw [decide_eq_true (by omega)]
        refine iteT ⟨_, rfl, ?_⟩
        exact q1 s hs2 (fun n h1 h2 => hok n h1 (by omega)) hno
      · rw [decide_eq_false (by omega)]
        refine iteF ?_
        have hno' : ∀ s', s' < i + 1 → ¬ Shows ds l s' := fun s' h hsh => by
          by_cases cs : s' < s
          · exact hno s' cs hsh
          · exact c (hsh i (by omega) (by omega))
        refine ⟨_, rfl, _, _, rfl, rfl, _, rfl, _, _, rfl, rfl, _, rfl, ?_⟩
        by_cases c3 : 200 < i + 1
        · rw [decide_eq_true (by omega)]
          refine iteT ?_
          exact q2 fun s' h => hno' s' (by omega)
        · rw [decide_eq_false (by omega)]
          refine iteF ?_
          exact ⟨i + 1, _, rfl, rfl, Nat.le_refl _, by omega, fun n h1 h2 => by omega, hno'⟩
  · rintro σ' H' ⟨s, x4, rfl, rfl, hsi, hs2, hok, hno⟩
    refine ⟨_, rfl, ?_⟩
    exact q1 s hs2 (fun n h1 h2 => hok n h1 (by omega)) hno
/-! ### period_of -/
def spPeriod (K : PySem.W.Frag) : Sp := fun vs H Q _ => ∃ (a : Addr) (ds : List Nat), vs = [.ref a] ∧ SqT K H a (ds.map I) ∧ RuleOk ds ∧
  (∀ (s l : Nat) (p : Addr) (H' : Hp), 1 ≤ l → l ≤ 100 → s ≤ 200 → Shows ds l s → (∀ s', s' < s → ¬ Shows ds l s') → (∀ l' s', 1 ≤ l' → l' < l → s' ≤ 200 → ¬ Shows ds l' s') → Same H H' → H p = none → H' p = some (.tup [I s, I l]) → Q (.ref p) H') ∧
  ∀ H', (∀ l' s', 1 ≤ l' → l' ≤ 100 → s' ≤ 200 → ¬ Shows ds l' s') → Same H H' → Q .non H'
theorem ok_period_of {k : Nat} (T : Txt K mg) (G_need_rule : FnOk P w K mg base CX0 k T.a_need_rule T.d_need_rule ["value"] (spRule K)) (G_end_of : FnOk P w K mg base CX0 k T.a_end_of T.d_end_of ["rule", "start", "length"] (spEnd K))
    (G_values_to : FnOk P w K mg base CX0 k T.a_values_to T.d_values_to ["rule", "count"] (spTo K)) (G_least_start : FnOk P w K mg base CX0 k T.a_least_start T.d_least_start ["rule", "values", "length"] (spLeast K)) : FnOk P w K mg base CX0 (k + 1) T.a_period_of T.d_period_of ["rule"] (spPeriod K) := by
  refine T.F_period_of.ok sc_period_of (fun vs H Q E h => ?_) (fun cdv A outer s H vs Q E hr h => ?_)
  · obtain ⟨a, ds, rfl, _⟩ := h
    rfl
  obtain ⟨a, ds, rfl, hS, hR, q1, q2⟩ := h
  have l6 := hR.l6
  refine ⟨_, (pss_cons (ps_expr (pe_call G_need_rule hr rfl T.g_need_rule T.F_need_rule.kp T.b_need_rule .nil pass0 (pa_cons (pv 0) pa_nil)))
  (pss_cons (ps_set (i := 1) sc_period_of.nd rfl (Or.inl rfl) (pe_call G_values_to hr rfl T.g_values_to T.F_values_to.kp T.b_values_to .nil pass0 (pa_cons (pv 0) (pa_cons (pe_op op_add (pe_call G_end_of hr rfl T.g_end_of T.F_end_of.kp T.b_end_of .nil pass0 (pa_cons (pv 0) (pa_cons (pe_glob (v := .int 200) rfl T.c_MOST_START ⟨_, rfl⟩) (pa_cons (pe_glob (v := .int 100) rfl T.c_MOST_LENGTH ⟨_, rfl⟩) pa_nil)))) (pe_glob (v := .int 100) rfl T.c_MOST_LENGTH ⟨_, rfl⟩)) pa_nil))))
  (pss_cons (ps_for PassesOwn.never rfl (pi_range2 rfl T.m_range (pa_cons pe_int (pa_cons (pe_op op_add (pe_glob (v := .int 100) rfl T.c_MOST_LENGTH ⟨_, rfl⟩) pe_int) pa_nil))) (pg_name (i := 2) sc_period_of.nd rfl (Or.inl rfl))
  (pss_cons (ps_set (i := 3) sc_period_of.nd rfl (Or.inl rfl) (pe_call G_least_start hr rfl T.g_least_start T.F_least_start.kp T.b_least_start .nil pass0 (pa_cons (pv 0) (pa_cons (pv 1) (pa_cons (pv 2) pa_nil)))))
  (pss_one (ps_if (pt_cmpR op_notN (pv 3) pe_non (nomark _))
  (pss_one (ps_ret (pe_tup (pa_cons (pv 3) (pa_cons (pv 2) pa_nil)))))
  pss_nil))))
  (pss_one (ps_ret pe_non))))), ?_⟩
  refine ⟨_, rfl, a, ds, rfl, hS, hR, fun H1 s1 => ?_⟩
  have hS1 := sqT s1 hS
  refine ⟨_, rfl, _, rfl, a, _, _, ds, rfl, hS1, _, _, rfl, rfl, a, 700 + ds.length, ds, ?_, hS1, l6, by omega, fun vp H2 s2 hv h2 => ?_⟩
  · show [V.ref a, V.int (2 * (200 : Int) + 2 * (100 : Int) + (ds.length : Int) + 100)] = _
    rw [show (2 * (200 : Int) + 2 * (100 : Int) + (ds.length : Int) + 100) = ((700 + ds.length : Nat) : Int) by omega]
  have hS2 := sqT s2 hS1
  refine ⟨_, _, rfl, rfl, _, _, rfl, ⟨by decide, by decide, by decide, by decide⟩, for_range (lo := 1) (n := 100) (fun i σ' H' => ∃ x2 x3, σ' = [some (.ref a), some (.ref vp), x2, x3] ∧ H' = H2 ∧ ∀ l' s', 1 ≤ l' → l' < i + 1 → s' ≤ 200 → ¬ Shows ds l' s') ?_ ?_ ?_⟩
  · exact ⟨none, none, rfl, rfl, fun l' s' h1 h2 => by omega⟩
  · rintro i σ' H' hi ⟨x2, x3, rfl, rfl, hno⟩
    have e1 : (1 : Int) + (i : Int) = ((i + 1 : Nat) : Int) := by omega
    rw [e1]
    refine ⟨_, rfl, _, rfl, _, rfl, a, vp, ds, i + 1, rfl, hS2, l6, SqL.of h2, by omega, by omega, fun s hs hsh hmin => ?_, fun hnone => ?_⟩
    · refine ⟨_, rfl, rfl, _, rfl, iteT ?_⟩
      refine ⟨_, rfl, _, rfl, by show 2 ≤ sizeLine; decide, fun t ht => ?_⟩
      exact q1 s (i + 1) t _ (by omega) (by omega) hs hsh hmin hno ((s1.trans s2).trans (same_new ht _)) ((s1.trans s2).free ht) upd_same
    · refine ⟨_, rfl, rfl, _, rfl, iteF ?_⟩
      refine ⟨_, _, rfl, rfl, fun l' s' h1 h2 h3 => ?_⟩
      by_cases e : l' = i + 1
      · rw [e]
        exact hnone s' h3
      · exact hno l' s' h1 (by omega) h3
  · rintro σ' H' ⟨x2, x3, rfl, rfl, hno⟩
    exact q2 _ (fun l' s' h1 h2 h3 => hno l' s' h1 (by omega) h3) (s1.trans s2)
end
end K56


set_option Elab.async false
set_option linter.all false
set_option maxRecDepth 100000
set_option maxHeartbeats 4000000
namespace K56
open PySem L2 TG
section
variable {P : Program} {w : World} {K : PySem.W.Frag} {mg : Str → Option Value} {base : Heap}
def spLaw (K : PySem.W.Frag) : Sp := fun vs H Q _ => ∃ (a : Addr) (ns : List Int), vs = [.ref a] ∧ SqL K H a (ns.map V.int) ∧ ns.length ≤ 63 ∧ ∀ H', Q (.bl true) H'
theorem rule_last {ds : List Nat} {d : Nat} (h : d ≠ 0) : Hp.ge (ds ++ [d]) ((ds ++ [d]).length - 1) ≠ 0 := by
  unfold Hp.ge
  simp [List.getD_eq_getElem?_getD, h]
theorem ok_law {k : Nat} (T : Txt K mg) (G_law_taken : FnOk P w K mg base CX0 k T.a_law_taken T.d_law_taken ["_law_row", "_law_many"] (spTk K)) (G_period_of : FnOk P w K mg base CX0 k T.a_period_of T.d_period_of ["rule"] (spPeriod K))
    (G_heap_values : FnOk P w K mg base CX0 k T.a_heap_values T.d_heap_values ["rule", "count"] (spHV K)) (G_shows_period : FnOk P w K mg base CX0 k T.a_shows_period T.d_shows_period ["rule", "period"] (spShows K)) :
    FnOk P w K mg base CX0 (k + 1) T.a_law T.d_law ["_law_script"] (spLaw K) := by
  refine T.F_law.ok sc_law (fun vs H Q E h => ?_) (fun cdv A outer s H vs Q E hr h => ?_)
  · obtain ⟨a, ns, rfl, _⟩ := h
    rfl
  obtain ⟨a, ns, rfl, hS, hl, q⟩ := h
  refine ⟨_, (pss_cons (ps_set (i := 1) sc_law.nd rfl (Or.inr rfl) (pe_lst (pa_cons (pv 0) (pa_cons pe_int (pa_cons pe_int (pa_cons pe_int pa_nil))))))
  (Evl.pss_cut (ps_set (i := 2) sc_law.nd rfl (Or.inl rfl) (pe_op (op_catAK (K := K) rfl) (pe_callTy (call_tuple_ofK (K := K) rfl) rfl T.m_tuple (by decide +kernel) (pa_cons (pe_lc (own := [("_law_at", 8)]) rfl sc_law.nd (pi_range1 rfl T.m_range (pa_cons (pe_call G_law_taken hr rfl T.g_law_taken T.F_law_taken.kp T.b_law_taken .nil pass0 (pa_cons (pv 1) (pa_cons pe_int pa_nil))) pa_nil)) (blkOk_by (N := ["_law_script", "_law_row", "_law_rule", "_law_found", "_law_values", "_law_start", "_law_length", "_law_size", "_law_at"]) (sc := defScope s_law) (by decide +kernel)) (fun _ _ _ _ _ => (pg_name (i := 8) sc_law.nd rfl (Or.inl rfl))) (fun _ _ _ _ _ => pts_nil) (fun _ _ _ _ _ => (pe_call G_law_taken hr rfl T.g_law_taken T.F_law_taken.kp T.b_law_taken .nil pass0 (pa_cons (pv 1) (pa_cons pe_int pa_nil))))) pa_nil)) (pe_tup (pa_cons (pe_op op_add pe_int (pe_call G_law_taken hr rfl T.g_law_taken T.F_law_taken.kp T.b_law_taken .nil pass0 (pa_cons (pv 1) (pa_cons pe_int pa_nil)))) pa_nil))))
  (Evl.pss_cut (ps_if (pt_cmpR op_eq (pe_call G_law_taken hr rfl T.g_law_taken T.F_law_taken.kp T.b_law_taken .nil pass0 (pa_cons (pv 1) (pa_cons pe_int pa_nil))) pe_int (nomark _))
  (pss_one (ps_set (i := 2) sc_law.nd rfl (Or.inl rfl) (pe_tup (pa_cons (pe_call G_law_taken hr rfl T.g_law_taken T.F_law_taken.kp T.b_law_taken .nil pass0 (pa_cons (pv 1) (pa_cons pe_int pa_nil))) (pa_cons (pe_op op_add pe_int (pe_call G_law_taken hr rfl T.g_law_taken T.F_law_taken.kp T.b_law_taken .nil pass0 (pa_cons (pv 1) (pa_cons pe_int pa_nil)))) pa_nil)))))
  pss_nil)
  (pss_cons (ps_asg (pe_tup (pa_cons (pe_call G_period_of hr rfl T.g_period_of T.F_period_of.kp T.b_period_of .nil pass0 (pa_cons (pv 2) pa_nil)) (pa_cons (pe_call G_heap_values hr rfl T.g_heap_values T.F_heap_values.kp T.b_heap_values .nil pass0 (pa_cons (pv 2) (pa_cons pe_int pa_nil))) pa_nil))) (pg_tupK (K := K) (n := 2) rfl rfl (pgs_cons (pg_name (i := 3) sc_law.nd rfl (Or.inl rfl)) (pgs_cons (pg_name (i := 4) sc_law.nd rfl (Or.inr rfl)) pgs_nil))))
  (pss_cons (ps_if (pt_cmpR op_isN (pv 3) pe_non (nomark _))
  (pss_one (ps_ret (pe_cmpR op_isBl (pe_call G_shows_period hr rfl T.g_shows_period T.F_shows_period.kp T.b_shows_period .nil pass0 (pa_cons (pv 2) (pa_cons (pe_tup (pa_cons (pe_call G_law_taken hr rfl T.g_law_taken T.F_law_taken.kp T.b_law_taken .nil pass0 (pa_cons (pv 1) (pa_cons pe_int pa_nil))) (pa_cons (pe_op op_add pe_int (pe_call G_law_taken hr rfl T.g_law_taken T.F_law_taken.kp T.b_law_taken .nil pass0 (pa_cons (pv 1) (pa_cons pe_int pa_nil)))) pa_nil))) pa_nil))) pe_bl (nomark _))))
  pss_nil)
  (pss_cons (ps_asg (pv 3) (pg_tupK (K := K) (n := 2) rfl rfl (pgs_cons (pg_name (i := 5) sc_law.nd rfl (Or.inl rfl)) (pgs_cons (pg_name (i := 6) sc_law.nd rfl (Or.inr rfl)) pgs_nil))))
  (pss_cons (ps_if (PW.pt (pw_or (pt_not (pt_val (pe_callB (call_isiG (K := K) rfl) rfl T.m_isinstance (by decide +kernel) (pa_cons (pv 3) (pa_cons (pe_bltn (v := .ty "tuple") (u := .type "tuple") rfl T.m_tuple (by decide +kernel) rfl) pa_nil))))) (pw_or1 (pt_cmpR op_notBl (pe_call G_shows_period hr rfl T.g_shows_period T.F_shows_period.kp T.b_shows_period .nil pass0 (pa_cons (pv 2) (pa_cons (pv 3) pa_nil))) pe_bl (nomark _)))))
  (pss_one (ps_ret pe_bl))
  pss_nil)
  (Evl.pss_cut (ps_if (PW.pt (pw_and (pt_cmpR op_gt (pv 5) pe_int (nomark _)) (pw_and1 (pt_val (pe_call G_shows_period hr rfl T.g_shows_period T.F_shows_period.kp T.b_shows_period .nil pass0 (pa_cons (pv 2) (pa_cons (pe_tup (pa_cons (pe_op op_sub (pv 5) pe_int) (pa_cons (pv 6) pa_nil))) pa_nil)))))))
  (pss_one (ps_ret pe_bl))
  pss_nil)
  (Evl.pss_cut (ps_if (PW.pt (pw_and (pt_cmpR op_gt (pv 6) pe_int (nomark _)) (pw_and1 (pt_val (pe_call G_shows_period hr rfl T.g_shows_period T.F_shows_period.kp T.b_shows_period .nil pass0 (pa_cons (pv 2) (pa_cons (pe_tup (pa_cons (pe_call G_law_taken hr rfl T.g_law_taken T.F_law_taken.kp T.b_law_taken .nil pass0 (pa_cons (pv 1) (pa_cons pe_int pa_nil))) (pa_cons (pe_op op_add pe_int (pe_call G_law_taken hr rfl T.g_law_taken T.F_law_taken.kp T.b_law_taken .nil pass0 (pa_cons (pv 1) (pa_cons (pe_op op_sub (pv 6) pe_int) pa_nil)))) pa_nil))) pa_nil)))))))
  (pss_one (ps_ret pe_bl))
  pss_nil)
  (pss_one (ps_ret (pe_cmpR (op_eqDK (K := K) rfl hr.units) (pe_lc (own := [("_law_size", 7)]) rfl sc_law.nd (pi_range2 rfl T.m_range (pa_cons (pv 5) (pa_cons (pe_op op_sub pe_int (pv 6)) pa_nil))) (blkOk_by (N := ["_law_script", "_law_row", "_law_rule", "_law_found", "_law_values", "_law_start", "_law_length", "_law_size", "_law_at"]) (sc := defScope s_law) (by decide +kernel)) (fun _ _ _ _ _ => (pg_name (i := 7) sc_law.nd rfl (Or.inl rfl))) (fun _ _ _ _ _ => (pts_one (pt_cmpR op_ne (pe_ix (ix_tupK (K := K) rfl) (pv 4) (pv 7) (fun _ _ => rfl)) (pe_ix (ix_tupK (K := K) rfl) (pv 4) (pe_op op_add (pv 7) (pv 6)) (fun _ _ => rfl)) (nomark _)))) (fun _ _ _ _ _ => (pv 7))) (pe_lst pa_nil) (nomark _))))))))))))), ?_⟩
  refine ⟨_, rfl, by show 4 ≤ sizeLine; decide, fun r hr' => ?_⟩
  have hR := RowA.make (s := 3156) hr' hS hl
  refine ⟨fun σ' H' => ∃ ra ds, σ' = [some (.ref a), some (.ref r), some (.ref ra), none, none, none, none, none, none] ∧ SqT K H' ra (ds.map I) ∧ RuleOk ds ∧ RowA K a ns H' r, ?first, ?second⟩
  case second =>
    rintro σ' H1 ⟨ra, ds, rfl, hT, hOk, hR⟩
    refine ⟨fun σ' H' => ∃ ra ds, σ' = [some (.ref a), some (.ref r), some (.ref ra), none, none, none, none, none, none] ∧ SqT K H' ra (ds.map I) ∧ RuleOk ds ∧ RowA K a ns H' r, ?_, ?_⟩
    · -- if _law_taken(_law_row, 4) == 0
      refine ⟨_, rfl, r, a, ns, 4, rfl, hR, ⟨by decide, by decide⟩, fun d H2 d0 d1 hR2 ho2 => ?_⟩
      refine ⟨rfl, _, rfl, ite2 (fun c => ?_) (fun c => ?_)⟩
      · refine ⟨_, rfl, r, a, ns, 8, rfl, hR2, ⟨by decide, by decide⟩, fun x H3 x0 x1 hR3 ho3 => ?_⟩
        refine ⟨_, rfl, r, a, ns, 7, rfl, hR3, ⟨by decide, by decide⟩, fun y H4 y0 y1 hR4 ho4 => ⟨_, _, rfl, rfl, by show 2 ≤ sizeLine; decide, fun t ht => ?_⟩⟩
        have e1 : V.int x = I x.toNat := congrArg V.int (by omega)
        have e2 : V.int (1 + y) = I (1 + y.toNat) := congrArg V.int (by omega)
        refine ⟨t, [x.toNat, 1 + y.toNat], rfl, ?_, ?_, hR4.more (same_new ht _)⟩
        · refine SqT.of ?_
          rw [upd_same]
          show some (HO.tup [V.int x, V.int (1 + y)]) = _
          rw [e1, e2]
          rfl
        · refine ⟨by simp, by simp, fun z hz => ?_, ?_⟩
          · simp only [List.mem_cons, List.not_mem_nil, or_false] at hz
            omega
          · show 1 + y.toNat ≠ 0
            omega
      · obtain ⟨xs, hx⟩ := hR.there
        exact ⟨ra, ds, rfl, sqT_row hT hx ho2, hOk, hR2⟩
    rintro σ' H2 ⟨ra, ds, rfl, hT, hOk, hR⟩
    -- _law_found, _law_values = ..
    refine ⟨_, rfl, ra, ds, rfl, hT, hOk, ?_, ?_⟩
    · -- a period
      intro sN l p H3 hl1 hl2 hs2 hsh hmin hless s3 hp0 hp3
      refine ⟨_, rfl, ra, 400, ds, rfl, sqT s3 hT, hOk, Nat.le_refl _, fun vp H4 s4 hv0 hv4 => ?_⟩
      refine ⟨by show 2 ≤ sizeLine; decide, fun t ht => ⟨t, _, rfl, SqT.of upd_same, rfl, _, _, rfl, _, _, rfl, rfl, ?_⟩⟩
      have s5 := same_new ht (.tup [V.ref p, V.ref vp])
      generalize upd H4 t (.tup [V.ref p, V.ref vp]) = H5 at s5
      have hp5 : SqT K H5 p [I sN, I l] := SqT.of (s5 _ _ (s4 _ _ hp3))
      have hv5 : SqT K H5 vp ((vals ds 400).map I) := SqT.of (s5 _ _ hv4)
      have hT5 : SqT K H5 ra (ds.map I) := sqT ((s3.trans s4).trans s5) hT
      have hR5 := hR.more ((s3.trans s4).trans s5)
      -- if _law_found is None
      refine ⟨_, rfl, rfl, _, rfl, iteF ?_⟩
      dsimp only [tNext]
      -- _law_start, _law_length = _law_found
      refine ⟨_, rfl, p, _, rfl, hp5, rfl, _, _, rfl, _, _, rfl, rfl, ?_⟩
      -- isinstance, shows_period(_law_rule, _law_found) is not True
      refine ⟨_, rfl, _, _, _, _, rfl, TyN.tup hp5, kit_tuple_tuple, _, rfl, iteF ?_⟩
      refine ⟨_, rfl, _, rfl, ra, p, ds, sN, l, rfl, hT5, hOk, hp5, hs2, hl1, hl2, fun b H6 hb s6 => ?_⟩
      have hbt : b = true := hb.mpr hsh
      subst hbt
      refine ⟨_, _, rfl, rfl, _, rfl, iteF ?_⟩
      dsimp only [tNext]
      have hT6 := sqT s6 hT5
      have hv6 := sqT s6 hv5
      have hR6 := hR5.more s6
      -- the values repeat
      have last : ∀ (H7 : Hp) (x7 x8 : Option V), SqT K H7 vp ((vals ds 400).map I) →
          tRet (tOp (rEqD K) (tLc (iRng2 (tCons (tVar 5) (tCons (tOp (rI0 fun i j => V.int (i - j)) (tC (V.int 401)) (tVar 6)) tNil))) (gName 7) (tTest (tOp rNe (tOp (rIxT K) (tVar 4) (tVar 7)) (tOp (rIxT K) (tVar 4) (tOp (rI0 fun i j => V.int (i + j)) (tVar 7) (tVar 6))))) (tVar 7) (List.map (fun x => x.snd) [(Str.ofString "_law_size", 7)])) (tLst tNil))
            { nx := fun x H' => Q V.non H', rt := Q } [some (.ref a), some (.ref r), some (.ref ra), some (.ref p), some (.ref vp), some (I sN), some (I l), x7, x8] H7 := by
        intro H7 x7 x8 hv7
        refine go_ret (go_op ?_)
        refine el_lcR2 (lo := (sN : Int)) (hi := 401 - (l : Int)) (fun _ => false) (fun i => .non) ?_ ?_ ?_ ?_ ?_ H7 (Evl.Ex.refl H7) _ ?_
        · intro H8 e8 Q8 q8
          exact ⟨_, rfl, _, rfl, _, _, rfl, rfl, q8 H8 (Evl.Ex.refl H8)⟩
        · omega
        · intro x
          rfl
        · intro i H8 e8 hi H9 e9 Q9 q9
          have e1 : (sN : Int) + (i : Int) = ((sN + i : Nat) : Int) := by omega
          have e2 : (sN : Int) + (i : Int) + (l : Int) = ((sN + i + l : Nat) : Int) := by omega
          have hv9 := sqT e9 (sqT e8 hv7)
          refine ⟨_, rfl, _, rfl, vp, _, _, I (g ds (sN + i)), rfl, rfl, hv9, ?_, _, rfl, _, rfl, _, rfl, _, _, rfl, rfl, vp, _, _, I (g ds (sN + i + l)), rfl, rfl, hv9, ?_, rfl, _, rfl, ?_⟩
          · rw [e1]
            exact at_val (by omega)
          · rw [e2]
            exact at_val (by omega)
          · rw [dec_I, decide_eq_true (hsh.ever hl1 (sN + i) (by omega))]
            exact q9 H9 (Evl.Ex.refl H9)
        · intro i H8 e8 hi hf
          cases hf
        · intro D H8 hD e8 h8
          have hg : Evl.given (401 - (l : Int) - (sN : Int)).toNat (fun _ => false) (fun _ => V.non) = [] := by
            unfold Evl.given
            simp
          rw [hg] at h8
          refine ⟨by show 0 ≤ sizeLine; decide, fun D2 hD2 => ⟨.list [], .list [], .lst (SqL.of ((same_new hD2 _) _ _ h8)) .nil, .lst (SqL.of upd_same) .nil, rfl, rfl, ?_⟩⟩
          exact q _
      -- if _law_start > 0 and ..
      refine ⟨fun σ' H' => σ' = [some (.ref a), some (.ref r), some (.ref ra), some (.ref p), some (.ref vp), some (I sN), some (I l), none, none] ∧ SqT K H' ra (ds.map I) ∧ SqT K H' vp ((vals ds 400).map I) ∧ RowA K a ns H' r, ?_, ?_⟩
      · refine ⟨_, rfl, _, _, rfl, rfl, _, rfl, ?_⟩
        by_cases c : (0 : Int) < (sN : Int)
        · rw [decide_eq_true c]
          refine iteT ?_
          refine ⟨_, rfl, _, rfl, _, _, rfl, rfl, _, rfl, by show 2 ≤ sizeLine; decide, fun t2 ht2 => ?_⟩
          have e1 : V.int ((sN : Int) - 1) = I (sN - 1) := congrArg V.int (by omega)
          refine ⟨ra, t2, ds, sN - 1, l, rfl, sqT (same_new ht2 _) hT6, hOk, SqT.of ?_, by omega, hl1, hl2, fun b H8 hb s8 => ?_⟩
          · rw [upd_same, ← e1]
          have hbf : b = false := by
            cases b with
            | false => rfl
            | true => exact absurd (hb.mp rfl) (hmin _ (by omega))
          subst hbf
          have s68 := (same_new ht2 _).trans s8
          exact ⟨_, rfl, iteF ⟨rfl, sqT s68 hT6, sqT s68 hv6, hR6.more s68⟩⟩
        · rw [decide_eq_false c]
          exact iteF ⟨rfl, hT6, hv6, hR6⟩
      rintro σ' H7 ⟨rfl, hT7, hv7, hR7⟩
      -- if _law_length > 1 and ..
      refine ⟨fun σ' H' => σ' = [some (.ref a), some (.ref r), some (.ref ra), some (.ref p), some (.ref vp), some (I sN), some (I l), none, none] ∧ SqT K H' vp ((vals ds 400).map I), ?_, ?_⟩
      · refine ⟨_, rfl, _, _, rfl, rfl, _, rfl, ?_⟩
        by_cases c : (1 : Int) < (l : Int)
        · rw [decide_eq_true c]
          refine iteT ?_
          obtain ⟨xs7, hx7⟩ := hR7.there
          refine ⟨_, rfl, _, rfl, r, a, ns, 60, rfl, hR7, ⟨by decide, by decide⟩, fun x H8 x0 x1 hR8 ho8 => ?_⟩
          obtain ⟨xs8, hx8⟩ := hR8.there
          refine ⟨_, rfl, _, rfl, _, _, rfl, rfl, r, a, ns, (l : Int) - 1, rfl, hR8, ⟨by omega, by omega⟩, fun y H9 y0 y1 hR9 ho9 => ⟨_, _, rfl, rfl, by show 2 ≤ sizeLine; decide, fun t2 ht2 => ?_⟩⟩
          have e1 : V.int x = I x.toNat := congrArg V.int (by omega)
          have e2 : V.int (1 + y) = I (1 + y.toNat) := congrArg V.int (by omega)
          have hT9 : SqT K H9 ra (ds.map I) := sqT_row (sqT_row hT7 hx7 ho8) hx8 ho9
          have hv9 : SqT K H9 vp ((vals ds 400).map I) := sqT_row (sqT_row hv7 hx7 ho8) hx8 ho9
          refine ⟨ra, t2, ds, x.toNat, 1 + y.toNat, rfl, sqT (same_new ht2 _) hT9, hOk, SqT.of ?_, by omega, by omega, by omega, fun b H10 hb s10 => ?_⟩
          · rw [upd_same]
            show some (HO.tup [V.int x, V.int (1 + y)]) = _
            rw [e1, e2]
          have hbf : b = false := by
            cases b with
            | false => rfl
            | true => exact absurd (hb.mp rfl) (hless _ _ (by omega) (by omega) (by omega))
          subst hbf
          exact ⟨_, rfl, iteF ⟨rfl, sqT s10 (sqT (same_new ht2 _) hv9)⟩⟩
        · rw [decide_eq_false c]
          exact iteF ⟨rfl, hv7⟩
      rintro σ' H8 ⟨rfl, hv8⟩
      exact last H8 none none hv8
    · -- none
      intro H3 hnone s3
      refine ⟨_, rfl, ra, 400, ds, rfl, sqT s3 hT, hOk, Nat.le_refl _, fun vp H4 s4 hv0 hv4 => ?_⟩
      refine ⟨by show 2 ≤ sizeLine; decide, fun t ht => ⟨t, _, rfl, SqT.of upd_same, rfl, _, _, rfl, _, _, rfl, rfl, ?_⟩⟩
      have s5 := same_new ht (.tup [V.non, V.ref vp])
      generalize upd H4 t (.tup [V.non, V.ref vp]) = H5 at s5
      have hT5 : SqT K H5 ra (ds.map I) := sqT ((s3.trans s4).trans s5) hT
      have hR5 := hR.more ((s3.trans s4).trans s5)
      refine ⟨_, rfl, rfl, _, rfl, iteT ?_⟩
      obtain ⟨xs, hx⟩ := hR5.there
      refine ⟨_, rfl, _, rfl, r, a, ns, 40, rfl, hR5, ⟨by decide, by decide⟩, fun x H6 x0 x1 hR6 ho6 => ?_⟩
      obtain ⟨xs6, hx6⟩ := hR6.there
      refine ⟨_, rfl, r, a, ns, 40, rfl, hR6, ⟨by decide, by decide⟩, fun y H7 y0 y1 hR7 ho7 => ⟨_, _, rfl, rfl, by show 2 ≤ sizeLine; decide, fun t2 ht2 => ?_⟩⟩
      have e1 : V.int x = I x.toNat := congrArg V.int (by omega)
      have e2 : V.int (1 + y) = I (1 + y.toNat) := congrArg V.int (by omega)
      have hT7 : SqT K H7 ra (ds.map I) := sqT_row (sqT_row hT5 hx ho6) hx6 ho7
      refine ⟨ra, t2, ds, x.toNat, 1 + y.toNat, rfl, sqT (same_new ht2 _) hT7, hOk, SqT.of ?_, by omega, by omega, by omega, fun b H8 hb s8 => ?_⟩
      · rw [upd_same]
        show some (HO.tup [V.int x, V.int (1 + y)]) = _
        rw [e1, e2]
      · have hbf : b = false := by
          cases b with
          | false => rfl
          | true => exact absurd (hb.mp rfl) (hnone _ _ (by omega) (by omega) (by omega))
        subst hbf
        exact ⟨_, _, rfl, rfl, q _⟩
  case first =>
    -- _law_rule = tuple([..]) + (..,)
    refine ⟨_, rfl, r, a, ns, 3, rfl, hR, ⟨by decide, by decide⟩, fun m H1 m0 m1 hR1 ho1 => ⟨m, rfl, by omega, by omega, fun D hD => ?_⟩⟩
    have hDr : r ≠ D := by
      obtain ⟨xs, hx⟩ := hR1.there
      exact ne_of_none hx hD
    have hSf := hR1.safe hD
    refine lc_range (lo := 0) (n := m.toNat) (fun i H' => ∃ acc : List Nat, acc.length = i ∧ (∀ d ∈ acc, d ≤ 7) ∧ H' D = some (.lst (acc.map I)) ∧ RowA K a ns H' r) ?_ ?_ ?_
    · exact ⟨[], rfl, fun d h => (List.not_mem_nil h).elim, upd_same, hR1.upd hDr hSf⟩
    · rintro i H' hi ⟨acc, hac, h7, hD1, hR2⟩
      refine ⟨rfl, ?_⟩
      dsimp only [tYes]
      rw [if_pos rfl]
      refine ⟨_, rfl, r, a, ns, 4, rfl, hR2, ⟨by decide, by decide⟩, fun d H4 d0 d1 hR4 ho4 => ?_⟩
      refine ⟨acc.map I, by rw [ho4 D (Ne.symm hDr)]; exact hD1, ?_, acc ++ [d.toNat], ?_, ?_, ?_, hR4.upd hDr hSf⟩
      · rw [List.length_map]
        exact Nat.lt_of_le_of_lt (by omega : acc.length ≤ 10) (by decide)
      · rw [List.length_append, hac]
        rfl
      · intro x hx
        rcases List.mem_append.mp hx with h | h
        · exact h7 x h
        · rw [List.mem_singleton] at h
          omega
      · rw [upd_same, List.map_append]
        have : V.int d = I d.toNat := congrArg V.int (by omega)
        rw [this]
        rfl
    rintro H2 ⟨acc, hac, h7, hD2, hR2⟩
    refine ⟨D, _, rfl, .inl ⟨SqL.of hD2, fun t ht => ?_⟩⟩
    have hR3 := hR2.more (same_new ht (.tup (acc.map I)))
    refine ⟨_, rfl, r, a, ns, 3, rfl, hR3, ⟨by decide, by decide⟩, fun d H4 d0 d1 hR4 ho4 => ⟨_, _, rfl, rfl, by show 1 ≤ sizeLine; decide, fun t2 ht2 => ?_⟩⟩
    have htr : t ≠ r := by
      obtain ⟨xs, hx⟩ := hR2.there
      exact (ne_of_none hx ht).symm
    have ht4 : H4 t = some (.tup (acc.map I)) := by rw [ho4 t htr]; exact upd_same
    have e1 : V.int (1 + d) = I (1 + d.toNat) := congrArg V.int (by omega)
    have hRule : RuleOk (acc ++ [1 + d.toNat]) := by
      refine ⟨by simp, by simp; omega, fun x hx => ?_, rule_last (by omega)⟩
      rcases List.mem_append.mp hx with h | h
      · exact h7 x h
      · rw [List.mem_singleton] at h
        omega
    refine ⟨t, t2, acc.map I, [.int (1 + d)], rfl, rfl, SqT.of ((same_new ht2 _) _ _ ht4), SqT.of upd_same, ?_, fun h0 => ?_, fun _ h0 => (by cases h0), fun _ _ t3 ht3 => ?_⟩
    · rw [List.length_map]
      exact Nat.le_trans (by simp; omega : acc.length + [V.int (1 + d)].length ≤ 100) (by decide)
    · refine ⟨t2, [1 + d.toNat], rfl, SqT.of ?_, ?_, hR4.more (same_new ht2 _)⟩
      · rw [upd_same]
        show some (HO.tup [V.int (1 + d)]) = _
        rw [e1]
        rfl
      · have ha : acc = [] := by
          cases acc with
          | nil => rfl
          | cons x y => cases h0
        rw [ha] at hRule
        exact hRule
    · refine ⟨t3, acc ++ [1 + d.toNat], rfl, SqT.of ?_, hRule, (hR4.more (same_new ht2 _)).more (same_new ht3 _)⟩
      rw [upd_same, e1, List.map_append]
      rfl
theorem law_end {P : Program} {w : World} {K : PySem.W.Frag} {mg : Str → Option Value} {fa : Addr} (N : Nonempty (Txt K mg)) (hfa : mg "law" = some (.ref fa)) :
    ∃ fd : FuncData, (∀ (s : Shared) (v : Value), BindsTo s fd ⟨[v], []⟩ [("_law_script", v)]) ∧ ∀ base : Heap, K.In base → base.Ns mainGlobals mg → FnOk P w K mg base CX0 20 fa fd ["_law_script"] (spLaw K) := by
  obtain ⟨T⟩ := N
  have e := hfa.symm.trans T.g_law
  cases e
  refine ⟨T.d_law, T.B_law, fun base _ _ => ?_⟩
  have t1 : FnOk P w K mg base CX0 1 T.a_law_taken T.d_law_taken ["_law_row", "_law_many"] (spTk K) := ok_taken T
  have n1 : FnOk P w K mg base CX0 1 T.a_is_int T.d_is_int ["value"] spIsInt := ok_is_int T
  have n2 := ok_is_in T n1
  have n3 := ok_need_number T n2
  have r3 := ok_need_rule T n2
  have l1 : FnOk P w K mg base CX0 1 T.a_least_missing T.d_least_missing ["numbers"] _ := ok_least_missing T
  have v2 := ok_value_after T l1
  have v3 := ok_values_to T v2
  have e1 : FnOk P w K mg base CX0 1 T.a_end_of T.d_end_of ["rule", "start", "length"] (spEnd K) := ok_end_of T
  have h4 := ok_heap_values (k := 3) T r3 n3 v3
  have s4 := ok_shows_period (k := 3) T r3 (n2.mono (by decide)) (e1.mono (by decide)) v3
  have s2 := ok_least_start T e1
  have p4 := ok_period_of (k := 3) T r3 (e1.mono (by decide)) v3 (s2.mono (by decide))
  exact ok_law (k := 19) T (t1.mono (by decide)) (p4.mono (by decide)) (h4.mono (by decide)) (s4.mono (by decide))
end
end K56
open PySem PySem.W PyProof.Rows
set_option maxRecDepth 100000 in
set_option maxHeartbeats 0 in
theorem PySem.Challenge.cw_thermogames_k56_whole_first_periods_holds : PySem.Challenge.rw_thermogames_k56_whole_first_periods.Holds := by
  w_on; o_law; k_head; (case hw => w_witness2)
  k_fill
  refine L2.walk_of (l := PySem.Challenge.rw_thermogames_k56_whole_first_periods) (n := 63) (k := 20) (x := "_law_script") (CX := fun _ => L2.CX0) (sp := fun w => K56.spLaw _) rfl (by decide) rfl ⟨rfl, by decide, by decide⟩ (fun w h Y => PySem.W.kIn_of Y) ?F (fun _ _ a ns hl _ hS => ⟨a, ns, rfl, hS, hl, fun _ => rfl⟩) (fun _ _ _ _ _ h => h)
  case F =>
    intro w mg fa h KX G hmg
    refine' K56.law_end (K56.txt_mk KX G ?a0 ?l0 ?c0 ?k0 ?a1 ?l1 ?c1 ?k1 ?a2 ?l2 ?c2 ?k2 ?a3 ?l3 ?c3 ?k3 ?a4 ?l4 ?c4 ?k4 ?a5 ?l5 ?c5 ?k5 ?a6 ?l6 ?c6 ?k6 ?a7 ?l7 ?c7 ?k7 ?a8 ?l8 ?c8 ?k8 ?a9 ?l9 ?c9 ?k9 ?a10 ?l10 ?c10 ?k10 ?a11 ?l11 ?c11 ?k11 ?a12 ?l12 ?c12 ?k12 ?a13 ?l13 ?c13 ?k13 ?v0 ?v1 ?v2 ?v3 ?z0 ?z1 ?z2 ?z3 ?z4 ?z5 ?z6 ?z7) hmg
    case a0 => k_is
    case l0 => k_is
    case c0 => k_is
    case k0 => k_is
    case a1 => k_is
    case l1 => k_is
    case c1 => k_is
    case k1 => k_is
    case a2 => k_is
    case l2 => k_is
    case c2 => k_is
    case k2 => k_is
    case a3 => k_is
    case l3 => k_is
    case c3 => k_is
    case k3 => k_is
    case a4 => k_is
    case l4 => k_is
    case c4 => k_is
    case k4 => k_is
    case a5 => k_is
    case l5 => k_is
    case c5 => k_is
    case k5 => k_is
    case a6 => k_is
    case l6 => k_is
    case c6 => k_is
    case k6 => k_is
    case a7 => k_is
    case l7 => k_is
    case c7 => k_is
    case k7 => k_is
    case a8 => k_is
    case l8 => k_is
    case c8 => k_is
    case k8 => k_is
    case a9 => k_is
    case l9 => k_is
    case c9 => k_is
    case k9 => k_is
    case a10 => k_is
    case l10 => k_is
    case c10 => k_is
    case k10 => k_is
    case a11 => k_is
    case l11 => k_is
    case c11 => k_is
    case k11 => k_is
    case a12 => k_is
    case l12 => k_is
    case c12 => k_is
    case k12 => k_is
    case a13 => k_is
    case l13 => k_is
    case c13 => k_is
    case k13 => k_is
    case v0 => k_is
    case v1 => k_is
    case v2 => k_is
    case v3 => k_is
    case z0 => k_is
    case z1 => k_is
    case z2 => k_is
    case z3 => k_is
    case z4 => k_is
    case z5 => k_is
    case z6 => k_is
    case z7 => k_is
#print axioms PySem.Challenge.cw_thermogames_k56_whole_first_periods_holds

