import PyProof.Rows.All
import Wide.All
import OpenK.AllK
import Wide.FinOn
import HandS.ForMost
import HandS.IsInst
import HandS.SortInts
import HandS.Style
import HandS.Evl
import HandS.More
import HandS.Zip
import PyProof.Draws
import PyProof.EnumMake
import HandS.TupAny
import HandS.SetFor
import HandS.Strs
import HandS.TupSets
import HandS.Deep
import HandS.Star
import KE.KDictKeyed
import HandS.Flow
import HandS.SetBool
import HandS.Conv
import KE.GoesMore
import HandS.Gcd
import HandS.Text
import KE.IntText
import PySem.Challenge.RW_thermogames_k06_whole_texts
set_option Elab.async false
set_option linter.all false
set_option maxRecDepth 100000
set_option maxHeartbeats 4000000
/-! The kit of our own, over the hand layer: what all laws share. -/
namespace TG
open PySem L2
/-! ### names at once, for simp -/
theorem ex2_eq {α β : Sort _} {a : α} {b : β} {p : α → β → Prop} : (∃ v w, (a = v ∧ b = w) ∧ p v w) ↔ p a b :=
  ⟨fun ⟨_, _, ⟨h1, h2⟩, h⟩ => by subst h1 h2; exact h, fun h => ⟨_, _, ⟨rfl, rfl⟩, h⟩⟩
theorem ex3_eq {α β γ : Sort _} {a : α} {b : β} {c : γ} {p : α → β → γ → Prop} : (∃ v w x, (a = v ∧ b = w ∧ c = x) ∧ p v w x) ↔ p a b c :=
  ⟨fun ⟨_, _, _, ⟨h1, h2, h3⟩, h⟩ => by subst h1 h2 h3; exact h, fun h => ⟨_, _, _, ⟨rfl, rfl, rfl⟩, h⟩⟩
theorem ex4_eq {α β γ δ : Sort _} {a : α} {b : β} {c : γ} {d : δ} {p : α → β → γ → δ → Prop} : (∃ v w x y, (a = v ∧ b = w ∧ c = x ∧ d = y) ∧ p v w x y) ↔ p a b c d :=
  ⟨fun ⟨_, _, _, _, ⟨h1, h2, h3, h4⟩, h⟩ => by subst h1 h2 h3 h4; exact h, fun h => ⟨_, _, _, _, ⟨rfl, rfl, rfl, rfl⟩, h⟩⟩
/-! ### a weaker reading -/
theorem ps_imp {X : Cx} {st : Stmt} {t t' : TS} (h : ∀ D σ H, t' D σ H → t D σ H) (p : PS X st t) : PS X st t' := ⟨fun pins s σ H D I q => p.run pins s σ H D I (h D σ H q)⟩
theorem pe_imp {X : Cx} {e : Expr} {t t' : TE} (h : ∀ σ H Q, t' σ H Q → t σ H Q) (p : PE X e t) : PE X e t' := ⟨fun pins s σ H Q I q => p.run pins s σ H Q I (h σ H Q q)⟩
theorem same_new {H : Hp} {p : Addr} (h : H p = none) (o : HO) : Same H (upd H p o) := fun b u q => by rw [upd_ne (ne_of_none q h)]; exact q
/-- a, b = constants: a tuple is made on the way -/
def tParC (i j : Nat) (v w : V) : TS := fun D σ H => ∀ H', Same H H' → D.nx ((σ.set i (some v)).set j (some w)) H'
theorem parC {K : PySem.W.Frag} {i j : Nat} {v w : V} : ∀ D σ H, tParC i j v w D σ H → tAsg (tTup (tCons (tC v) (tCons (tC w) tNil))) (gTup K 2 (gCons (gName i) (gCons (gName j) gNil))) D σ H :=
  fun D σ H h => ⟨by show 2 ≤ sizeLine; decide, fun p hp => ⟨p, _, rfl, SqT.of upd_same, rfl, _, _, rfl, _, _, rfl, rfl, h _ (same_new hp _)⟩⟩
/-! ### one step into a reading -/
section
variable {σ : L2.St} {H : Hp} {D : Ends} {te ta tb : TE} {r : R2} {Q : VK} {g : TG} {t u : TS} {tt : TT} {ts : TA}
theorem go_ret (h : te σ H D.rt) : tRet te D σ H := h
theorem go_op (h : ta σ H fun x H1 => tb σ H1 fun y H2 => r x y H2 Q) : tOp r ta tb σ H Q := h
theorem go_asg (h : te σ H fun x H1 => g x σ H1 D.nx) : tAsg te g D σ H := h
theorem go_seq (h : t { D with nx := u D } σ H) : tSeq t u D σ H := h
theorem go_drop (h : te σ H fun _ H1 => D.nx σ H1) : tDrop te D σ H := h
theorem go_ifS {u : TS} (h : tt σ H fun b H1 => if b = true then t D σ H1 else u D σ H1) : tIfS tt t u D σ H := h
theorem go_cons {tr : TA} {Q : List V → Hp → Prop} (h : ta σ H fun x H1 => tr σ H1 fun xs H2 => Q (x :: xs) H2) : tCons ta tr σ H Q := h
theorem go_cb {f : List V → Hp → VK → Prop} (h : ts σ H fun vs H1 => f vs H1 Q) : tCB f ts σ H Q := h
theorem go_call {sp : Sp} {dvs : List V} {E : XK} (h : ts σ H fun vs H1 => sp (vs ++ dvs) H1 Q E) : tCall sp dvs E ts σ H Q := h
end
/-! ### the rules with the written part named -/
section
variable {X : Cx} {K : PySem.W.Frag}
theorem op_in_seqK (hK : X.K = K) : OpR X (compareOp .In) (rIn K false) := by subst hK; exact op_in_seq
theorem op_notIn_seqK (hK : X.K = K) : OpR X (compareOp .NotIn) (rIn K true) := by subst hK; exact op_notIn_seq
theorem ix_listK (hK : X.K = K) : IxR X (rIxL K) := by subst hK; exact ix_list
theorem ix_tupK (hK : X.K = K) : IxR X (rIxT K) := by subst hK; exact ix_tup
theorem ix_seqK (hK : X.K = K) : IxR X (rIx K) := by subst hK; exact ix_seq
def rLenQ (K : PySem.W.Frag) : List V → Hp → VK → Prop := fun xs H Q => ∃ p ys, xs = [.ref p] ∧ (SqL K H p ys ∨ SqT K H p ys) ∧ Q (.int ys.length) H
theorem call_lenK (hK : X.K = K) : CallR X (.builtin "len") (rLenQ K) := by subst hK; exact call_len_seq
def rListOf (K : PySem.W.Frag) : List V → Hp → VK → Prop := fun xs H Q => ∃ p ys, xs = [.ref p] ∧ (SqL K H p ys ∨ SqT K H p ys) ∧ ∀ l, H l = none → Q (.ref l) (upd H l (.lst ys))
theorem call_list_ofK (hK : X.K = K) : CallR X (.type "list") (rListOf K) := by subst hK; exact call_list_of
def rTupOf (K : PySem.W.Frag) : List V → Hp → VK → Prop := fun xs H Q => ∃ p ys, xs = [.ref p] ∧ ((SqL K H p ys ∧ ∀ l, H l = none → Q (.ref l) (upd H l (.tup ys))) ∨ (SqT K H p ys ∧ Q (.ref p) H))
theorem call_tuple_ofK (hK : X.K = K) : CallR X (.type "tuple") (rTupOf K) := by subst hK; exact call_tuple_of
theorem cr_sumK (hK : X.K = K) (hc : X.calm = true) : CallR X (.builtin "sum") (rSum K) := by subst hK; exact cr_sum hc
theorem cr_maxK (hK : X.K = K) (hc : X.calm = true) : CallR X (.builtin "max") (rMax K) := by subst hK; exact cr_max hc
theorem cr_minK (hK : X.K = K) (hc : X.calm = true) : CallR X (.builtin "min") (rMin K) := by subst hK; exact cr_min hc
theorem cr_anyK (hK : X.K = K) (hc : X.calm = true) : CallR X (.builtin "any") (rAny K) := by subst hK; exact cr_any hc
theorem cr_allK (hK : X.K = K) (hc : X.calm = true) : CallR X (.builtin "all") (rAll K) := by subst hK; exact cr_all hc
theorem cr_sortedIK (hK : X.K = K) : CallR X (.builtin "sorted") (rSortedI K) := by subst hK; exact cr_sortedI
theorem sl_listK (hK : X.K = K) : SlR X (rSlL K) := by subst hK; exact sl_list
theorem sl_tupK (hK : X.K = K) : SlR X (rSlT K) := by subst hK; exact sl_tup
theorem op_catTK (hK : X.K = K) : OpR X (binaryOp .Add) (rCatT K) := by subst hK; exact op_catT
theorem op_eqDK (hK : X.K = K) (hu : X.A.units + 64 < cLine) : OpR X (compareOp .Eq) (rEqD K) := by subst hK; exact op_eqD hu
theorem op_neDK (hK : X.K = K) (hu : X.A.units + 64 < cLine) : OpR X (compareOp .NotEq) (rNeD K) := by subst hK; exact op_neD hu
theorem call_isiTK (hK : X.K = K) : CallR X (.builtin "isinstance") (rIsiT K) := by subst hK; exact call_isiT
theorem call_isiK' (hK : X.K = K) : CallR X (.builtin "isinstance") (rIsi K) := by subst hK; exact call_isi
theorem pi_listK {tg l : Expr} {tl : TE} (hK : X.K = K) (hl : PE X l tl) : PI X tg l (iList K tl) := by subst hK; exact pi_list hl
theorem pi_tupK {tg l : Expr} {tl : TE} (hK : X.K = K) (hl : PE X l tl) : PI X tg l (iTup K tl) := by subst hK; exact pi_tup hl
theorem pi_enumK {e : Expr} {ta : TA} {p pos tpos : Pos} {elts : List Expr} {kk : Nat} (hK : X.K = K) (hg : Gl X "enumerate") (hm : X.mg "enumerate" = none) (ha : PA X [e] ta) (hs : starEach [e] X.env = [(false, eval e X.env)] := by rfl) :
    PI X (.Tuple elts kk tpos) (.Call (.Name "enumerate" p) [e] [] pos) (iEnum K ta) := by subst hK; exact pi_enum hg hm ha hs
theorem pi_zipK {e e2 : Expr} {ta : TA} {p pos tpos : Pos} {elts : List Expr} {kk : Nat} (hK : X.K = K) (hg : Gl X "zip") (hm : X.mg "zip" = none) (ha : PA X [e, e2] ta)
    (hs : starEach [e, e2] X.env = (false, eval e X.env) :: starEach [e2] X.env := by rfl) (hpl : (backTo pos (starEach [e2] X.env)).any (·.1) = false := by rfl) :
    PI X (.Tuple elts kk tpos) (.Call (.Name "zip" p) [e, e2] [] pos) (iZip K ta) := by subst hK; exact pi_zip hg hm ha hs hpl
theorem pg_tupK {pos : Pos} {es : List Expr} {k : Nat} {t : TGs} {n : Nat} (hK : X.K = K) (hc : X.calm = true) (h : PGs X es t)
    (hn : (assignEach es X.env).length = n := by rfl) (hst : (assignEach es X.env).findIdx? (·.1) = none := by rfl) : PG X (.Tuple es k pos) (gTup K n t) := by subst hK; exact pg_tup hc h hn hst
theorem pe_bm0K {o : Expr} {to : TE} {name : Str} {apos cpos : Pos} {T id : String} {r : V → List V → Hp → VK → Prop} (hK : X.K = K) (pa : PlainAttrs T) (slot : Slot T name id) (hty : typeOf (.builtin id) = pure (.type "method_descriptor")) (hm : MtR X id r) (ho : PE X o to)
    (hbase : attributeBase o name X.env (eval o X.env) = eval o X.env := by rfl) (hline : (apos.endLine == cpos.line) = true := by rfl) : PE X (.Call (.Attribute o name apos) [] [] cpos) (tBM0 K T r to) := by subst hK; exact pe_bm0 pa slot hty hm ho hbase hline
theorem pe_bmK {o e : Expr} {es : List Expr} {to : TE} {t : TA} {name : Str} {apos cpos : Pos} {T id : String} {r : V → List V → Hp → VK → Prop} (hK : X.K = K) (pa : PlainAttrs T) (slot : Slot T name id) (hty : typeOf (.builtin id) = pure (.type "method_descriptor")) (hm : MtR X id r) (ho : PE X o to) (ha : PA X (e :: es) t)
    (hbase : attributeBase o name X.env (eval o X.env) = eval o X.env := by rfl)
    (hfew : ((backTo cpos (starEach (e :: es) X.env)).all (fun x => !x.1) && (backToKw cpos (keywordEach [] X.env)).all (fun x => x.1.isSome)
      && decide ((e :: es).length + ([] : List Keyword).length + (if ([] : List Keyword).isEmpty then 0 else 1) < 30)) = true := by rfl)
    (hline : (apos.endLine == cpos.line) = true := by rfl) (hs : starEach (e :: es) X.env = (false, eval e X.env) :: starEach es X.env := by rfl) (hplain : (backTo cpos (starEach es X.env)).any (·.1) = false := by rfl) :
    PE X (.Call (.Attribute o name apos) (e :: es) [] cpos) (tBM K T r to t) := by subst hK; exact pe_bm pa slot hty hm ho ha hbase hfew hline hs hplain
end
/-! ### isinstance of plain values -/
def sTy : V → Option String
  | .non => some "NoneType"
  | .bl _ => some "bool"
  | .int _ => some "int"
  | .str _ => some "str"
  | _ => none
def rIsiS : List V → Hp → VK → Prop := fun xs H Q => ∃ x c t b, xs = [x, .ty c] ∧ sTy x = some t ∧ kitB t c = some b ∧ Q (.bl b) H
theorem call_isiS {X : Cx} : CallR X (.builtin "isinstance") rIsiS := by
  intro pins s σ H xs us Q I r h
  obtain ⟨x, c, t, b, rfl, ht, hk, q⟩ := h
  have ty : TyX X.K H x (.type t) := by
    cases x with
    | non => cases ht; exact .base .non
    | bl b => cases ht; exact .base (.bl b)
    | int i => cases ht; exact .base (.int i)
    | str z => cases ht; exact .base (.str z)
    | _ => cases ht
  exact call_isi pins s σ H _ us Q I r ⟨x, .ty c, .type t, .type c, b, rfl, .ty c, ty, kit_ty hk, q⟩
theorem kit_int_int : kitB "int" "int" = some true := by decide +kernel
theorem kit_int_bool : kitB "int" "bool" = some false := by decide +kernel
theorem kit_int_str : kitB "int" "str" = some false := by decide +kernel
theorem kit_int_tuple : kitB "int" "tuple" = some false := by decide +kernel
theorem kit_int_list : kitB "int" "list" = some false := by decide +kernel
/-! ### the law's row of draws -/
def hide (H : Hp) (r : Addr) : Hp := fun b => if b = r then none else H b
theorem hide_upd {H : Hp} {r : Addr} {o : HO} : hide (upd H r o) r = hide H r := by
  funext b
  unfold hide upd
  by_cases h : b = r
  · rw [if_pos h, if_pos h]
  · rw [if_neg h, if_neg h, if_neg h]
theorem hide_same {H : Hp} {r : Addr} : Same (hide H r) H := fun b o e => by
  unfold hide at e
  by_cases h : b = r
  · rw [if_pos h] at e
    cases e
  · rw [if_neg h] at e
    exact e
/-- what stands apart from r is as it was, or more -/
def Off (r : Addr) (H H' : Hp) : Prop := ∀ b o, b ≠ r → H b = some o → H' b = some o
theorem Off.hide {r : Addr} {H H' : Hp} (h : Off r H H') : Same (hide H r) (hide H' r) := fun b o e => by
  unfold TG.hide at e ⊢
  by_cases hb : b = r
  · rw [if_pos hb] at e
    cases e
  · rw [if_neg hb] at e ⊢
    exact h b o hb e
theorem Off.refl {r : Addr} {H : Hp} : Off r H H := fun _ _ _ e => e
theorem Off.trans {r : Addr} {H H1 H2 : Hp} (a : Off r H H1) (b : Off r H1 H2) : Off r H H2 := fun x o hx e => b x o hx (a x o hx e)
theorem Off.upd {r : Addr} {H : Hp} {o : HO} : Off r H (upd H r o) := fun b u hb e => by rw [upd_ne hb]; exact e
theorem Off.of {r : Addr} {H H' : Hp} (h : Same H H') : Off r H H' := fun b u _ e => h b u e
theorem Off.eq {r : Addr} {H H' : Hp} (h : ∀ b, b ≠ r → H' b = H b) : Off r H H' := fun b u hb e => by rw [h b hb]; exact e
/-- the row: the script, a place, a seed, what is left of a great cell -/
def Row (K : PySem.W.Frag) (H : Hp) (r : Addr) : Prop :=
  ∃ (a : Addr) (ns : List Int) (i s t : Int), H r = some (.lst [.ref a, .int i, .int s, .int t]) ∧ SqL K (hide H r) a (ns.map V.int) ∧ ns.length ≤ 63 ∧ 0 ≤ i
theorem Row.more {K : PySem.W.Frag} {H H' : Hp} {r : Addr} (h : Row K H r) (s : Same H H') : Row K H' r := by
  obtain ⟨a, ns, i, z, t, h1, h2, h3, h4⟩ := h
  exact ⟨a, ns, i, z, t, s _ _ h1, (Off.hide (Off.of s)).seq h2, h3, h4⟩
theorem Row.there {K : PySem.W.Frag} {H : Hp} {r : Addr} (h : Row K H r) : ∃ xs, H r = some (.lst xs) := by
  obtain ⟨a, ns, i, z, t, h1, _⟩ := h
  exact ⟨_, h1⟩
/-- what changes is no list -/
theorem Row.off {K : PySem.W.Frag} {H H' : Hp} {r d : Addr} {u : HO} (h : Row K H r) (o : Off d H H') (hd : H d = some u) (hu : (∀ xs, u ≠ .lst xs) ∧ ∀ x y, u ≠ .frz x y) : Row K H' r := by
  obtain ⟨a, ns, i, z, t, h1, h2, h3, h4⟩ := h
  have hrd : r ≠ d := fun e => by
    rw [e, hd] at h1
    exact hu.1 _ (Option.some.inj h1)
  refine ⟨a, ns, i, z, t, o _ _ hrd h1, ?_, h3, h4⟩
  have key : ∀ v, hide H r a = some v → ((∃ xs, v = HO.lst xs) ∨ ∃ x y, v = HO.frz x y) → hide H' r a = some v := fun v e c => by
    have e1 : H a = some v := hide_same a v e
    have had : a ≠ d := fun q => by
      rw [q, hd] at e1
      have e2 := Option.some.inj e1
      rcases c with ⟨xs, c⟩ | ⟨x, y, c⟩
      · exact hu.1 _ (e2.trans c)
      · exact hu.2 _ _ (e2.trans c)
    have har : a ≠ r := fun q => by
      unfold hide at e
      rw [if_pos q] at e
      cases e
    unfold hide
    rw [if_neg har]
    exact o a v had e1
  rcases h2 with (h2 | ⟨x, h2⟩) | h2
  · exact .inl (.inl (key _ h2 (.inl ⟨_, rfl⟩)))
  · exact .inl (.inr ⟨x, key _ h2 (.inr ⟨_, _, rfl⟩)⟩)
  · exact .inr h2
/-- a draw: some number below m; the row turns, all else stands -/
def spTaken (K : PySem.W.Frag) : Sp := fun vs H Q _ => ∃ (r : Addr) (m : Int), vs = [.ref r, .int m] ∧ Row K H r ∧ (0 < m ∧ m < 1073741824) ∧
  ∀ (d : Int) (H' : Hp), 0 ≤ d → d < m → Row K H' r → (∀ b, b ≠ r → H' b = H b) → Q (.int d) H'
theorem at0 {a b c d : V} : atI [a, b, c, d] 0 = some a := rfl
theorem at1 {a b c d : V} : atI [a, b, c, d] 1 = some b := rfl
theorem at2 {a b c d : V} : atI [a, b, c, d] 2 = some c := rfl
theorem at3 {a b c d : V} : atI [a, b, c, d] 3 = some d := rfl
theorem mul_small {i : Int} : CMul i 48271 := .inr ⟨by decide, by decide⟩
/-- one of some things -/
def spPick (K : PySem.W.Frag) : Sp := fun vs H Q _ => ∃ (r p : Addr) (xs : List V), vs = [.ref r, .ref p] ∧ Row K H r ∧ H p = some (.lst xs) ∧ p ≠ r ∧ (0 < xs.length ∧ xs.length < 1000) ∧
  ∀ (v : V) (H' : Hp), v ∈ xs → Row K H' r → (∀ b, b ≠ r → H' b = H b) → Q v H'
/-- the row as the law makes it -/
theorem Row.make {K : PySem.W.Frag} {H : Hp} {r a : Addr} {ns : List Int} {s : Int} (hr : H r = none) (h : SqL K H a (ns.map V.int)) (hl : ns.length ≤ 63) : Row K (upd H r (.lst [.ref a, .int 0, .int s, .int 0])) r :=
  ⟨a, ns, 0, s, 0, upd_same, by
    rw [hide_upd]
    refine Same.seq (fun b o e => ?_) h
    unfold hide
    rw [if_neg (ne_of_none e hr)]
    exact e, hl, Int.le_refl 0⟩
/-! ### lists without repetition -/
theorem nodup_le {α : Type} [DecidableEq α] : ∀ {l m : List α}, l.Nodup → (∀ x ∈ l, x ∈ m) → l.length ≤ m.length
  | [], _, _, _ => Nat.zero_le _
  | x :: r, m, hn, hs => by
    have hx : x ∈ m := hs x List.mem_cons_self
    have hr := List.nodup_cons.mp hn
    have ih := nodup_le (l := r) (m := m.erase x) hr.2 fun y hy => by
      have hne : y ≠ x := fun e => hr.1 (e ▸ hy)
      exact (List.mem_erase_of_ne hne).mpr (hs y (List.mem_cons_of_mem _ hy))
    have hp : 0 < m.length := List.length_pos_of_mem hx
    rw [List.length_erase_of_mem hx] at ih
    rw [List.length_cons]
    omega
theorem nodup_cast : ∀ n : Nat, ((List.range n).map fun k : Nat => (k : Int)).Nodup := fun n => by
  rw [List.Nodup, List.pairwise_map]
  exact List.Pairwise.imp (fun h e => by omega) (List.pairwise_lt_range (n := n))
theorem int_in (k : Int) : ∀ ns : List Int, inV (.int k) (ns.map V.int) = decide (k ∈ ns)
  | [] => rfl
  | n :: r => by
    have ih := int_in k r
    unfold inV at ih ⊢
    rw [List.map_cons, List.any_cons, ih]
    by_cases h : n = k
    · subst h
      simp [eqV]
    · have h2 : ¬ k = n := fun e => h e.symm
      simp [eqV, h, h2]
theorem ints_flat (ns : List Int) : (ns.map V.int).all flatV = true := by
  rw [List.all_map, List.all_eq_true]
  intro x _
  rfl
end TG


set_option Elab.async false
set_option linter.all false
set_option maxRecDepth 100000
set_option maxHeartbeats 4000000
/-! enumerate(tuple) in a for, over the hand layer -/
namespace TG
open PySem PySem.Spec PyProof.Rows L2
open PySem.AutoSeq1 (wpAny_loadPart')
theorem meets_enumT (l : Addr) (items : Array Value) (n : Nat) (dct : Option Addr) (sl : Array (Option Value)) :
    Meets (Builtin.«enumerate.__new__» ⟨[.type "enumerate", .ref l], []⟩) (fun _ R s => s.heap.get? l = some { cls := .type "tuple", dict := dct, data := .seq items n, slots := sl } ∧
      R (.ok (.ret (.ref (s.heap.push { cls := .type "tuple_iterator", data := .fields #[.ref l, .int 0 0] }).objs.size)))
        { s with heap := (s.heap.push { cls := .type "tuple_iterator", data := .fields #[.ref l, .int 0 0] }).push { cls := .type "enumerate", data := .fields #[.none, .bool false, .ref s.heap.objs.size, rawInt 0, .none, .none] } }) :=
  .of_wp fun prog w A R s h => by
    obtain ⟨hp, g, d, tk, os⟩ := s; obtain ⟨hl, h⟩ := h
    have hsub := sub_enumerate
    have hL : Heap.IsTuple (Shared.heap ⟨hp, g, d, tk, os⟩) l items := ⟨_, hl, rfl, n, rfl⟩
    wp_walk using wpAny_loadPart' hl
    refine wpAny_stack_any fun st => wpAny_pure ?_
    split
    · rename_i c _ _ _ _ _
      cases (c == Value.type "enumerate")
      · wp_walk using wpAny_loadPart' hl, wpAny_pyIter_tuple hL
        exact ⟨_, rfl, h⟩
      · wp_walk using wpAny_loadPart' hl, wpAny_pyIter_tuple hL
        exact ⟨_, rfl, h⟩
    · wp_walk using wpAny_loadPart' hl, wpAny_pyIter_tuple hL
      exact ⟨_, rfl, h⟩
section
variable {prog : Program} {w : World} {A : Around} {E : Value → Shared → Prop} {s : Shared}
theorem call_enumT {l : Addr} {items : Array Value} {Q : Value → Shared → Prop} (hL : s.heap.IsTuple l items)
    (h : ∀ h', IsEnum h' (s.heap.objs.size + 1) s.heap.objs.size 0 .none → h'.IsTupleIter s.heap.objs.size l 0 → h'.objs.size = s.heap.objs.size + 2 →
      (∀ b o, s.heap.get? b = some o → h'.get? b = some o) → Q (.ref (s.heap.objs.size + 1)) { s with heap := h' }) :
    wpAny (model prog w) A (call (.type "enumerate") [.ref l]) Q E s := by
  obtain ⟨⟨c, dct, dt, sl⟩, hl, hc, n, hd⟩ := hL
  replace hc : c = .type "tuple" := hc
  replace hd : dt = .seq items n := hd
  subst hc hd
  refine callType_new F.called_enumerate (by decide) (F.typeCall_enumerate_1 _) (F.newCall_enumerate_1 _) (fun obj => F.args_object_init_2 obj _) F.entry_enumerate_new
    (meets_enumT l items n dct sl) ⟨hl, ?_⟩
  have hz : (s.heap.push { cls := .type "tuple_iterator", data := .fields #[.ref l, .int 0 0] }).objs.size = s.heap.objs.size + 1 := Heap.size_push ..
  show _ ∧ _
  rw [hz]
  have he : IsEnum ((s.heap.push { cls := .type "tuple_iterator", data := .fields #[.ref l, .int 0 0] }).push
      { cls := .type "enumerate", data := .fields #[.none, .bool false, .ref s.heap.objs.size, rawInt 0, .none, .none] }) (s.heap.objs.size + 1) s.heap.objs.size 0 .none := by
    have := Heap.get?_push_size (s.heap.push { cls := .type "tuple_iterator", data := .fields #[.ref l, .int 0 0] })
      (o := { cls := .type "enumerate", data := .fields #[.none, .bool false, .ref s.heap.objs.size, rawInt 0, .none, .none] }) rfl
    rw [hz] at this; exact this
  refine ⟨⟨_, he, rfl⟩, h _ he ⟨_, Heap.get?_push_of_some _ (Heap.get?_push_size _ rfl), rfl, rfl⟩ (by rw [Heap.size_push, hz]) fun b o x => Heap.get?_push_of_some _ (Heap.get?_push_of_some _ x)⟩
end
theorem drawsT {prog : Program} {w : World} {A : Around} (hh : A.handled = none) (it l : Addr) (hne : l ≠ it) (items : Array Value) :
    Draws prog w A it [it, l] items.size (fun i v => items[i]? = some v) (fun i h => h.IsTupleIter it l i ∧ h.IsTuple l items) where
  live := fun _ _ st => let ⟨o, ho, _⟩ := st.1; ⟨o, ho⟩
  frame := fun _ _ _ st hk => ⟨st.1.at fun o e => hk it (by simp) o e, let ⟨o, ho, r⟩ := st.2; ⟨o, hk l (by simp) o ho, r⟩⟩
  item := fun i s Q E hi st hQ => by
    refine RZ.nextOf_tuple_item st.1 st.2 (x := items[i]) (by simp [hi]) fun h' hit' hs' => ?_
    exact hQ _ h' s.toks (by simp [hi]) ⟨hit', let ⟨o, ho, r⟩ := st.2; ⟨o, (hs'.2 l hne).trans ho, r⟩⟩ hs'
  done := fun s Q E st hE => RZ.nextOf_tuple_end hh st.1 st.2 (by simp) hE
/-- the tuple at a as it stands at each turn, each item in a new pair -/
def IteT (K : PySem.W.Frag) (a : Addr) : It :=
  ⟨fun i H => ∃ (xs : List V) (x : V), SqT K H a xs ∧ xs[i]? = some x, fun i H v H' => ∃ T x, v = .ref T ∧ H T = none ∧ H' = upd H T (.tup [.int (i : Nat), x]) ∧ ∀ xs, SqT K H a xs → xs[i]? = some x, fun i H => ∃ xs : List V, SqT K H a xs ∧ xs.length = i⟩
theorem turn_enumT {P : Program} {w : World} {K : PySem.W.Frag} {elts : List Expr} {kk : Nat} {tpos : Pos} (a e it : Addr) :
    Turn P w K (.Tuple elts kk tpos) (IteT K a) [e, it] e (fun i h => (∃ old, IsEnum h e it ((i : Nat) : Int) old) ∧ h.IsTupleIter it a i ∧ e ≠ it ∧ a ≠ it ∧ a ≠ e) where
  mem := by simp
  obj := fun i h st b hb => by
    obtain ⟨⟨old, he⟩, ⟨o, ho, hc, hd⟩, _⟩ := st
    have e' : b = e ∨ b = it := by simpa using hb
    rcases e' with z | z
    · rw [z]; exact ⟨_, he, fun v q => nomatch q⟩
    · rw [z]; exact ⟨o, ho, fun v q => by rw [hd] at q; cases q⟩
  keep := fun i h h' st k => let ⟨⟨old, he⟩, hi, hne⟩ := st; ⟨⟨old, k e (by simp) _ he⟩, hi.at fun o q => k it (by simp) o q, hne⟩
  item := by
    intro X hP hw hK hc i pins s σ H E I hf st hg
    subst hP hw hK
    obtain ⟨⟨old, he⟩, hit, hne, hai, hae⟩ := st
    obtain ⟨xs, x, hq, hx⟩ := hg
    obtain ⟨its, rv, p, hz⟩ := I.tuple hq
    obtain ⟨u, hu, ru⟩ := rv.get hx
    have hel : e < s.heap.objs.size := Heap.lt_size he
    have hil : it < s.heap.objs.size := by obtain ⟨_, q, _⟩ := hit; exact Heap.lt_size q
    have hilen : i < its.toArray.size := by
      have := (List.getElem?_eq_some_iff.mp hu).1
      simpa using this
    have D := drawsT (prog := X.prog) (w := X.w) (A := X.A.in1) (I.ok.hd hc) it a hai its.toArray
    refine wpAny_pyNext_enum_itemD D he ⟨hit, p⟩ hilen hne (by simp [hne, Ne.symm hae]) fun x' h' tk hP' ho hit' hT hsz hk => ?_
    have ex : x' = u := by
      have h1 : its[i]? = some x' := by simpa using hP'
      rw [hu] at h1
      exact (Option.some.inj h1).symm
    subst ex
    refine ⟨_, rfl, wpAny_letOwnedTupleGo_enum (s := { s with heap := h', toks := tk + 1 }) ho fun h'' he' sb => ?_⟩
    have hT2 : h''.get? s.heap.objs.size = some { cls := .type "tuple", data := .seq #[.int i tk, x'] } := (sb.2 _ (Nat.ne_of_gt hel)).trans hT
    have new : ObjOk X.prog X.w (upd H s.heap.objs.size (.tup [.int (i : Nat), x])) h'' s.heap.objs.size (.tup [.int (i : Nat), x]) :=
      ⟨by show 2 ≤ sizeLine; decide, [.int i tk, x'], .cons ⟨_, rfl⟩ (.cons ru .nil), ⟨_, hT2, rfl, _, rfl⟩⟩
    have I1 : Inv X pins σ (upd H s.heap.objs.size (.tup [.int (i : Nat), x])) { s with heap := h'', toks := tk + 1 } :=
      I.turnedNew (ch := [e, it]) (fun b ob hb q => (sb.2 b (fun z => hb (by simp [z]))).trans (hk b ob (fun z => hb (by simp [z])) (fun z => hb (by simp [z])) q)) hf (Nat.le_refl _) new
    refine ⟨.ref s.heap.objs.size, _, I1, rfl, ⟨_, x, rfl, I.hok.fresh (Nat.le_refl _), rfl, fun ys hy => by rw [I.tuple_inj hy hq]; exact hx⟩, ⟨⟨x', ?_⟩, hit'.1.at fun o q => (sb.2 it (Ne.symm hne)).trans q, hne, hai, hae⟩, fun b hb => ?_⟩
    · have e1 : ((i + 1 : Nat) : Int) = (i : Int) + 1 := by omega
      rw [e1]; exact he'
    · have hb' : b < s.heap.objs.size := by
        have e' : b = e ∨ b = it := by simpa using hb
        rcases e' with z | z
        · rw [z]; exact hel
        · rw [z]; exact hil
      rw [upd_ne (Nat.ne_of_lt hb')]
      exact (hf b hb).1
  done := by
    intro X hP hw hK hc i pins s σ H E I hf st hg
    subst hP hw hK
    obtain ⟨⟨old, he⟩, hit, hne, hai, hae⟩ := st
    obtain ⟨xs, hq, hx⟩ := hg
    obtain ⟨its, rv, p, hz⟩ := I.tuple hq
    obtain ⟨f0, f1, f2, f3, f4, f5⟩ := hf it (by simp)
    have hl := rv.length
    have D := drawsT (prog := X.prog) (w := X.w) (A := X.A.in1) (I.ok.hd hc) it a hai its.toArray
    have hi : i = its.toArray.size := by simp; omega
    rw [hi] at hit
    exact wpAny_pyNext_enum_endD D he ⟨hit, p⟩ fun h' eb => ⟨rfl, I.turned (t' := s.toks) (fun b o hb q => eb b o hb q) f0 f1 f3 f4 f5⟩
  self := fun A i s Q E st h => let ⟨⟨_, he⟩, _⟩ := st; wpAny_pyIter_enum he h
def iEnumT (K : PySem.W.Frag) (ta : TA) : TI := fun σ H R => ta σ H fun vs H1 => ∃ a xs, vs = [.ref a] ∧ SqT K H1 a xs ∧ R (IteT K a) H1
theorem pi_enumT {X : Cx} {K : PySem.W.Frag} {e : Expr} {ta : TA} {p pos tpos : Pos} {elts : List Expr} {kk : Nat} (hK : X.K = K) (hg : Gl X "enumerate") (hm : X.mg "enumerate" = none) (ha : PA X [e] ta) (hs : starEach [e] X.env = [(false, eval e X.env)] := by rfl) :
    PI X (.Tuple elts kk tpos) (.Call (.Name "enumerate" p) [e] [] pos) (iEnumT K ta) := by
  subst hK
  refine ⟨fun pins s σ H R I h => ?_⟩
  refine Call_ (ld_blt I hg hm boot_enumerate (PyProof.Rows.callWith_type1 (thn (ha.run pos pins s σ H _ I h) fun us s1 ⟨vs, H1, I1, r1, q1⟩ => ?_) hs rfl))
  obtain ⟨a, xs, ex, hq, q⟩ := q1
  subst ex
  cases r1 with
  | cons r rr =>
    cases rr
    cases r
    obtain ⟨its, rv, p', hz⟩ := I1.tuple hq
    have hal : a < s1.heap.objs.size := by obtain ⟨o, ho, _⟩ := p'; exact Heap.lt_size ho
    refine call_enumT p' fun h' he hit hsz hk => wpAny_pyIter_enum he ?_
    have I2 : Inv X pins σ H1 { s1 with heap := h' } := I1.kept (t' := s1.toks) hk
    refine ⟨s1.heap.objs.size + 1, [s1.heap.objs.size + 1, s1.heap.objs.size], _, _, H1, rfl, I2, turn_enumT a (s1.heap.objs.size + 1) s1.heap.objs.size, ⟨⟨.none, he⟩, hit, Nat.succ_ne_self _, Nat.ne_of_lt hal, Nat.ne_of_lt (Nat.lt_succ_of_lt hal)⟩, fun b hb => ?_, q⟩
    have e' : b = s1.heap.objs.size + 1 ∨ b = s1.heap.objs.size := by simpa using hb
    have hle : s1.heap.objs.size ≤ b := by
      rcases e' with z | z
      · rw [z]; exact Nat.le_add_right _ _
      · rw [z]; exact Nat.le_refl _
    exact I1.fpOk hle (I1.hok.fresh hle)
/-- a for over enumerate(tuple): the invariant by the turn -/
theorem for_enumT {K : PySem.W.Frag} {a : Addr} {xs : List V} {i1 i2 : Nat} {tb : TS} {D : Ends} {σ : L2.St} {H : Hp} (Pv : Nat → L2.St → Hp → Prop) (h0 : Pv 0 σ H) (hl : ∀ i σ H, i ≤ xs.length → Pv i σ H → SqT K H a xs)
    (hs : ∀ i x σ H H', xs[i]? = some x → Pv i σ H → Same H H' → tb { D with nx := Pv (i + 1), ct := Pv (i + 1), bk := D.nx } ((σ.set i1 (some (.int (i : Nat)))).set i2 (some x)) H') (hd : ∀ σ H, Pv xs.length σ H → D.nx σ H) :
    ∃ W : Nat → Nat → L2.St → Hp → Prop, (∃ m, W 0 m σ H) ∧ ∀ i m σ H, W i m σ H →
      ((IteT K a).stop i H ∧ D.nx σ H) ∨ ((IteT K a).go i H ∧ ∃ N : L2.St → Hp → Prop, (∀ σ' H', N σ' H' → ∃ m', m' < m ∧ W (i + 1) m' σ' H') ∧ ∀ x H', (IteT K a).yld i H x H' →
        gTup K 2 (gCons (gName i1) (gCons (gName i2) gNil)) x σ H' fun σ2 H2 => tb { D with nx := N, ct := N, bk := D.nx } σ2 H2) := by
  refine ⟨fun i m σ H => m = xs.length - i ∧ i ≤ xs.length ∧ Pv i σ H, ⟨xs.length, by simp, Nat.zero_le _, h0⟩, ?_⟩
  rintro i m σ H ⟨rfl, hi, p⟩
  have hq := hl i σ H hi p
  by_cases hlt : i < xs.length
  · refine .inr ⟨⟨xs, xs[i], hq, List.getElem?_eq_getElem hlt⟩, Pv (i + 1), fun σ' H' p' => ⟨xs.length - (i + 1), by omega, rfl, hlt, p'⟩, fun x H' y => ?_⟩
    obtain ⟨T, z, rfl, hT, rfl, hz⟩ := y
    exact ⟨T, _, rfl, SqT.of upd_same, rfl, _, _, rfl, _, _, rfl, rfl, hs i z σ H _ (hz xs hq) p (same_new hT _)⟩
  · have e : i = xs.length := by omega
    subst e
    exact .inl ⟨⟨xs, hq, rfl⟩, hd σ H p⟩
end TG


set_option Elab.async false
set_option linter.all false
set_option maxRecDepth 100000
set_option maxHeartbeats 4000000
namespace TG
open PySem L2
/-! ### further steps into a reading -/
section
variable {σ : L2.St} {H : Hp} {D : Ends} {te : TE} {tt tu : TT} {Q : Bool → Hp → Prop}
theorem go_next (h : D.nx σ H) : tNext D σ H := h
theorem go_or (h : tt σ H fun c H1 => if c = true then Q true H1 else tu σ H1 Q) : tOr tt tu σ H Q := h
theorem go_and (h : tt σ H fun c H1 => if c = true then tu σ H1 Q else Q false H1) : tAnd tt tu σ H Q := h
theorem go_not (h : tt σ H fun c H1 => Q (!c) H1) : tNot tt σ H Q := h
theorem go_B (h : te σ H fun x H1 => ∃ c, x = .bl c ∧ Q c H1) : tB te σ H Q := h
theorem go_test (h : te σ H fun x H1 => ∃ c, x = .bl c ∧ Q c H1) : tTest te σ H Q := h
end
/-! ### more rules with the written part named -/
section
variable {X : Cx} {K : PySem.W.Frag}
theorem op_catAK (hK : X.K = K) : OpR X (binaryOp .Add) (rCatA K) := by subst hK; exact op_catA
theorem sl_tupAK (hK : X.K = K) : SlR X (rSlA K) := by subst hK; exact sl_tupA
/-- the type's name of a value: plain ones, tuples, lists -/
def TyN (K : PySem.W.Frag) (H : Hp) (x : V) (t : String) : Prop :=
  sTy x = some t ∨ (t = "tuple" ∧ ∃ a ys, x = .ref a ∧ SqT K H a ys) ∨ (t = "list" ∧ ∃ a ys, x = .ref a ∧ H a = some (.lst ys)) ∨ (t = "dict" ∧ ∃ a kvs, x = .ref a ∧ H a = some (.dK kvs))
theorem TyN.x {H : Hp} {x : V} {t : String} (h : TyN K H x t) : TyX K H x (.type t) := by
  rcases h with h | ⟨rfl, a, ys, rfl, (h | ⟨o, h⟩) | ⟨o, its, n, h, hc, _⟩⟩ | ⟨rfl, a, ys, rfl, h⟩ | ⟨rfl, a, kvs, rfl, h⟩
  · cases x with
    | non => cases h; exact .base .non
    | bl b => cases h; exact .base (.bl b)
    | int i => cases h; exact .base (.int i)
    | str z => cases h; exact .base (.str z)
    | _ => cases h
  · exact .base (.tup h)
  · exact .fTuple h
  · exact .kTuple h hc
  · exact .base (.lst h)
  · exact .base (.dK h)
def rIsiG (K : PySem.W.Frag) : List V → Hp → VK → Prop := fun xs H Q => ∃ x c t b, xs = [x, .ty c] ∧ TyN K H x t ∧ kitB t c = some b ∧ Q (.bl b) H
theorem call_isiG (hK : X.K = K) : CallR X (.builtin "isinstance") (rIsiG K) := by
  subst hK
  intro pins s σ H xs us Q I r h
  obtain ⟨x, c, t, b, rfl, ht, hk, q⟩ := h
  exact call_isi pins s σ H _ us Q I r ⟨x, .ty c, .type t, .type c, b, rfl, .ty c, ht.x, kit_ty hk, q⟩
end
theorem kit_tuple_tuple : kitB "tuple" "tuple" = some true := by decide +kernel
theorem kit_tuple_int : kitB "tuple" "int" = some false := by decide +kernel
theorem kit_bool_bool : kitB "bool" "bool" = some true := by decide +kernel
theorem kit_bool_int : kitB "bool" "int" = some true := by decide +kernel
theorem TyN.int {K : PySem.W.Frag} {H : Hp} {n : Int} : TyN K H (.int n) "int" := .inl rfl
theorem TyN.bl {K : PySem.W.Frag} {H : Hp} {b : Bool} : TyN K H (.bl b) "bool" := .inl rfl
theorem TyN.tup {K : PySem.W.Frag} {H : Hp} {a : Addr} {ys : List V} (h : SqT K H a ys) : TyN K H (.ref a) "tuple" := .inr (.inl ⟨rfl, a, ys, rfl, h⟩)
theorem sqT {K : PySem.W.Frag} {H H' : Hp} {a : Addr} {xs : List V} (e : Same H H') (h : SqT K H a xs) : SqT K H' a xs := Evl.ex_t e h
theorem sqL {K : PySem.W.Frag} {H H' : Hp} {a : Addr} {xs : List V} (e : Same H H') (h : SqL K H a xs) : SqL K H' a xs := Evl.ex_l e h
/-! ### the row of draws, the script named -/
def RowA (K : PySem.W.Frag) (a : Addr) (ns : List Int) (H : Hp) (r : Addr) : Prop :=
  ∃ (i s t : Int), H r = some (.lst [.ref a, .int i, .int s, .int t]) ∧ SqL K (hide H r) a (ns.map V.int) ∧ ns.length ≤ 63 ∧ 0 ≤ i
section
variable {K : PySem.W.Frag} {a : Addr} {ns : List Int} {H H' : Hp} {r D : Addr}
theorem RowA.more (h : RowA K a ns H r) (s : Same H H') : RowA K a ns H' r := by
  obtain ⟨i, z, t, h1, h2, h3, h4⟩ := h
  exact ⟨i, z, t, s _ _ h1, (Off.hide (Off.of s)).seq h2, h3, h4⟩
theorem RowA.there (h : RowA K a ns H r) : ∃ xs, H r = some (.lst xs) := by
  obtain ⟨i, z, t, h1, _⟩ := h
  exact ⟨_, h1⟩
theorem RowA.make {s : Int} (hr : H r = none) (h : SqL K H a (ns.map V.int)) (hl : ns.length ≤ 63) : RowA K a ns (upd H r (.lst [.ref a, .int 0, .int s, .int 0])) r :=
  ⟨0, s, 0, upd_same, by
    rw [hide_upd]
    refine Same.seq (fun b o e => ?_) h
    unfold hide
    rw [if_neg (ne_of_none e hr)]
    exact e, hl, Int.le_refl 0⟩
/-- D is not where the script stands -/
def Safe (K : PySem.W.Frag) (a : Addr) (ns : List Int) (D : Addr) : Prop := a ≠ D ∨ ∀ H, SqL K H a (ns.map V.int)
theorem RowA.safe (h : RowA K a ns H r) (hD : H D = none) : Safe K a ns D := by
  obtain ⟨i, z, t, h1, h2, h3, h4⟩ := h
  rcases h2 with (h2 | ⟨x, h2⟩) | h2
  · exact .inl (ne_of_none (hide_same a _ h2) hD)
  · exact .inl (ne_of_none (hide_same a _ h2) hD)
  · exact .inr fun H => .inr h2
/-- all but D is kept -/
theorem RowA.off (h : RowA K a ns H r) (hr : r ≠ D) (hs : Safe K a ns D) (o : Off D H H') : RowA K a ns H' r := by
  obtain ⟨i, z, t, h1, h2, h3, h4⟩ := h
  refine ⟨i, z, t, o _ _ hr h1, ?_, h3, h4⟩
  rcases hs with hs | hs
  · have key : ∀ v, hide H r a = some v → hide H' r a = some v := fun v e => by
      unfold hide at e ⊢
      by_cases har : a = r
      · rw [if_pos har] at e
        cases e
      · rw [if_neg har] at e ⊢
        exact o a v hs e
    rcases h2 with (h2 | ⟨x, h2⟩) | h2
    · exact .inl (.inl (key _ h2))
    · exact .inl (.inr ⟨x, key _ h2⟩)
    · exact .inr h2
  · exact hs _
theorem RowA.upd {o : HO} (h : RowA K a ns H r) (hr : r ≠ D) (hs : Safe K a ns D) : RowA K a ns (upd H D o) r := h.off hr hs Off.upd
end
/-- a tuple stands while the row turns -/
theorem sqT_row {K : PySem.W.Frag} {H H' : Hp} {p r : Addr} {xs ys : List V} (h : SqT K H p xs) (hr : H r = some (.lst ys)) (ho : ∀ b, b ≠ r → H' b = H b) : SqT K H' p xs := by
  have key : ∀ u, H p = some u → (∀ zs, u ≠ .lst zs) → H' p = some u := fun u e hu => by
    rw [ho p (fun c => by rw [c, hr] at e; exact hu _ (Option.some.inj e).symm)]
    exact e
  rcases h with (h | ⟨o, h⟩) | h
  · exact .inl (.inl (key _ h (fun _ z => by cases z)))
  · exact .inl (.inr ⟨o, key _ h (fun _ z => by cases z)⟩)
  · exact .inr h
/-- a draw: some number below m; the row turns, all else stands -/
def spTk (K : PySem.W.Frag) : Sp := fun vs H Q _ => ∃ (r a : Addr) (ns : List Int) (m : Int), vs = [.ref r, .int m] ∧ RowA K a ns H r ∧ (0 < m ∧ m < 1073741824) ∧
  ∀ (d : Int) (H' : Hp), 0 ≤ d → d < m → RowA K a ns H' r → (∀ b, b ≠ r → H' b = H b) → Q (.int d) H'
/-- one of some things -/
def spPk (K : PySem.W.Frag) : Sp := fun vs H Q _ => ∃ (r a p : Addr) (ns : List Int) (xs : List V), vs = [.ref r, .ref p] ∧ RowA K a ns H r ∧ H p = some (.lst xs) ∧ p ≠ r ∧ (0 < xs.length ∧ xs.length < 1000) ∧
  ∀ (v : V) (H' : Hp), v ∈ xs → RowA K a ns H' r → (∀ b, b ≠ r → H' b = H b) → Q v H'
/-! ### a comprehension over range(a, b) -/
theorem el_lcR2 {σ : L2.St} {H : Hp} {t : TT} {te : TE} {ta : TA} {j : Nat} {vs : List Nat} {lo hi : Int} (f : Nat → Bool) (v : Nat → V) (h : Evl.EvA ta σ H [.int lo, .int hi]) (hn : -100000 ≤ lo ∧ lo ≤ 100000 ∧ -100000 ≤ hi ∧ hi ≤ 100000 ∧ hi - lo ≤ 40000) (hw : ∀ x, wipe ((wipe σ vs).set j (some x)) vs = wipe σ vs)
    (ht : ∀ (i : Nat) H1, Evl.Ex H H1 → lo + (i : Int) < hi → Evl.EvT t ((wipe σ vs).set j (some (.int (lo + (i : Int))))) H1 (f i)) (he : ∀ (i : Nat) H1, Evl.Ex H H1 → lo + (i : Int) < hi → f i = true → Evl.Ev te ((wipe σ vs).set j (some (.int (lo + (i : Int))))) H1 (v i)) :
    Evl.EvL (tLc (iRng2 ta) (gName j) t te vs) σ H (Evl.given (hi - lo).toNat f v) := fun H0 e Q q => h H0 e _ fun H1 e1 => ⟨lo, hi, rfl, ⟨by omega, by omega, by omega, by omega⟩, fun Dl hD =>
  lc_range (lo := lo) (n := (hi - lo).toNat) (Evl.Cw H1 f v Dl) ⟨hD, Evl.Ex.new hD, upd_same⟩ (fun i H' hi' p =>
    ⟨hw _, Evl.cw_turn p (by omega) (ht i H1 (e.trans e1) (by omega)) (fun hf => he i H1 (e.trans e1) (by omega) hf)⟩) (fun H' p => q Dl H' (Evl.fresh_back e1 p.1) (e1.trans p.2.1) p.2.2)⟩
/-- over a tuple -/
theorem el_lcT {K : PySem.W.Frag} {σ : L2.St} {H : Hp} {t : TT} {te : TE} {a : Addr} {xs : List V} {tl : TE} {j : Nat} {vs : List Nat} (f : Nat → Bool) (v : Nat → V) (h : Evl.Ev tl σ H (.ref a)) (hx : SqT K H a xs) (hz : xs.length ≤ 40000) (hw : ∀ x, wipe ((wipe σ vs).set j (some x)) vs = wipe σ vs)
    (ht : ∀ (i : Nat) (x : V) H1, Evl.Ex H H1 → xs[i]? = some x → Evl.EvT t ((wipe σ vs).set j (some x)) H1 (f i)) (he : ∀ (i : Nat) (x : V) H1, Evl.Ex H H1 → xs[i]? = some x → f i = true → Evl.Ev te ((wipe σ vs).set j (some x)) H1 (v i)) :
    Evl.EvL (tLc (iTup K tl) (gName j) t te vs) σ H (Evl.given xs.length f v) := fun H0 e Q q => h H0 e _ fun H1 e1 => ⟨a, rfl, ⟨xs, Evl.ex_t (e.trans e1) hx⟩, fun Dl hD =>
  lc_tup (xs := xs) (Evl.Cw H1 f v Dl) ⟨hD, Evl.Ex.new hD, upd_same⟩ (fun i H' _ p => Evl.ex_t ((e.trans e1).trans p.2.1) hx) (fun i x H' hi p => ⟨hw x, Evl.cw_turn p (by have := (List.getElem?_eq_some_iff.mp hi).1; omega) (ht i x H1 (e.trans e1) hi) (fun hf => he i x H1 (e.trans e1) hi hf)⟩)
    (fun H' p => q Dl H' (Evl.fresh_back e1 p.1) (e1.trans p.2.1) p.2.2)⟩
theorem given_all (n : Nat) (v : Nat → V) : Evl.given n (fun _ => true) v = (List.range n).map v := by
  unfold Evl.given
  rw [List.filter_eq_self.mpr (fun _ _ => rfl)]
/-! ### the least that is missing -/
def miss (ns : List Int) : List Nat := (List.range (ns.length + 1)).filter fun k => !decide ((k : Int) ∈ ns)
theorem miss_ne (ns : List Int) : miss ns ≠ [] := by
  intro h
  have h1 : ∀ k ∈ List.range (ns.length + 1), ((k : Int)) ∈ ns := fun k hk => by
    have := List.filter_eq_nil_iff.mp h k hk
    simpa using this
  have h2 := nodup_le (l := (List.range (ns.length + 1)).map fun k : Nat => (k : Int)) (m := ns) (nodup_cast _) (fun x hx => by
    obtain ⟨k, hk, rfl⟩ := List.mem_map.mp hx
    exact h1 k hk)
  rw [List.length_map, List.length_range] at h2
  omega
def mexL (ns : List Int) : Nat := (miss ns).headD 0
theorem below_len {ns : List Int} {m : Nat} (h2 : ∀ j : Nat, j < m → ((j : Int)) ∈ ns) : m ≤ ns.length := by
  have h3 := nodup_le (l := (List.range m).map fun k : Nat => (k : Int)) (m := ns) (nodup_cast _) (fun x hx => by
    obtain ⟨k, hk, rfl⟩ := List.mem_map.mp hx
    exact h2 k (List.mem_range.mp hk))
  rw [List.length_map, List.length_range] at h3
  exact h3
theorem mexL_of {ns : List Int} {m : Nat} (h1 : ((m : Int)) ∉ ns) (h2 : ∀ j : Nat, j < m → ((j : Int)) ∈ ns) : mexL ns = m := by
  have hm : m ∈ miss ns := by
    refine List.mem_filter.mpr ⟨List.mem_range.mpr ?_, by simpa using h1⟩
    have := below_len h2
    omega
  have hs : (miss ns).Pairwise (· < ·) := List.Pairwise.filter _ List.pairwise_lt_range
  have hin : ∀ j ∈ miss ns, ¬ j < m := fun j hj hlt => by
    have := (List.mem_filter.mp hj).2
    simp [h2 j hlt] at this
  unfold mexL
  cases e : miss ns with
  | nil => exact absurd e (miss_ne ns)
  | cons x r =>
    rw [e] at hm hs hin
    have h3 := hin x List.mem_cons_self
    have : x = m := by
      rcases List.mem_cons.mp hm with h | h
      · exact h.symm
      · have := (List.pairwise_cons.mp hs).1 m h
        omega
    simp [this]
theorem mexL_spec (ns : List Int) : ((mexL ns : Nat) : Int) ∉ ns ∧ ∀ j : Nat, j < mexL ns → ((j : Int)) ∈ ns := by
  have hs : (miss ns).Pairwise (· < ·) := List.Pairwise.filter _ List.pairwise_lt_range
  unfold mexL
  cases e : miss ns with
  | nil => exact absurd e (miss_ne ns)
  | cons x r =>
    have hx : x ∈ miss ns := by rw [e]; exact List.mem_cons_self
    obtain ⟨h1, h2⟩ := List.mem_filter.mp hx
    refine ⟨by simpa using h2, fun j hj => ?_⟩
    show ((j : Int)) ∈ ns
    have hj' : j < x := hj
    have hjr : j ∈ List.range (ns.length + 1) := List.mem_range.mpr (by have := List.mem_range.mp h1; omega)
    by_cases c : ((j : Int)) ∈ ns
    · exact c
    · have hm : j ∈ miss ns := List.mem_filter.mpr ⟨hjr, by simpa using c⟩
      rw [e] at hm hs
      rcases List.mem_cons.mp hm with h | h
      · omega
      · have := (List.pairwise_cons.mp hs).1 j h
        omega
theorem mexL_congr {xs ys : List Int} (h : ∀ t, t ∈ xs ↔ t ∈ ys) : mexL xs = mexL ys := by
  obtain ⟨h1, h2⟩ := mexL_spec ys
  exact mexL_of (fun q => h1 ((h _).mp q)) (fun j hj => (h _).mpr (h2 j hj))
/-! ### dicts -/
theorem put_fst {κ : Type} [DecidableEq κ] (kvs : List (κ × V)) (k : κ) (v : V) : (putK kvs k v).map (·.1) = if k ∈ kvs.map (·.1) then kvs.map (·.1) else kvs.map (·.1) ++ [k] := by
  unfold putK
  by_cases h : k ∈ kvs.map (·.1)
  · rw [if_pos h, if_pos]
    · rw [List.map_map]
      refine List.map_congr_left fun p _ => ?_
      show (if p.1 = k then (p.1, v) else p).1 = p.1
      by_cases hp : p.1 = k
      · rw [if_pos hp]
      · rw [if_neg hp]
    · obtain ⟨p, hp, e⟩ := List.mem_map.mp h
      exact List.any_eq_true.mpr ⟨p, hp, decide_eq_true e⟩
  · rw [if_neg h, if_neg]
    · rw [List.map_append]
      rfl
    · intro q
      obtain ⟨p, hp, e⟩ := List.any_eq_true.mp q
      exact h (List.mem_map.mpr ⟨p, hp, of_decide_eq_true e⟩)
theorem val_none {κ : Type} [DecidableEq κ] {kvs : List (κ × V)} {k : κ} (h : valV kvs k = none) : k ∉ kvs.map (·.1) := by
  intro q
  obtain ⟨p, hp, e⟩ := List.mem_map.mp q
  unfold valV at h
  rw [Option.map_eq_none_iff, List.find?_eq_none] at h
  exact h p hp (decide_eq_true e)
theorem val_some {κ : Type} [DecidableEq κ] {kvs : List (κ × V)} {k : κ} : (valV kvs k).isSome = decide (k ∈ kvs.map (·.1)) := by
  cases e : valV kvs k with
  | none => rw [decide_eq_false (val_none e)]; rfl
  | some v =>
    have : k ∈ kvs.map (·.1) := by
      unfold valV at e
      cases e2 : kvs.find? (fun kv => decide (kv.1 = k)) with
      | none => rw [e2] at e; cases e
      | some p =>
        have h1 := List.mem_of_find?_eq_some e2
        have h2 : p.1 = k := by have := List.find?_some e2; simpa using this
        exact List.mem_map.mpr ⟨p, h1, h2⟩
    rw [decide_eq_true this]
    rfl
/-- a dict with int keys: which keys there are -/
structure Keys (ks : List (Key × V)) (xs : List Int) : Prop where
  ex : ∃ ns : List Int, ks.map (·.1) = ns.map Sum.inl ∧ ns.Nodup ∧ ∀ t, t ∈ ns ↔ t ∈ xs
theorem Keys.nil : Keys [] [] := ⟨[], rfl, List.nodup_nil, fun t => Iff.rfl⟩
theorem Keys.has {ks : List (Key × V)} {xs : List Int} (h : Keys ks xs) (t : Int) : (valV ks (Sum.inl t)).isSome = decide (t ∈ xs) := by
  obtain ⟨ns, e, _, hm⟩ := h.ex
  rw [val_some, e]
  have : (Sum.inl t : Key) ∈ ns.map Sum.inl ↔ t ∈ xs := by
    rw [← hm t]
    constructor
    · intro q
      obtain ⟨y, hy, ey⟩ := List.mem_map.mp q
      rw [← Sum.inl.inj ey]
      exact hy
    · intro q
      exact List.mem_map.mpr ⟨t, q, rfl⟩
  exact decide_eq_decide.mpr this
theorem Keys.put {ks : List (Key × V)} {xs : List Int} (h : Keys ks xs) (t : Int) (v : V) : Keys (putK ks (Sum.inl t) v) (xs ++ [t]) := by
  obtain ⟨ns, e, nd, hm⟩ := h.ex
  have hi : (Sum.inl t : Key) ∈ ns.map Sum.inl ↔ t ∈ ns := by
    constructor
    · intro q
      obtain ⟨y, hy, ey⟩ := List.mem_map.mp q
      rw [← Sum.inl.inj ey]
      exact hy
    · intro q
      exact List.mem_map.mpr ⟨t, q, rfl⟩
  refine ⟨if t ∈ ns then ns else ns ++ [t], ?_, ?_, fun x => ?_⟩
  · rw [put_fst, e]
    by_cases c : t ∈ ns
    · rw [if_pos (hi.mpr c), if_pos c]
    · rw [if_neg (fun z => c (hi.mp z)), if_neg c, List.map_append]
      rfl
  · by_cases c : t ∈ ns
    · rw [if_pos c]
      exact nd
    · rw [if_neg c]
      refine List.nodup_append.mpr ⟨nd, by simp, ?_⟩
      intro x hx y hy e
      rw [List.mem_singleton] at hy
      exact c (by rw [← hy, ← e]; exact hx)
  · rw [List.mem_append, List.mem_singleton, ← hm x]
    by_cases c : t ∈ ns
    · rw [if_pos c]
      constructor
      · exact .inl
      · rintro (z | z)
        · exact z
        · rw [z]
          exact c
    · rw [if_neg c, List.mem_append, List.mem_singleton]
theorem Keys.len {ks : List (Key × V)} {xs : List Int} (h : Keys ks xs) : ks.length ≤ xs.length := by
  obtain ⟨ns, e, nd, hm⟩ := h.ex
  have h1 := nodup_le (m := xs) nd fun x hx => (hm x).mp hx
  have h2 := congrArg List.length e
  rw [List.length_map, List.length_map] at h2
  omega
end TG


set_option Elab.async false
set_option linter.all false
set_option maxRecDepth 100000
set_option maxHeartbeats 4000000
/-! set(xs), xs a list of ints: a rule beside the hand layer's own for tuples -/
namespace TG
open PySem PySem.Spec PyProof.Rows L2
/-- the new set, still empty -/
abbrev s0 (w : World) : Obj := { cls := .type "set", dict := none, data := .set #[] 0 (.fresh 0 0 (!w.params.followText "set-order")) }
section
variable {P : Program} {w : World} {A : Around} {E : Value → Shared → Prop} {s : Shared}
theorem int_of {items : Array Value} {ns : List Int} (hit : IntsAre items.toList ns) (hsz : items.size = ns.length) (i : Nat) (v : Value) (hv : items[i]? = some v) : ∃ k t, ns[i]? = some k ∧ v = .int k t := by
  have hi : i < ns.length := by rw [← hsz]; exact (Array.getElem?_eq_some_iff.mp hv).1
  obtain ⟨t, e⟩ := IntsAre.int_at hit i v (by rw [Array.getElem?_toList]; exact hv)
  refine ⟨ns[i], t, List.getElem?_eq_getElem hi, ?_⟩
  rw [e, List.getD_eq_getElem?_getD, List.getElem?_eq_getElem hi] <;> rfl
/-- set(xs) -/
theorem set_of_list {l : Addr} {items : Array Value} (ns : List Int) {Q : Value → Shared → Prop} (hh : A.handled = none) (hl : s.heap.IsList l items) (hit : IntsAre items.toList ns) (hb : ns.length + 1 < scanBound)
    (h : ∀ (h' : Heap) (tk c : Nat), SetR w h' s.heap.objs.size (fun j => decide (j ∈ ns)) c → c ≤ ns.length → (∀ b o, s.heap.get? b = some o → h'.get? b = some o) → Q (.ref s.heap.objs.size) { s with heap := h', toks := tk }) :
    wpAny (model P w) A (call (.type "set") [.ref l]) Q E s := by
  have hsz : items.size = ns.length := by
    have q := IntsAre.length hit
    rw [Array.length_toList] at q
    exact q
  obtain ⟨c, tl, hmro⟩ := F.called_set.mro
  have hmade := F.called_set.made
  have hsub := F.called_set.sub
  refine wpAny_call (codeAny_of_tree ?_)
  show wpAny _ _ (callAny (.type "set") _) _ _ _
  refine wpAny_pure ⟨Code.quiet_builtin _ (by decide +kernel), codeAny_builtin F.entry_type_call ?_⟩
  rw [Around.under_plain (weight_type_call_type "set" [.ref l] []) rfl]
  have h1 := F.called_set.notType
  have h2 := F.called_set.canCreate
  have hct := F.typeCall_set_1 (.ref l)
  repeat (any_goals (first | assumption | wp_step))
  refine codeAny_mono (code_set_led1 (.ref l) (E := E) (Q₁ := fun obj s₁ => obj = .ref s.heap.objs.size ∧ s₁ = { s with heap := s.heap.push (s0 w) }) ⟨rfl, rfl⟩) fun r s₁ hr => ?_
  rcases r with e | fl
  · exact hr
  cases fl with
  | ret obj =>
    obtain ⟨rfl, rfl⟩ := hr
    have hS : (s.heap.push (s0 w)).get? s.heap.objs.size = some (s0 w) := Heap.get?_push_size _ rfl
    have hT : Shared.TypeIs { s with heap := s.heap.push (s0 w) } (.ref s.heap.objs.size) "set" := ⟨_, hS, rfl⟩
    have hli := F.called_set.init.lookup
    have hbi := F.called_set.init.bind (.ref s.heap.objs.size)
    repeat (any_goals (first | assumption | wp_step))
    refine codeAny_mono (codeAny_call_builtin (R := wants (fun r s₂ => r = .none ∧ ∃ h' tk c, s₂ = { s with heap := h', toks := tk } ∧ SetR w h' s.heap.objs.size (fun j => decide (j ∈ ns)) c ∧ c ≤ ns.length ∧
      (∀ b o, s.heap.get? b = some o → h'.get? b = some o)) E) F.called_set.init.plain F.entry_set_init (check_set_init_1 hT ?_)) fun r₂ s₂ hr₂ => ?_
    · obtain ⟨ol, hol, hcl, nl, hdl⟩ := hl
      obtain ⟨ocls, odict, odata, oslots⟩ := ol
      simp only at hcl hdl
      subst hcl; subst hdl
      have hol' : (s.heap.push (s0 w)).get? l = some { cls := .type "list", dict := odict, data := .seq items nl, slots := oslots } := Heap.get?_push_of_some _ hol
      have hsls := F.sub_list_set
      have hslf := F.sub_list_frozenset
      have hne : (Value.type "list" == Value.type "dict") = false := by decide
      have hl1 : (s.heap.push (s0 w)).IsList l items := ⟨_, hol', rfl, nl, rfl⟩
      unfold Builtin.«set.__init__» noKeywords Builtin.Frozenset.updateFrom
      generalize hPI : pyIter = PI
      wp_walk
      subst hPI
      refine wpAny_pyIter_list hl1 ?_
      refine wpAny_bind (wpAny_runValue ?_)
      have hlS : l < s.heap.objs.size := Heap.lt_size hol
      have hh3 : A.in1.in1.in1.handled = none := by simp [hh]
      have hz : (s.heap.push (s0 w)).objs.size = s.heap.objs.size + 1 := Heap.size_push ..
      have hneI : l ≠ (s.heap.push (s0 w)).objs.size := by rw [hz]; exact Nat.ne_of_lt (Nat.lt_succ_of_lt hlS)
      have hSf : s.heap.objs.size ∉ [(s.heap.push (s0 w)).objs.size, l] := by
        rw [hz]
        simp only [List.mem_cons, List.not_mem_nil, or_false, not_or]
        exact ⟨Nat.ne_of_lt (Nat.lt_succ_self _), Nat.ne_of_gt hlS⟩
      refine set_update_ints ((Walks.list hh3 _ l hneI items).toS) s.heap.objs.size hSf ns hsz hb (int_of hit hsz) (items.size - 0) 0 _ (by omega) (Nat.zero_le _)
        ⟨⟨_, Heap.get?_push_size _ rfl, rfl, rfl⟩, (hl1.push _)⟩ ⟨0, Nat.le_refl 0, setR_new_at (Heap.get?_push_of_some _ hS)⟩ ?_
      intro s' c' hm hc' hS'
      obtain ⟨h', g2, d', tk', os'⟩ := s'
      have eg : g2 = s.gens := hm.gens
      have ed : d' = s.drawn := hm.drawn
      have eo : os' = s.os := hm.os
      subst eg; subst ed; subst eo
      show wpAny _ _ _ _ _ _
      refine wpAny_pure ?_
      show wpAny _ _ (ret Value.none) _ _ _
      rw [hsz] at hc'
      refine wpAny_pure ⟨rfl, h', tk', c', rfl, hS', hc', fun b o e => ?_⟩
      have hb0 : b < s.heap.objs.size := Heap.lt_size e
      refine hm.heap b o ?_ (Heap.get?_push_of_some _ (Heap.get?_push_of_some _ e))
      rw [hz]
      simp only [List.mem_cons, List.not_mem_nil, or_false, not_or]
      exact ⟨Nat.ne_of_lt hb0, Nat.ne_of_lt (Nat.lt_succ_of_lt hb0)⟩
    · rcases r₂ with e | fl₂
      · exact hr₂
      cases fl₂ with
      | ret r =>
        obtain ⟨rfl, h', tk, c', rfl, hS', hc', hk'⟩ := hr₂
        repeat (any_goals (first | assumption | wp_step))
        exact h _ _ _ hS' hc' hk'
      | _ => exact hr₂.elim
  | _ => exact hr.elim
end
/-- set(xs): the set of the ints of a list -/
def rSetI (K : PySem.W.Frag) (w : World) : List V → Hp → VK → Prop := fun xs H Q => ∃ (l : Addr) (ns : List Int), xs = [.ref l] ∧ SqL K H l (ns.map V.int) ∧ ns.length ≤ 1000 ∧ ∀ p n, H p = none → n ≤ ns.length → Q (.ref p) (upd H p (SetO w p (fun j => decide (j ∈ ns)) n))
theorem cr_setI {X : Cx} (hc : X.calm = true) : CallR X (.type "set") (rSetI X.K X.w) := by
  intro pins s σ H xs us Q I r h
  obtain ⟨l, ns, rfl, hl, hn, q⟩ := h
  rw [Vals.ref1 r]
  obtain ⟨its, rv, pl, hz⟩ := I.list hl
  refine set_of_list ns (I.ok.hd hc) pl.isList (by simpa using rv.ints) (by unfold scanBound; omega) fun h' tk c R hcn k => ?_
  exact ⟨.ref _, upd H s.heap.objs.size (SetO X.w s.heap.objs.size (fun j => decide (j ∈ ns)) c), I.laid (t' := tk) k (Nat.le_refl _) (setO_new R), rfl, q _ c (I.hok.fresh (Nat.le_refl _)) hcn⟩
end TG


set_option Elab.async false
set_option linter.all false
set_option maxRecDepth 100000
set_option maxHeartbeats 4000000
/-! Tuples in tuples as data; the graphs -/
namespace TG
open PySem L2
abbrev N (n : Nat) : V := .int (n : Int)
/-- whatever tuples stood still stand -/
def KpT (H H' : Hp) : Prop := ∀ (K : PySem.W.Frag) (a : Addr) (xs : List V), SqT K H a xs → SqT K H' a xs
theorem KpT.refl {H : Hp} : KpT H H := fun _ _ _ h => h
theorem KpT.trans {H H1 H2 : Hp} (a : KpT H H1) (b : KpT H1 H2) : KpT H H2 := fun K p xs h => b K p xs (a K p xs h)
theorem KpT.same {H H' : Hp} (s : Same H H') : KpT H H' := fun _ _ _ h => sqT s h
theorem KpT.new {H : Hp} {p : Addr} {o : HO} (h : H p = none) : KpT H (upd H p o) := .same (same_new h o)
theorem KpT.off {H H' : Hp} {r : Addr} {ys : List V} (hr : H r = some (.lst ys)) (o : Off r H H') : KpT H H' := fun K p xs h => by
  have key : ∀ u, H p = some u → (∀ zs, u ≠ .lst zs) → H' p = some u := fun u e hu => o p u (fun c => by rw [c, hr] at e; exact hu _ (Option.some.inj e).symm) e
  rcases h with (h | ⟨x, h⟩) | h
  · exact .inl (.inl (key _ h (fun _ z => by cases z)))
  · exact .inl (.inr ⟨x, key _ h (fun _ z => by cases z)⟩)
  · exact .inr h
theorem KpT.upd {H : Hp} {r : Addr} {ys : List V} {o : HO} (hr : H r = some (.lst ys)) : KpT H (upd H r o) := .off hr Off.upd
theorem KpT.row {K : PySem.W.Frag} {a : Addr} {ns : List Int} {H H' : Hp} {r : Addr} (hR : RowA K a ns H r) (ho : ∀ b, b ≠ r → H' b = H b) : KpT H H' := by
  obtain ⟨xs, hx⟩ := hR.there
  exact .off hx (.eq ho)
/-! ### data of tuples alone -/
mutual
def pT : PyData → Bool
  | .none | .bool _ | .int _ | .str _ => true
  | .tuple xs => pTs xs
  | .list _ | .dict _ => false
def pTs : List PyData → Bool
  | [] => true
  | x :: xs => pT x && pTs xs
end
section
variable {K : PySem.W.Frag} {H H' : Hp}
mutual
theorem dp_keep (k : KpT H H') : ∀ (d : PyData) (v : V), pT d = true → Dp K H v d → Dp K H' v d
  | .none, _, _, h => by cases h; exact .non
  | .bool b, _, _, h => by cases h; exact .bl b
  | .int i, _, _, h => by cases h; exact .int i
  | .str x, _, _, h => by cases h; exact .str x
  | .list _, _, p, _ => by unfold pT at p; cases p
  | .dict _, _, p, _ => by unfold pT at p; cases p
  | .tuple ds, _, p, h => by
    cases h with
    | tup hs ha =>
      unfold pT at p
      exact .tup (k K _ _ hs) (dps_keep k ds _ p ha)
theorem dps_keep (k : KpT H H') : ∀ (ds : List PyData) (vs : List V), pTs ds = true → DpAll K H vs ds → DpAll K H' vs ds
  | [], _, _, h => by cases h; exact .nil
  | d :: ds, _, p, h => by
    cases h with
    | cons h1 h2 =>
      unfold pTs at p
      have p' := Bool.and_eq_true_iff.mp p
      exact .cons (dp_keep k d _ p'.1 h1) (dps_keep k ds _ p'.2 h2)
end
theorem dp_tup {v : V} {ds : List PyData} (h : Dp K H v (.tuple ds)) : ∃ a xs, v = .ref a ∧ SqT K H a xs ∧ DpAll K H xs ds := by
  cases h with
  | tup hs ha => exact ⟨_, _, rfl, hs, ha⟩
theorem dps_len : ∀ {ds : List PyData} {xs : List V}, DpAll K H xs ds → xs.length = ds.length
  | [], _, h => by cases h; rfl
  | d :: ds, _, h => by
    cases h with
    | cons h1 h2 => simp [dps_len h2]
theorem dps_get : ∀ {ds : List PyData} {xs : List V}, DpAll K H xs ds → ∀ (i : Nat) (d : PyData), ds[i]? = some d → ∃ x, xs[i]? = some x ∧ Dp K H x d
  | [], _, _, i, d, h => by cases h
  | _ :: ds, _, .cons h1 h2, 0, d, h => by
    cases h
    exact ⟨_, rfl, h1⟩
  | _ :: ds, _, .cons h1 h2, i + 1, d, h => by
    obtain ⟨x, hx, h'⟩ := dps_get h2 i d (by simpa using h)
    exact ⟨x, by simpa using hx, h'⟩
theorem dps_at : ∀ {ds : List PyData} {xs : List V}, DpAll K H xs ds → ∀ (i : Nat) (x : V), xs[i]? = some x → ∃ d, ds[i]? = some d ∧ Dp K H x d
  | [], _, .nil, i, x, h => by cases h
  | _ :: ds, _, .cons h1 h2, 0, d, h => by
    cases h
    exact ⟨_, rfl, h1⟩
  | _ :: ds, _, .cons h1 h2, i + 1, x, h => by
    obtain ⟨d, hd, h'⟩ := dps_at h2 i x (by simpa using h)
    exact ⟨d, by simpa using hd, h'⟩
theorem dps_set : ∀ {ds : List PyData} {xs : List V} {d : PyData} {x : V} (i : Nat), DpAll K H xs ds → Dp K H x d → DpAll K H (xs.set i x) (ds.set i d)
  | [], _, d, x, i, .nil, h => .nil
  | _ :: ds, _, d, x, 0, .cons h1 h2, h => .cons h h2
  | _ :: ds, _, d, x, i + 1, .cons h1 h2, h => .cons h1 (dps_set i h2 h)
theorem dps_rep {d : PyData} {x : V} (h : Dp K H x d) : ∀ n : Nat, DpAll K H (List.replicate n x) (List.replicate n d)
  | 0 => .nil
  | n + 1 => .cons h (dps_rep h n)
theorem dps_app : ∀ {ds es : List PyData} {xs ys : List V}, DpAll K H xs ds → DpAll K H ys es → DpAll K H (xs ++ ys) (ds ++ es)
  | [], _, _, _, .nil, h => h
  | _ :: ds, _, _, _, .cons h1 h2, h => .cons h1 (dps_app h2 h)
theorem dps_take : ∀ {ds : List PyData} {xs : List V} (k : Nat), DpAll K H xs ds → DpAll K H (xs.take k) (ds.take k)
  | [], _, k, .nil => by simp; exact .nil
  | _ :: ds, _, 0, .cons h1 h2 => .nil
  | _ :: ds, _, k + 1, .cons h1 h2 => .cons h1 (dps_take k h2)
theorem dps_drop : ∀ {ds : List PyData} {xs : List V} (k : Nat), DpAll K H xs ds → DpAll K H (xs.drop k) (ds.drop k)
  | [], _, k, .nil => by simp; exact .nil
  | _ :: ds, _, 0, .cons h1 h2 => .cons h1 h2
  | _ :: ds, _, k + 1, .cons h1 h2 => dps_drop k h2
theorem dps_snoc : ∀ {ds : List PyData} {xs : List V} {d : PyData} {x : V}, DpAll K H xs ds → Dp K H x d → DpAll K H (xs ++ [x]) (ds ++ [d])
  | [], _, d, x, .nil, h => .cons h .nil
  | _ :: ds, _, d, x, .cons h1 h2, h => .cons h1 (dps_snoc h2 h)
end
/-! ### rules with the written part named -/
section
variable {X : Cx} {K : PySem.W.Frag} {w : World}
theorem cr_setIK (hK : X.K = K) (hw : X.w = w) (hc : X.calm = true) : CallR X (.type "set") (rSetI K w) := by subst hK hw; exact cr_setI hc
theorem cr_sortedSetK (hw : X.w = w) (hc : X.calm = true) : CallR X (.builtin "sorted") (rSortedSet w) := by subst hw; exact cr_sortedSet hc
theorem pa_starK {e : Expr} {p : Pos} {es : List Expr} {te : TE} {t : TA} (hK : X.K = K) (he : PE X e te) (h : PA X es t) (hs : starEach (.Starred e p :: es) X.env = (true, eval e X.env) :: starEach es X.env := by rfl) : PA X (.Starred e p :: es) (StX.tStar K te t) := by subst hK; exact StX.pa_star he h hs
theorem pi_zipAK {e e2 : Expr} {ta : TA} {p pos tpos : Pos} {elts : List Expr} {kk : Nat} (hK : X.K = K) (hg : Gl X "zip") (hm : X.mg "zip" = none) (ha : PA X [e, e2] ta)
    (hs : starEach [e, e2] X.env = (false, eval e X.env) :: starEach [e2] X.env := by rfl) (hpl : (backTo pos (starEach [e2] X.env)).any (·.1) = false := by rfl) : PI X (.Tuple elts kk tpos) (.Call (.Name "zip" p) [e, e2] [] pos) (RZ.iZipA K ta) := by subst hK; exact RZ.pi_zipA hg hm ha hs hpl
theorem op_inDK (hK : X.K = K) (hu : X.A.units + 65 < cLine) : OpR X (compareOp .In) (rInD K) := by subst hK; exact op_inD hu
theorem op_notInDK (hK : X.K = K) (hu : X.A.units + 65 < cLine) : OpR X (compareOp .NotIn) (rNotInD K) := by subst hK; exact op_notInD hu
theorem units65 {k : Nat} {A : Around} (r : Room k A) : A.units + 65 < cLine := by have := r.un; omega
end
/-- a comprehension over range(n), n below 0 too -/
theorem el_lcR1n {σ : L2.St} {H : Hp} {t : TT} {te : TE} {ta : TA} {j : Nat} {vs : List Nat} {n : Int} (f : Nat → Bool) (v : Nat → V) (h : Evl.EvA ta σ H [.int n]) (hn : -40000 ≤ n ∧ n ≤ 40000) (hw : ∀ x, wipe ((wipe σ vs).set j (some x)) vs = wipe σ vs)
    (ht : ∀ (i : Nat) H1, Evl.Ex H H1 → (i : Int) < n → Evl.EvT t ((wipe σ vs).set j (some (.int (i : Int)))) H1 (f i)) (he : ∀ (i : Nat) H1, Evl.Ex H H1 → (i : Int) < n → f i = true → Evl.Ev te ((wipe σ vs).set j (some (.int (i : Int)))) H1 (v i)) :
    Evl.EvL (tLc (iRng1 ta) (gName j) t te vs) σ H (Evl.given n.toNat f v) := fun H0 e Q q => h H0 e _ fun H1 e1 => ⟨n, rfl, by omega, by omega, fun Dl hD =>
  lc_range (lo := 0) (n := n.toNat) (Evl.Cw H1 f v Dl) ⟨hD, Evl.Ex.new hD, upd_same⟩ (fun i H' hi' p => by
    rw [Int.zero_add]
    exact ⟨hw _, Evl.cw_turn p (by omega) (ht i H1 (e.trans e1) (by omega)) (fun hf => he i H1 (e.trans e1) (by omega) hf)⟩) (fun H' p => q Dl H' (Evl.fresh_back e1 p.1) (e1.trans p.2.1) p.2.2)⟩
/-! ### slices and sums of tuples, whichever object they are -/
section
variable {K : PySem.W.Frag} {H : Hp} {Q : VK}
theorem catA_any {a b : Addr} {xs ys : List V} (ha : SqT K H a xs) (hb : SqT K H b ys) (hz : xs.length + ys.length ≤ sizeLine) (h : ∀ p H', Same H H' → SqT K H' p (xs ++ ys) → Q (.ref p) H') : rCatA K (.ref a) (.ref b) H Q := by
  refine ⟨a, b, xs, ys, rfl, rfl, ha, hb, hz, fun e => ?_, fun _ e => ?_, fun _ _ p hp => h p _ (same_new hp _) (SqT.of upd_same)⟩
  · subst e
    exact h b H (fun _ _ e => e) hb
  · subst e
    refine h a H (fun _ _ e => e) ?_
    rw [List.append_nil]
    exact ha
theorem slA_any {a : Addr} {xs : List V} {lo hi : Option Int} (ha : SqT K H a xs) (h : ∀ p H', Same H H' → SqT K H' p (cutV xs lo hi) → Q (.ref p) H') : rSlA K (.ref a) lo hi H Q := by
  refine ⟨a, xs, rfl, ha, fun e => ?_, fun _ p hp => h p _ (same_new hp _) (SqT.of upd_same)⟩
  have e2 : cutV xs lo hi = xs := by
    unfold cutV
    rw [e.1, e.2]
    simp
  refine h a H (fun _ _ e => e) ?_
  rw [e2]
  exact ha
theorem cut_take (xs : List V) (k : Nat) : cutV xs none (some (k : Int)) = xs.take k := by
  unfold cutV
  rw [HT.sIx_none, HT.sIx_nat]
  simp [List.take_eq_take_iff]
theorem cut_drop (xs : List V) (k : Nat) : cutV xs (some (k : Int)) none = xs.drop k := by
  unfold cutV
  rw [HT.sIx_none, HT.sIx_nat]
  by_cases h : k ≤ xs.length
  · rw [Nat.min_eq_left h]
    exact List.take_of_length_le (by rw [List.length_drop]; omega)
  · rw [Nat.min_eq_right (by omega), List.drop_eq_nil_of_le (Nat.le_refl _), List.drop_eq_nil_of_le (by omega), List.take_nil]
end
/-! ### the graphs -/
/-- a good row of a graph of n nodes -/
def OkRow (n : Nat) (r : List Nat) : Prop := r.Pairwise (· < ·) ∧ (∀ x ∈ r, x < n) ∧ r.length ≤ 60
def rowD (ds : List Nat) : PyData := .tuple (ds.map fun n : Nat => PyData.int (n : Int))
def rowsD (rs : List (List Nat)) : PyData := .tuple (rs.map rowD)
def grD (L R : List (List Nat)) : PyData := .tuple [rowsD L, rowsD R]
theorem pTs_all : ∀ ds : List PyData, (∀ d ∈ ds, pT d = true) → pTs ds = true
  | [], _ => by unfold pTs; rfl
  | d :: ds, h => by
    unfold pTs
    rw [h d List.mem_cons_self, pTs_all ds fun x hx => h x (List.mem_cons_of_mem _ hx)]
    rfl
theorem pT_row (ds : List Nat) : pT (rowD ds) = true := by
  unfold rowD pT
  refine pTs_all _ fun d hd => ?_
  obtain ⟨n, _, rfl⟩ := List.mem_map.mp hd
  unfold pT
  rfl
theorem pT_rows (rs : List (List Nat)) : pT (rowsD rs) = true := by
  unfold rowsD pT
  refine pTs_all _ fun d hd => ?_
  obtain ⟨n, _, rfl⟩ := List.mem_map.mp hd
  exact pT_row n
theorem pT_gr (L R : List (List Nat)) : pT (grD L R) = true := by
  unfold grD pT
  refine pTs_all _ fun d hd => ?_
  simp only [List.mem_cons, List.not_mem_nil, or_false] at hd
  rcases hd with rfl | rfl
  · exact pT_rows _
  · exact pT_rows _
section
variable {K : PySem.W.Frag} {H H' : Hp}
theorem ints_all : ∀ ds : List Nat, DpAll K H (ds.map N) (ds.map fun n : Nat => PyData.int (n : Int))
  | [] => .nil
  | n :: ds => .cons (.int _) (ints_all ds)
theorem ints_back : ∀ {ds : List Nat} {xs : List V}, DpAll K H xs (ds.map fun n : Nat => PyData.int (n : Int)) → xs = ds.map N
  | [], _, .nil => rfl
  | n :: ds, _, .cons h1 h2 => by
    cases h1
    rw [ints_back h2]
    rfl
theorem row_of {a : Addr} {ds : List Nat} (h : SqT K H a (ds.map N)) : Dp K H (.ref a) (rowD ds) := .tup h (ints_all ds)
theorem row_at {v : V} {ds : List Nat} (h : Dp K H v (rowD ds)) : ∃ a, v = .ref a ∧ SqT K H a (ds.map N) := by
  obtain ⟨a, xs, rfl, hs, ha⟩ := dp_tup h
  rw [ints_back ha] at hs
  exact ⟨a, rfl, hs⟩
theorem rows_at {v : V} {rs : List (List Nat)} (h : Dp K H v (rowsD rs)) : ∃ a xs, v = .ref a ∧ SqT K H a xs ∧ xs.length = rs.length ∧ DpAll K H xs (rs.map rowD) := by
  obtain ⟨a, xs, rfl, hs, ha⟩ := dp_tup h
  exact ⟨a, xs, rfl, hs, by rw [dps_len ha, List.length_map], ha⟩
theorem rows_get {rs : List (List Nat)} {xs : List V} (h : DpAll K H xs (rs.map rowD)) {i : Nat} {ds : List Nat} (hi : rs[i]? = some ds) : ∃ b, xs[i]? = some (.ref b) ∧ SqT K H b (ds.map N) := by
  obtain ⟨x, hx, hd⟩ := dps_get h i (rowD ds) (by rw [List.getElem?_map, hi]; rfl)
  obtain ⟨b, rfl, hb⟩ := row_at hd
  exact ⟨b, hx, hb⟩
theorem gr_at {v : V} {L R : List (List Nat)} (h : Dp K H v (grD L R)) : ∃ a l r, v = .ref a ∧ SqT K H a [l, r] ∧ Dp K H l (rowsD L) ∧ Dp K H r (rowsD R) := by
  obtain ⟨a, xs, rfl, hs, ha⟩ := dp_tup h
  cases ha with
  | cons h1 h2 =>
    cases h2 with
    | cons h2 h3 =>
      cases h3
      exact ⟨a, _, _, rfl, hs, h1, h2⟩
theorem gr_of {a : Addr} {l r : V} {L R : List (List Nat)} (h : SqT K H a [l, r]) (h1 : Dp K H l (rowsD L)) (h2 : Dp K H r (rowsD R)) : Dp K H (.ref a) (grD L R) := .tup h (.cons h1 (.cons h2 .nil))
end
/-- rising numbers that are not below 0 -/
theorem nat_list {ns : List Int} (h0 : ∀ x ∈ ns, 0 ≤ x) (hp : ns.Pairwise (· < ·)) : ∃ ds : List Nat, ns.map V.int = ds.map N ∧ ds.Pairwise (· < ·) ∧ ds.length = ns.length ∧ ∀ d, d ∈ ds ↔ ((d : Nat) : Int) ∈ ns := by
  refine ⟨ns.map Int.toNat, ?_, ?_, List.length_map _, fun d => ?_⟩
  · rw [List.map_map]
    refine List.map_congr_left fun x hx => ?_
    have := h0 x hx
    show V.int x = V.int ((x.toNat : Nat) : Int)
    exact congrArg V.int (by omega)
  · rw [List.pairwise_map]
    refine (List.pairwise_iff_forall_sublist.mpr fun {a b} hs => ?_)
    have h1 := List.pairwise_iff_forall_sublist.mp hp hs
    have h2 := h0 a (hs.subset (by simp))
    omega
  · rw [List.mem_map]
    constructor
    · rintro ⟨x, hx, rfl⟩
      have := h0 x hx
      rw [show ((x.toNat : Nat) : Int) = x by omega]
      exact hx
    · intro h
      exact ⟨_, h, by omega⟩
/-! ### equality -/
theorem eqv_tup (xs ys : List PyData) : PyData.eqv (.tuple xs) (.tuple ys) = PyData.eqvAll xs ys := by rw [PyData.eqv]
theorem eqv_ints : ∀ as bs : List Nat, PyData.eqvAll (as.map fun n : Nat => PyData.int (n : Int)) (bs.map fun n : Nat => PyData.int (n : Int)) = decide (as = bs)
  | [], [] => by simp [PyData.eqvAll]
  | [], b :: bs => by simp [PyData.eqvAll]
  | a :: as, [] => by simp [PyData.eqvAll]
  | a :: as, b :: bs => by
    have ih := eqv_ints as bs
    simp only [List.map_cons, PyData.eqvAll, PyData.eqv, ih]
    by_cases h : a = b
    · subst h
      simp
    · have : ¬ ((a : Int) = (b : Int)) := by omega
      simp [h, this]
theorem eqv_row (as bs : List Nat) : PyData.eqv (rowD as) (rowD bs) = decide (as = bs) := by
  unfold rowD
  rw [eqv_tup, eqv_ints]
theorem eqv_rowsAll : ∀ as bs : List (List Nat), PyData.eqvAll (as.map rowD) (bs.map rowD) = decide (as = bs)
  | [], [] => by simp [PyData.eqvAll]
  | [], b :: bs => by simp [PyData.eqvAll]
  | a :: as, [] => by simp [PyData.eqvAll]
  | a :: as, b :: bs => by
    have ih := eqv_rowsAll as bs
    simp only [List.map_cons, PyData.eqvAll, eqv_row, ih]
    by_cases h : a = b
    · subst h
      simp
    · simp [h]
theorem eqv_rows (as bs : List (List Nat)) : PyData.eqv (rowsD as) (rowsD bs) = decide (as = bs) := by
  unfold rowsD
  rw [eqv_tup, eqv_rowsAll]
theorem eqv_gr (L R L' R' : List (List Nat)) : PyData.eqv (grD L R) (grD L' R') = decide (L = L' ∧ R = R') := by
  unfold grD
  rw [eqv_tup]
  simp only [PyData.eqvAll, eqv_rows, Bool.and_true]
  by_cases h : L = L' <;> by_cases h2 : R = R' <;> simp [h, h2]
theorem lay_all : ∀ ds : List PyData, (∀ d ∈ ds, PyData.canLay0 d = true) → PyData.canLayAll0 ds = true
  | [], _ => by rw [PyData.canLayAll0]
  | d :: ds, h => by rw [PyData.canLayAll0, h d List.mem_cons_self, lay_all ds fun x hx => h x (List.mem_cons_of_mem _ hx)]; rfl
theorem depth_all {m : Nat} : ∀ ds : List PyData, (∀ d ∈ ds, PyData.depth d ≤ m) → PyData.depthAll ds ≤ m
  | [], _ => by rw [PyData.depthAll]; exact Nat.zero_le _
  | d :: ds, h => by
    rw [PyData.depthAll]
    exact Nat.max_le.mpr ⟨h d List.mem_cons_self, depth_all ds fun x hx => h x (List.mem_cons_of_mem _ hx)⟩
def Small (m : Nat) (d : PyData) : Prop := PyData.canLay0 d = true ∧ PyData.depth d ≤ m
theorem Small.tuple {m : Nat} {ds : List PyData} (h : ∀ d ∈ ds, Small m d) : Small (m + 1) (.tuple ds) := by
  refine ⟨?_, ?_⟩
  · rw [PyData.canLay0]
    exact lay_all ds fun d hd => (h d hd).1
  · rw [PyData.depth]
    have := depth_all (m := m) ds fun d hd => (h d hd).2
    omega
theorem Small.list {m : Nat} {ds : List PyData} (h : ∀ d ∈ ds, Small m d) : Small (m + 1) (.list ds) := by
  refine ⟨?_, ?_⟩
  · rw [PyData.canLay0]
    exact lay_all ds fun d hd => (h d hd).1
  · rw [PyData.depth]
    have := depth_all (m := m) ds fun d hd => (h d hd).2
    omega
theorem Small.int {m : Nat} (i : Int) : Small m (.int i) := ⟨by rw [PyData.canLay0], by rw [PyData.depth]; exact Nat.zero_le _⟩
theorem Small.ok {m : Nat} {d : PyData} (h : Small m d) (hm : m ≤ 64) : SeqAt.shaped d = true := by
  unfold SeqAt.shaped
  rw [h.1, decide_eq_true (Nat.le_trans h.2 hm)]
  rfl
theorem small_row (ds : List Nat) : Small 1 (rowD ds) := Small.tuple fun d hd => by
  obtain ⟨n, _, rfl⟩ := List.mem_map.mp hd
  exact .int _
theorem small_rows (rs : List (List Nat)) : Small 2 (rowsD rs) := Small.tuple fun d hd => by
  obtain ⟨n, _, rfl⟩ := List.mem_map.mp hd
  exact small_row n
theorem small_gr (L R : List (List Nat)) : Small 3 (grD L R) := Small.tuple fun d hd => by
  simp only [List.mem_cons, List.not_mem_nil, or_false] at hd
  rcases hd with rfl | rfl
  · exact small_rows _
  · exact small_rows _
end TG


set_option Elab.async false
set_option linter.all false
set_option maxRecDepth 100000
set_option maxHeartbeats 4000000
/-! Dicts whose keys are tuples (of ints, texts, None, bools and such tuples, at most 8 deep): rules of the hand layer's form. -/
namespace DL
open PySem PySem.Spec PyProof.Rows L2 TG
/-! ### data stay -/
section
variable {K : PySem.W.Frag} {H H' : Hp}
mutual
theorem dp_mono (k : Same H H') : ∀ (d : PyData) (v : V), Dp K H v d → Dp K H' v d
  | .none, _, h => by cases h; exact .non
  | .bool b, _, h => by cases h; exact .bl b
  | .int i, _, h => by cases h; exact .int i
  | .str x, _, h => by cases h; exact .str x
  | .list ds, _, h => by
    cases h with
    | lst hs ha => exact .lst (sqL k hs) (dps_mono k ds _ ha)
  | .dict _, _, h => by cases h
  | .tuple ds, _, h => by
    cases h with
    | tup hs ha => exact .tup (sqT k hs) (dps_mono k ds _ ha)
theorem dps_mono (k : Same H H') : ∀ (ds : List PyData) (vs : List V), DpAll K H vs ds → DpAll K H' vs ds
  | [], _, h => by cases h; exact .nil
  | d :: ds, _, h => by
    cases h with
    | cons h1 h2 => exact .cons (dp_mono k d _ h1) (dps_mono k ds _ h2)
end
end
abbrev NEs := List (NestedKey × Addr × V)
def NR (ks : NEs) (xs : List (NestedKey × Addr × Value)) : Prop := Paired (fun (p : NestedKey × Addr × V) (q : NestedKey × Addr × Value) => p.1 = q.1 ∧ p.2.1 = q.2.1 ∧ RelV p.2.2 q.2.2) ks xs
def dnφ (P : Program) (w : World) (a : Addr) (ks : NEs) : Heap → Prop := fun h => ks.length ≤ sizeLine ∧ (a == sysModules) = false ∧ ∃ xs, NR ks xs ∧
  ∃ o es ep, h.get? a = some o ∧ o.ExactDict ∧ o.data = .dict es ep ∧ es.toList = xs.map (entryOfKey (nestedKind P w)) ∧ (xs.map (·.1)).Nodup
def dnO (P : Program) (w : World) (a : Addr) (ks : NEs) : HO := .ext (dnφ P w a ks)
theorem dn_ok {P : Program} {w : World} {H : Hp} {h : Heap} {a : Addr} {ks : NEs} (x : dnφ P w a ks h) : ObjOk P w H h a (dnO P w a ks) := by
  refine ⟨x, ?_, fun h1 h2 y k => ?_⟩
  · obtain ⟨_, _, xs, _, o, es, ep, h1, _⟩ := x
    exact ⟨o, h1⟩
  · obtain ⟨z, y, xs, r, o, es, ep, h1, h2⟩ := y
    exact ⟨z, y, xs, r, o, es, ep, k o h1, h2⟩
mutual
/-- a key as data -/
def keyN : PyData → Option NestedKey
  | .none => some .none
  | .bool b => some (.num (if b = true then 1 else 0))
  | .int i => some (.num i)
  | .str x => some (.text x)
  | .tuple ds => (keysN ds).map NestedKey.tup
  | .list _ => none
  | .dict _ => none
def keysN : List PyData → Option (List NestedKey)
  | [] => some []
  | d :: ds => match keyN d, keysN ds with
    | some k, some ks => some (k :: ks)
    | _, _ => none
end
section
variable {X : Cx} {pins : List (Addr × Obj)} {σ : L2.St} {H : Hp} {s : Shared}
mutual
theorem dp_nested (I : Inv X pins σ H s) : ∀ (d : PyData) (k : NestedKey) (v : V) (u : Value), keyN d = some k → Dp X.K H v d → RelV v u → NestedIs s.heap k u
  | .none, _, _, _, e, h, r => by
    unfold keyN at e
    cases e
    cases h
    cases r
    exact .none
  | .bool b, _, _, _, e, h, r => by
    unfold keyN at e
    cases e
    cases h
    cases r
    exact .bool rfl
  | .int i, _, _, _, e, h, r => by
    unfold keyN at e
    cases e
    cases h
    obtain ⟨t, rfl⟩ := r
    exact .int i t
  | .str x, _, _, _, e, h, r => by
    unfold keyN at e
    cases e
    cases h
    obtain ⟨t, rfl⟩ := r
    exact .text x t
  | .tuple ds, k, _, _, e, h, r => by
    unfold keyN at e
    cases c : keysN ds with
    | none => rw [c] at e; cases e
    | some ks =>
      rw [c] at e
      cases e
      cases h with
      | tup hs ha =>
        cases r
        obtain ⟨its, rv, ⟨o, ho, hc, n, hd⟩, _⟩ := I.tuple hs
        exact .tup ho hc hd (by simpa using dps_nested I ds ks _ its c ha rv)
  | .list _, _, _, _, e, _, _ => by unfold keyN at e; cases e
  | .dict _, _, _, _, e, _, _ => by unfold keyN at e; cases e
theorem dps_nested (I : Inv X pins σ H s) : ∀ (ds : List PyData) (ks : List NestedKey) (vs : List V) (us : List Value), keysN ds = some ks → DpAll X.K H vs ds → Vals vs us → NestedAll s.heap ks us
  | [], _, _, _, e, h, r => by
    unfold keysN at e
    cases e
    cases h
    cases r
    exact .nil
  | d :: ds, ks, _, _, e, h, r => by
    unfold keysN at e
    cases c : keyN d with
    | none => rw [c] at e; simp at e
    | some k =>
      cases c2 : keysN ds with
      | none => rw [c, c2] at e; simp at e
      | some ks' =>
        rw [c, c2] at e
        cases e
        cases h with
        | cons h1 h2 =>
          cases r with
          | cons r1 r2 => exact .cons (dp_nested I d k _ _ c h1 r1) (dps_nested I ds ks' _ _ c2 h2 r2)
end
/-- a key's tuple -/
def KeyAt (K : PySem.W.Frag) (H : Hp) (b : Addr) (k : NestedKey) : Prop := ∃ d, keyN d = some k ∧ Dp K H (.ref b) d ∧ k.depth ≤ 8
def KeysAt (K : PySem.W.Frag) (H : Hp) (ks : NEs) : Prop := ∀ e ∈ ks, KeyAt K H e.2.1 e.1
theorem KeyAt.is {b : Addr} {k : NestedKey} (I : Inv X pins σ H s) (h : KeyAt X.K H b k) : (nestedKind X.prog X.w).is s.heap k b := by
  obtain ⟨d, h1, h2, h3⟩ := h
  exact ⟨dp_nested I d k _ _ h1 h2 rfl, h3⟩
theorem KeyAt.mono {K : PySem.W.Frag} {H H' : Hp} {b : Addr} {k : NestedKey} (h : KeyAt K H b k) (s : Same H H') : KeyAt K H' b k := by
  obtain ⟨d, h1, h2, h3⟩ := h
  exact ⟨d, h1, dp_mono s _ _ h2, h3⟩
theorem nr_is {ks : NEs} {xs : List (NestedKey × Addr × Value)} (r : NR ks xs) (hk : ∀ e ∈ ks, (nestedKind X.prog X.w).is s.heap e.1 e.2.1) : ∀ x ∈ xs, (nestedKind X.prog X.w).is s.heap x.1 x.2.1 := by
  unfold NR at r
  induction r with
  | nil => intro x hx; cases hx
  | cons h t ih =>
    intro x hx
    rcases List.mem_cons.mp hx with rfl | hx
    · rw [← h.1, ← h.2.1]
      exact hk _ List.mem_cons_self
    · exact ih (fun e he => hk e (List.mem_cons_of_mem _ he)) x hx
theorem dn_at {a : Addr} {ks : NEs} (I : Inv X pins σ H s) (e : H a = some (dnO X.prog X.w a ks)) (hk : KeysAt X.K H ks) : ks.length ≤ sizeLine ∧ (a == sysModules) = false ∧ ∃ xs, NR ks xs ∧ s.heap.DictOfH (nestedKind X.prog X.w) a xs := by
  obtain ⟨⟨z, y, xs, r, o, es, ep, h1, h2, h3, h4, h5⟩, _⟩ := (show ObjOk X.prog X.w H s.heap a (dnO X.prog X.w a ks) from I.hok a _ e)
  exact ⟨z, y, xs, r, o, es, ep, h1, h2, h3, h4, nr_is r (fun e he => (hk e he).is I), h5⟩
def valN (ks : NEs) (k : NestedKey) : Option V := (ks.find? fun e => decide (e.1 = k)).map (·.2.2)
def putN (ks : NEs) (k : NestedKey) (b : Addr) (v : V) : NEs := if (ks.any fun e => decide (e.1 = k)) = true then ks.map (fun e => if e.1 = k then (e.1, e.2.1, v) else e) else ks ++ [(k, b, v)]
theorem NR.val {ks : NEs} {xs : List (NestedKey × Addr × Value)} (r : NR ks xs) (k : NestedKey) : (valN ks k = none ∧ atKey xs k = none) ∨ ∃ v p, valN ks k = some v ∧ atKey xs k = some p ∧ RelV v p.2 := by
  unfold NR at r
  induction r with
  | nil => exact .inl ⟨rfl, rfl⟩
  | @cons p q ps qs h t ih =>
    by_cases c : p.1 = k
    · refine .inr ⟨p.2.2, q.2, ?_, ?_, h.2.2⟩
      · unfold valN
        rw [List.find?_cons_of_pos (by simpa using c)]
        rfl
      · unfold atKey
        rw [List.find?_cons_of_pos (by simpa using (h.1 ▸ c))]
        rfl
    · have e1 : valN (p :: ps) k = valN ps k := by unfold valN; rw [List.find?_cons_of_neg (by simpa using c)]
      have e2 : atKey (q :: qs) k = atKey qs k := by unfold atKey; rw [List.find?_cons_of_neg (by simpa using (h.1 ▸ c))]
      rw [e1, e2]
      exact ih
theorem nr_any {ks : NEs} {xs : List (NestedKey × Addr × Value)} (r : NR ks xs) (k : NestedKey) : (ks.any fun e => decide (e.1 = k)) = (atKey xs k).isSome := by
  unfold NR at r
  induction r with
  | nil => rfl
  | @cons p q ps qs h t ih =>
    rw [List.any_cons, ih]
    by_cases c : p.1 = k
    · have : atKey (q :: qs) k = some q.2 := by
        unfold atKey
        rw [List.find?_cons_of_pos (by simpa using (h.1 ▸ c))]
        rfl
      rw [this, decide_eq_true c]
      rfl
    · have e2 : atKey (q :: qs) k = atKey qs k := by unfold atKey; rw [List.find?_cons_of_neg (by simpa using (h.1 ▸ c))]
      rw [e2, decide_eq_false c]
      rfl
theorem NR.put {ks : NEs} {xs : List (NestedKey × Addr × Value)} (r : NR ks xs) (k : NestedKey) (b : Addr) {v : V} {u : Value} (rv : RelV v u) : NR (putN ks k b v) (storedH xs k b u) := by
  unfold putN storedH
  rw [nr_any r k]
  split
  · rename_i hany
    clear hany
    unfold NR at r ⊢
    induction r with
    | nil => exact .nil
    | @cons p q ps qs h t ih =>
      rw [List.map_cons, List.map_cons]
      refine .cons ?_ ih
      unfold putAt
      by_cases c : p.1 = k
      · rw [if_pos c, if_pos (h.1 ▸ c)]
        exact ⟨h.1, h.2.1, rv⟩
      · rw [if_neg c, if_neg (h.1 ▸ c)]
        exact h
  · rename_i hany
    clear hany
    unfold NR at r ⊢
    induction r with
    | nil => exact .cons ⟨rfl, rfl, rv⟩ .nil
    | cons h t ih => exact .cons h ih
theorem putN_len (ks : NEs) (k : NestedKey) (b : Addr) (v : V) : (putN ks k b v).length ≤ ks.length + 1 := by
  unfold putN
  split
  · rw [List.length_map]; omega
  · rw [List.length_append, List.length_singleton]; omega
end
/-! ### readings and rules -/
def tNNew (P : Program) (w : World) : TE := fun _ H Q => ∀ p, H p = none → Q (.ref p) (upd H p (dnO P w p []))
def NAt (K : PySem.W.Frag) (P : Program) (w : World) (H : Hp) (a : Addr) (y : V) (ks : NEs) (b : Addr) (k : NestedKey) : Prop := y = .ref b ∧ H a = some (dnO P w a ks) ∧ KeysAt K H ks ∧ KeyAt K H b k
def tNGet (K : PySem.W.Frag) (P : Program) (w : World) (td ty : TE) : TE := fun σ H Q => td σ H fun x H1 => ty σ H1 fun y H2 => ∃ a ks b k v, x = .ref a ∧ NAt K P w H2 a y ks b k ∧ valN ks k = some v ∧ Q v H2
def tNIn (K : PySem.W.Frag) (P : Program) (w : World) (ty td : TE) : TE := fun σ H Q => ty σ H fun y H1 => td σ H1 fun x H2 => ∃ a ks b k, x = .ref a ∧ NAt K P w H2 a y ks b k ∧ Q (.bl (valN ks k).isSome) H2
def tNNotIn (K : PySem.W.Frag) (P : Program) (w : World) (ty td : TE) : TE := fun σ H Q => ty σ H fun y H1 => td σ H1 fun x H2 => ∃ a ks b k, x = .ref a ∧ NAt K P w H2 a y ks b k ∧ Q (.bl (!(valN ks k).isSome)) H2
def sNPut (K : PySem.W.Frag) (P : Program) (w : World) (td ty tv : TE) : TS := fun D σ H => tv σ H fun v H1 => td σ H1 fun x H2 => ty σ H2 fun y H3 => ∃ a ks b k, x = .ref a ∧ NAt K P w H3 a y ks b k ∧ ks.length < sizeLine ∧ D.nx σ (upd H3 a (dnO P w a (putN ks k b v)))
def tNGet2 (K : PySem.W.Frag) (P : Program) (w : World) (td ty tx : TE) : TE := fun σ H Q => td σ H fun x H1 => ∃ a ks0, x = .ref a ∧ (H1 a = some (dnO P w a ks0) ∧ KeysAt K H1 ks0) ∧ ty σ H1 fun y H2 => tx σ H2 fun z H3 => ∃ ks b k, NAt K P w H3 a y ks b k ∧ Q ((valN ks k).getD z) H3
section
variable {X : Cx} {K : PySem.W.Frag} {P : Program} {w : World} {o i e f value : Expr} {pos pos' tpos apos cpos : Pos} {td ty tv tx : TE}
theorem pe_nnew (hP : X.prog = P) (hw : X.w = w) : PE X (.Dict [] [] pos) (tNNew P w) := by
  subst hP hw
  exact ⟨fun pins s σ H Q I h => wpAny_Dict_empty ⟨.ref s.heap.objs.size, _, I.laid (a := s.heap.objs.size) (o := dnO X.prog X.w s.heap.objs.size []) (t' := s.toks) (fun _ _ q => Heap.get?_push_of_some _ q) (Nat.le_refl _)
    (dn_ok ⟨Nat.zero_le _, beq_eq_false_iff_ne.mpr (Ne.symm (Nat.ne_of_lt I.big)), [], .nil, _, #[], 0, Heap.get?_push_size _ rfl, ⟨rfl, rfl, rfl⟩, rfl, rfl, List.nodup_nil⟩), rfl, h _ (I.hok.fresh (Nat.le_refl _))⟩⟩
theorem room_n {A : Around} (hu : A.units + 64 < cLine) : (nestedKind X.prog X.w).room A.in1 := by
  show A.units + 1 + 8 < cLine
  omega
theorem pe_nget (hK : X.K = K) (hP : X.prog = P) (hw : X.w = w) (hu : X.A.units + 64 < cLine) (ho : PE X o td) (hi : PE X i ty) (hs : NoSl i) : PE X (.Subscript o i pos) (tNGet K P w td ty) := by
  subst hK hP hw
  refine ⟨fun pins s σ H Q I h => ?_⟩
  refine subD_of PySem.F.slot_dict_getitem.lookup hs (thn (ho.run pins s σ H _ I h) fun u s1 ⟨x, H1, I1, rx, q1⟩ => thn (hi.run pins s1 σ H1 _ I1 q1) fun iv s2 ⟨y, H2, I2, ry, a, ks, b, k, v, ex, ⟨ey, ha, hks, hk⟩, hv, q2⟩ => ?_)
  subst ex ey
  obtain rfl : u = Value.ref a := rx
  obtain rfl : iv = Value.ref b := ry
  obtain ⟨z, y, xs, r, dd⟩ := dn_at I2 ha hks
  refine ⟨dd.typeIs, ?_⟩
  rcases r.val k with ⟨q3, _⟩ | ⟨v', p, q3, q4, q5⟩
  · rw [q3] at hv; cases hv
  · rw [q3] at hv
    cases hv
    exact wpAny_getItem_heap (room_n hu) (hk.is I2) dd q4 ⟨v, H2, I2.tok _, q5, q2⟩
theorem pc_nin (hK : X.K = K) (hP : X.prog = P) (hw : X.w = w) (hu : X.A.units + 64 < cLine) (hi : PE X i ty) (ho : PE X o td) : PC X .In i o (tNIn K P w ty td) := by
  subst hK hP hw
  refine ⟨fun pins s σ H Q I h => ?_⟩
  refine thn (hi.run pins s σ H _ I h) fun iv s1 ⟨y, H1, I1, ry, q1⟩ => thn (ho.run pins s1 σ H1 _ I1 q1) fun u s2 ⟨x, H2, I2, rx, a, ks, b, k, ex, ⟨ey, ha, hks, hk⟩, q2⟩ => ?_
  subst ex ey
  obtain rfl : u = Value.ref a := rx
  obtain rfl : iv = Value.ref b := ry
  obtain ⟨z, y, xs, r, dd⟩ := dn_at I2 ha hks
  refine wpAny_in_heap (room_n hu) (hk.is I2) y dd ⟨.bl (atKey xs k).isSome, H2, I2.tok _, rfl, ?_⟩
  rcases r.val k with ⟨q3, q4⟩ | ⟨v', p, q3, q4, q5⟩
  · rw [q3] at q2; rw [q4]; exact q2
  · rw [q3] at q2; rw [q4]; exact q2
theorem pc_nnotin (hK : X.K = K) (hP : X.prog = P) (hw : X.w = w) (hu : X.A.units + 64 < cLine) (hi : PE X i ty) (ho : PE X o td) : PC X .NotIn i o (tNNotIn K P w ty td) := by
  subst hK hP hw
  refine ⟨fun pins s σ H Q I h => ?_⟩
  refine thn (hi.run pins s σ H _ I h) fun iv s1 ⟨y, H1, I1, ry, q1⟩ => thn (ho.run pins s1 σ H1 _ I1 q1) fun u s2 ⟨x, H2, I2, rx, a, ks, b, k, ex, ⟨ey, ha, hks, hk⟩, q2⟩ => ?_
  subst ex ey
  obtain rfl : u = Value.ref a := rx
  obtain rfl : iv = Value.ref b := ry
  obtain ⟨z, y, xs, r, dd⟩ := dn_at I2 ha hks
  refine wpAny_notIn_heap (room_n hu) (hk.is I2) y dd ⟨.bl (!(atKey xs k).isSome), H2, I2.tok _, rfl, ?_⟩
  rcases r.val k with ⟨q3, q4⟩ | ⟨v', p, q3, q4, q5⟩
  · rw [q3] at q2; rw [q4]; exact q2
  · rw [q3] at q2; rw [q4]; exact q2
theorem ps_nput (hK : X.K = K) (hP : X.prog = P) (hw : X.w = w) (hu : X.A.units + 64 < cLine) (ho : PE X o td) (hi : PE X i ty) (hv : PE X value tv) (hs : swapsWith value (some (.Subscript o i pos')) pos.line X.env = pure false) :
    PS X (.Assign [.Subscript o i pos'] value pos) (sNPut K P w td ty tv) := by
  subst hK hP hw
  refine ⟨fun pins s σ H D I h => ?_⟩
  refine wpAny_Assign_Subscript (thn (hv.run pins s σ H _ I h) fun r s1 ⟨v, H1, I1, rv, q1⟩ => thn (ho.run pins s1 σ H1 _ I1 q1) fun u s2 ⟨x, H2, I2, rx, q2⟩ => thn (hi.run pins s2 σ H2 _ I2 q2) fun iv s3 ⟨y, H3, I3, ry, a, ks, b, k, ex, ⟨ey, ha, hks, hk⟩, hl, q3⟩ => ?_) hs
  subst ex ey
  obtain rfl : u = Value.ref a := rx
  obtain rfl : iv = Value.ref b := ry
  obtain ⟨z, y, xs, rr, dd⟩ := dn_at I3 ha hks
  have hz : xs.length ≤ sizeLine := by rw [← Paired.length rr]; exact z
  refine wpAny_setItem_heap (hsz := hz) (room_n hu) (hk.is I3) dd fun h' dd' hs' => ⟨σ, _, ?_, q3⟩
  obtain ⟨q, es, ep, hq, h2, h3, h4, _, h5⟩ := dd'
  have hn := putN_len ks k b v
  exact d_write I3 (by rw [ha]; exact True.intro) hs' ⟨q, hq⟩ (dn_ok ⟨by omega, y, _, rr.put k b rv, q, es, ep, hq, h2, h3, h4, h5⟩)
theorem pe_nget2 (hK : X.K = K) (hP : X.prog = P) (hw : X.w = w) (hu : X.A.units + 64 < cLine) (ho : PE X o td) (he : PE X e ty) (hf : PE X f tx) (m : M2 X o "get" apos e f cpos) : PE X (.Call (.Attribute o "get" apos) [e, f] [] cpos) (tNGet2 K P w td ty tx) := by
  subst hK hP hw
  refine ⟨fun pins s σ H Q I h => ?_⟩
  refine wpAny_Call_method m.base m.few m.line PySem.F.plainAttrs_dict PySem.F.slot_dict_get PySem.F.type_dict_get (thn (ho.run pins s σ H _ I h) fun u s1 ⟨x, H1, I1, rx, a, ks0, ex, ⟨d1, d2⟩, q1⟩ => ?_)
  subst ex
  obtain rfl : u = Value.ref a := rx
  obtain ⟨_, _, xs0, _, dd0⟩ := dn_at I1 d1 d2
  refine ⟨dd0.typeIs, fun b hb => ?_, ?_⟩
  · cases hb
    obtain ⟨o, es, ep, h1, h2, _⟩ := dd0
    exact ⟨o, h1, h2.2.1⟩
  rw [m.trees]
  refine Calls.callWith_builtin rfl (Calls.evalArgs_plain (Calls.spliced_cons (thn (he.run pins s1 σ H1 _ I1 q1) fun iv s2 ⟨y, H2, I2, ry, q2⟩ =>
    Calls.spliced_cons (thn (hf.run pins s2 σ H2 _ I2 q2) fun fv s3 ⟨z, H3, I3, rz, ks, b, k, ⟨ey, ha, hks, hk⟩, q3⟩ => Calls.spliced_nil ?_))))
  subst ey
  obtain rfl : iv = Value.ref b := ry
  obtain ⟨_, hd, xs, r, dd⟩ := dn_at I3 ha hks
  refine call_meetsIn PySem.F.slot_dict_get dd.typeIs PySem.F.entry_dict_get (PySem.F.args_dict_get_3 _ _ _) (meetsH_dict_get_default (nestedKind X.prog X.w) a b hd fv) ⟨room_n hu, k, xs, hk.is I3, dd, ?_⟩
  rcases r.val k with ⟨e3, e4⟩ | ⟨v', p, e3, e4, e5⟩
  · rw [e4]
    rw [e3] at q3
    exact ⟨z, H3, I3.tok _, rz, q3⟩
  · rw [e4]
    rw [e3] at q3
    exact ⟨v', H3, I3.tok _, e5, q3⟩
end
end DL


set_option Elab.async false
set_option linter.all false
set_option maxRecDepth 100000
set_option maxHeartbeats 4000000
/-! A layer of values over the hand layer: slots hold data or objects of their own; the heap is out of sight. -/
namespace DL
open PySem L2 TG
/-- a tuple's thing -/
def tupO : HO → Bool
  | .tup _ => true
  | .frz _ (.tup _) => true
  | _ => false
/-- an object of its own -/
inductive Ob where
  | lst (ds : List PyData)
  | dT (kvs : List (List Key × PyData))
  | dK (kvs : List (Key × PyData))
  | dN (P : Program) (w : World) (kvs : List (NestedKey × PyData))
  | ext (φ : PySem.W.Frag → Hp → Option HO → Prop)
/-- what a slot holds; an object with the number of the argument that it is -/
inductive B where
  | dat (d : PyData)
  | ob (t : Option Nat) (o : Ob)
/-- what an expression gives: data, a new object, the object of slot i -/
inductive Vl where
  | dat (d : PyData)
  | ob (o : Ob)
  | own (i : Nat)
abbrev En := List (Option B)
def KvR {κ : Type} (K : PySem.W.Frag) (Hz : Hp) (ks : List (κ × V)) (kvs : List (κ × PyData)) : Prop := ks.map (·.1) = kvs.map (·.1) ∧ DpAll K Hz (ks.map (·.2)) (kvs.map (·.2))
def OkOb (K : PySem.W.Frag) (Hz H : Hp) (a : Addr) : Ob → Prop
  | .lst ds => ∃ xs, H a = some (.lst xs) ∧ DpAll K Hz xs ds
  | .dT kvs => ∃ ks, H a = some (.dT ks) ∧ KvR K Hz ks kvs
  | .dK kvs => ∃ ks, H a = some (.dK ks) ∧ KvR K Hz ks kvs
  | .dN P w kvs => ∃ ks : NEs, H a = some (dnO P w a ks) ∧ KeysAt K Hz ks ∧ KvR K Hz (ks.map fun e => (e.1, e.2.2)) kvs
  | .ext φ => H a ≠ none ∧ (∀ u, H a = some u → tupO u = false) ∧ φ K Hz (H a) ∧ ∀ Hz', Same Hz Hz' → φ K Hz' (H a)
theorem OkOb.there {K : PySem.W.Frag} {Hz H : Hp} {a : Addr} {o : Ob} (h : OkOb K Hz H a o) : H a ≠ none := by
  cases o with
  | lst ds => obtain ⟨xs, e, _⟩ := h; rw [e]; exact Option.some_ne_none _
  | dT ds => obtain ⟨xs, e, _⟩ := h; rw [e]; exact Option.some_ne_none _
  | dK ds => obtain ⟨xs, e, _⟩ := h; rw [e]; exact Option.some_ne_none _
  | dN P w ds => obtain ⟨xs, e, _⟩ := h; rw [e]; exact Option.some_ne_none _
  | ext φ => exact h.1
theorem OkOb.ntup {K : PySem.W.Frag} {Hz H : Hp} {a : Addr} {o : Ob} (h : OkOb K Hz H a o) : ∀ u, H a = some u → tupO u = false := by
  cases o with
  | lst ds => obtain ⟨xs, e, _⟩ := h; intro u q; rw [e] at q; cases q; rfl
  | dT ds => obtain ⟨xs, e, _⟩ := h; intro u q; rw [e] at q; cases q; rfl
  | dK ds => obtain ⟨xs, e, _⟩ := h; intro u q; rw [e] at q; cases q; rfl
  | dN P w ds => obtain ⟨xs, e, _⟩ := h; intro u q; rw [e] at q; cases q; rfl
  | ext φ => exact h.2.1
theorem OkOb.keep {K : PySem.W.Frag} {Hz Hz' H H' : Hp} {a : Addr} {o : Ob} (h : OkOb K Hz H a o) (s : Same Hz Hz') (e : H' a = H a) : OkOb K Hz' H' a o := by
  cases o with
  | lst ds => obtain ⟨xs, q, d⟩ := h; exact ⟨xs, by rw [e]; exact q, dps_mono s _ _ d⟩
  | dT ds => obtain ⟨xs, q, d1, d2⟩ := h; exact ⟨xs, by rw [e]; exact q, d1, dps_mono s _ _ d2⟩
  | dK ds => obtain ⟨xs, q, d1, d2⟩ := h; exact ⟨xs, by rw [e]; exact q, d1, dps_mono s _ _ d2⟩
  | dN P w ds => obtain ⟨xs, q, d0, d1, d2⟩ := h; exact ⟨xs, by rw [e]; exact q, fun x hx => (d0 x hx).mono s, d1, dps_mono s _ _ d2⟩
  | ext φ =>
    obtain ⟨h1, h2, h3, h4⟩ := h
    refine ⟨by rw [e]; exact h1, by rw [e]; exact h2, by rw [e]; exact h4 _ s, fun Hz2 s2 => by rw [e]; exact h4 _ (fun b o q => s2 b o (s b o q))⟩
/-- a def's frame: the written part, the objects that it was given, the heap at its start (what is fixed of it, and all) -/
structure Fr where
  K : PySem.W.Frag
  A : List Addr
  Z0 : Hp
  H0 : Hp
inductive Pr (f : Fr) (Hz H : Hp) : En → St → List Addr → Prop
  | nil : Pr f Hz H [] [] []
  | skip {x : Option V} {L : En} {W : St} {O : List Addr} : Pr f Hz H L W O → Pr f Hz H (none :: L) (x :: W) O
  | dat {v : V} {d : PyData} {L : En} {W : St} {O : List Addr} : Dp f.K Hz v d → Pr f Hz H L W O → Pr f Hz H (some (.dat d) :: L) (some v :: W) O
  | ob {a : Addr} {t : Option Nat} {o : Ob} {L : En} {W : St} {O : List Addr} : OkOb f.K Hz H a o → (t = none → f.H0 a = none) → (∀ j, t = some j → f.A[j]? = some a) → Pr f Hz H L W O → Pr f Hz H (some (.ob t o) :: L) (some (.ref a) :: W) (a :: O)
section
variable {f : Fr} {Hz Hz' H H' : Hp} {L : En} {W : St} {O : List Addr}
theorem Pr.keep (h : Pr f Hz H L W O) (s : Same Hz Hz') (e : ∀ a ∈ O, H' a = H a) : Pr f Hz' H' L W O := by
  induction h with
  | nil => exact .nil
  | skip _ ih => exact .skip (ih e)
  | dat d _ ih => exact .dat (dp_mono s _ _ d) (ih e)
  | ob o h1 h2 _ ih => exact .ob (o.keep s (e _ List.mem_cons_self)) h1 h2 (ih fun a ha => e a (List.mem_cons_of_mem _ ha))
theorem Pr.len (h : Pr f Hz H L W O) : L.length = W.length := by
  induction h with
  | nil => rfl
  | skip _ ih => simp [ih]
  | dat d _ ih => simp [ih]
  | ob o h1 h2 _ ih => simp [ih]
theorem Pr.there (h : Pr f Hz H L W O) : ∀ a ∈ O, H a ≠ none := by
  induction h with
  | nil => intro a ha; cases ha
  | skip _ ih => exact ih
  | dat d _ ih => exact ih
  | ob o h1 h2 _ ih =>
    intro a ha
    rcases List.mem_cons.mp ha with rfl | ha
    · exact o.there
    · exact ih a ha
theorem Pr.get (h : Pr f Hz H L W O) : ∀ {i : Nat} {d : PyData}, L[i]? = some (some (.dat d)) → ∃ v, W[i]? = some (some v) ∧ Dp f.K Hz v d := by
  induction h with
  | nil => intro i d e; cases e
  | skip _ ih =>
    intro i d e
    cases i with
    | zero => cases e
    | succ i => exact ih e
  | dat q _ ih =>
    intro i d e
    cases i with
    | zero => cases e; exact ⟨_, rfl, q⟩
    | succ i => exact ih e
  | ob o h1 h2 _ ih =>
    intro i d e
    cases i with
    | zero => cases e
    | succ i => exact ih e
/-- the object of a slot taken out -/
theorem Pr.take (h : Pr f Hz H L W O) : ∀ {i : Nat} {t : Option Nat} {o : Ob}, L[i]? = some (some (.ob t o)) →
    ∃ a O', W[i]? = some (some (.ref a)) ∧ OkOb f.K Hz H a o ∧ (t = none → f.H0 a = none) ∧ (∀ j, t = some j → f.A[j]? = some a) ∧ O.Perm (a :: O') ∧ Pr f Hz H (L.set i none) W O' := by
  induction h with
  | nil => intro i t o e; cases e
  | skip _ ih =>
    intro i t o e
    cases i with
    | zero => cases e
    | succ i =>
      obtain ⟨a, O', h1, h2, h3, h4, h5, h6⟩ := ih e
      exact ⟨a, O', h1, h2, h3, h4, h5, .skip h6⟩
  | dat q _ ih =>
    intro i t o e
    cases i with
    | zero => cases e
    | succ i =>
      obtain ⟨a, O', h1, h2, h3, h4, h5, h6⟩ := ih e
      exact ⟨a, O', h1, h2, h3, h4, h5, .dat q h6⟩
  | @ob a0 t0 o0 L W O q h1 h2 r ih =>
    intro i t o e
    cases i with
    | zero =>
      cases e
      exact ⟨a0, O, rfl, q, h1, h2, List.Perm.refl _, .skip r⟩
    | succ i =>
      obtain ⟨a, O', g1, g2, g3, g4, g5, g6⟩ := ih e
      exact ⟨a, a0 :: O', g1, g2, g3, g4, (g5.cons a0).trans (List.Perm.swap _ _ _), .ob q h1 h2 g6⟩
/-- a slot forgotten -/
theorem Pr.wipe (h : Pr f Hz H L W O) : ∀ (i : Nat) (x : Option V), ∃ O', (∃ r, O.Perm (r ++ O')) ∧ Pr f Hz H (L.set i none) (W.set i x) O' := by
  induction h with
  | nil => intro i x; exact ⟨[], ⟨[], List.Perm.refl _⟩, .nil⟩
  | @skip y L W O p ih =>
    intro i x
    cases i with
    | zero => exact ⟨O, ⟨[], List.Perm.refl _⟩, .skip p⟩
    | succ i =>
      obtain ⟨O', h1, h2⟩ := ih i x
      exact ⟨O', h1, .skip h2⟩
  | @dat v d L W O q p ih =>
    intro i x
    cases i with
    | zero => exact ⟨O, ⟨[], List.Perm.refl _⟩, .skip p⟩
    | succ i =>
      obtain ⟨O', h1, h2⟩ := ih i x
      exact ⟨O', h1, .dat q h2⟩
  | @ob a t o L W O q g1 g2 p ih =>
    intro i x
    cases i with
    | zero => exact ⟨O, ⟨[a], List.Perm.refl _⟩, .skip p⟩
    | succ i =>
      obtain ⟨O', ⟨r, h1⟩, h2⟩ := ih i x
      exact ⟨a :: O', ⟨r, (h1.cons a).trans (List.perm_middle.symm)⟩, .ob q g1 g2 h2⟩
/-- data into a slot that holds nothing -/
theorem Pr.putD (h : Pr f Hz H L W O) : ∀ {i : Nat} {v : V} {d : PyData}, Dp f.K Hz v d → L[i]? = some none → Pr f Hz H (L.set i (some (.dat d))) (W.set i (some v)) O := by
  induction h with
  | nil => intro i v d q e; cases e
  | skip p ih =>
    intro i v d q e
    cases i with
    | zero => exact .dat q p
    | succ i => exact .skip (ih q e)
  | dat q p ih =>
    intro i v d q' e
    cases i with
    | zero => cases e
    | succ i => exact .dat q (ih q' e)
  | ob q g1 g2 p ih =>
    intro i v d q' e
    cases i with
    | zero => cases e
    | succ i => exact .ob q g1 g2 (ih q' e)
/-- an object into a slot that holds nothing -/
theorem Pr.putO (h : Pr f Hz H L W O) : ∀ {i : Nat} {a : Addr} {t : Option Nat} {o : Ob}, OkOb f.K Hz H a o → (t = none → f.H0 a = none) → (∀ j, t = some j → f.A[j]? = some a) → L[i]? = some none →
    ∃ O', O'.Perm (a :: O) ∧ Pr f Hz H (L.set i (some (.ob t o))) (W.set i (some (.ref a))) O' := by
  induction h with
  | nil => intro i a t o _ _ _ e; cases e
  | @skip y L W O p ih =>
    intro i a t o q1 q2 q3 e
    cases i with
    | zero => exact ⟨_, List.Perm.refl _, .ob q1 q2 q3 p⟩
    | succ i =>
      obtain ⟨O', h1, h2⟩ := ih q1 q2 q3 e
      exact ⟨O', h1, .skip h2⟩
  | dat q p ih =>
    intro i a t o q1 q2 q3 e
    cases i with
    | zero => cases e
    | succ i =>
      obtain ⟨O', h1, h2⟩ := ih q1 q2 q3 e
      exact ⟨O', h1, .dat q h2⟩
  | @ob a0 t0 o0 L W O q g1 g2 p ih =>
    intro i a t o q1 q2 q3 e
    cases i with
    | zero => cases e
    | succ i =>
      obtain ⟨O', h1, h2⟩ := ih q1 q2 q3 e
      exact ⟨a0 :: O', (h1.cons a0).trans (List.Perm.swap _ _ _), .ob q g1 g2 h2⟩
end
/-- the state: temporaries L, W; slots E, σ -/
structure Sy (f : Fr) (L : En) (W : St) (E : En) (σ : St) (Hz H : Hp) : Prop where
  ex : ∃ O1 O2, Pr f Hz H L W O1 ∧ Pr f Hz H E σ O2 ∧ (O1 ++ O2).Nodup ∧ ∀ a ∈ O1 ++ O2, Hz a = none
  sm : Same Hz H
  tz : Same f.Z0 Hz
  nw : ∀ b, Hz b ≠ none → f.Z0 b ≠ none ∨ f.H0 b = none
  kp : ∀ b u, b ∉ f.A → f.H0 b = some u → H b = some u
  ka : ∀ b, f.H0 b ≠ none → H b ≠ none
  az : ∀ a ∈ f.A, f.H0 a ≠ none ∧ Hz a = none
  tp : ∀ b u, H b = some u → tupO u = true → Hz b = some u
section
variable {f : Fr} {Hz Hz' H H' : Hp} {L E : En} {W σ : St}
theorem same_up {p : Addr} {u : HO} (h : Hz p = none) : Same Hz (upd Hz p u) := same_new h u
/-- a fixed thing is laid -/
theorem Sy.newT {p : Addr} {u : HO} (y : Sy f L W E σ Hz H) (hp : H p = none) : Sy f L W E σ (upd Hz p u) (upd H p u) := by
  obtain ⟨⟨O1, O2, p1, p2, nd, fr⟩, sm, tz, nw, kp, ka, az, tp⟩ := y
  have hz : Hz p = none := by
    cases e : Hz p with
    | none => rfl
    | some x => rw [sm _ _ e] at hp; cases hp
  have h0 : f.H0 p = none := by
    cases e : f.H0 p with
    | none => rfl
    | some x => exact absurd hp (ka p (by rw [e]; exact Option.some_ne_none _))
  have ne : ∀ a ∈ O1 ++ O2, a ≠ p := fun a ha c => by
    rcases List.mem_append.mp ha with ha | ha
    · exact p1.there a ha (by rw [c]; exact hp)
    · exact p2.there a ha (by rw [c]; exact hp)
  have s1 := same_up (u := u) hz
  refine ⟨⟨O1, O2, p1.keep s1 (fun a ha => upd_ne (ne a (List.mem_append_left _ ha))), p2.keep s1 (fun a ha => upd_ne (ne a (List.mem_append_right _ ha))), nd, fun a ha => ?_⟩, ?_, fun b o q => s1 b o (tz b o q), ?_, ?_, ?_, ?_, ?_⟩
  · rw [upd_ne (ne a ha)]
    exact fr a ha
  · intro b o q
    by_cases c : b = p
    · subst c
      rw [upd_same] at q ⊢
      exact q
    · rw [upd_ne c] at q ⊢
      exact sm b o q
  · intro b q
    by_cases c : b = p
    · subst c
      exact .inr h0
    · rw [upd_ne c] at q
      exact nw b q
  · intro b w hb q
    rw [upd_ne (fun c => by rw [c, h0] at q; cases q)]
    exact kp b w hb q
  · intro b q
    rw [upd_ne (fun c => q (by rw [c]; exact h0))]
    exact ka b q
  · intro a ha
    obtain ⟨q1, q2⟩ := az a ha
    refine ⟨q1, ?_⟩
    rw [upd_ne (fun c => q1 (by rw [c]; exact h0))]
    exact q2
  · intro b w q c
    by_cases e : b = p
    · subst e
      rw [upd_same] at q ⊢
      exact q
    · rw [upd_ne e] at q ⊢
      exact tp b w q c
theorem Sy.hz {p : Addr} (y : Sy f L W E σ Hz H) (hp : H p = none) : Hz p = none := by
  cases e : Hz p with
  | none => rfl
  | some x => rw [y.sm _ _ e] at hp; cases hp
/-- an object of its own is laid, as a temporary -/
theorem Sy.newO {p : Addr} {u : HO} {o : Ob} (y : Sy f L W E σ Hz H) (hp : H p = none) (ho : OkOb f.K Hz (upd H p u) p o) : Sy f (some (.ob none o) :: L) (some (.ref p) :: W) E σ Hz (upd H p u) := by
  have hz := y.hz hp
  obtain ⟨⟨O1, O2, p1, p2, nd, fr⟩, sm, tz, nw, kp, ka, az, tp⟩ := y
  have h0 : f.H0 p = none := by
    cases e : f.H0 p with
    | none => rfl
    | some x => exact absurd hp (ka p (by rw [e]; exact Option.some_ne_none _))
  have ne : ∀ a ∈ O1 ++ O2, a ≠ p := fun a ha c => by
    rcases List.mem_append.mp ha with ha | ha
    · exact p1.there a ha (by rw [c]; exact hp)
    · exact p2.there a ha (by rw [c]; exact hp)
  have s1 : Same Hz Hz := fun _ _ q => q
  refine ⟨⟨p :: O1, O2, .ob ho (fun _ => h0) (fun j e => by cases e) (p1.keep s1 (fun a ha => upd_ne (ne a (List.mem_append_left _ ha)))), p2.keep s1 (fun a ha => upd_ne (ne a (List.mem_append_right _ ha))), ?_, ?_⟩, ?_, tz, nw, ?_, ?_, az, ?_⟩
  · exact List.nodup_cons.mpr ⟨fun h => ne p h rfl, nd⟩
  · intro a ha
    rcases List.mem_cons.mp ha with rfl | ha
    · exact hz
    · exact fr a ha
  · intro b o q
    rw [upd_ne (fun c => by rw [c, hz] at q; cases q)]
    exact sm b o q
  · intro b w hb q
    rw [upd_ne (fun c => by rw [c, h0] at q; cases q)]
    exact kp b w hb q
  · intro b q
    rw [upd_ne (fun c => q (by rw [c]; exact h0))]
    exact ka b q
  · intro b w q c
    by_cases e : b = p
    · subst e
      rw [ho.ntup w q] at c
      cases c
    · rw [upd_ne e] at q
      exact tp b w q c
theorem Sy.pop {x : Option B} {v : Option V} (y : Sy f (x :: L) (v :: W) E σ Hz H) : Sy f L W E σ Hz H := by
  obtain ⟨⟨O1, O2, p1, p2, nd, fr⟩, sm, tz, nw, kp, ka, az, tp⟩ := y
  cases p1 with
  | skip p => exact ⟨⟨_, O2, p, p2, nd, fr⟩, sm, tz, nw, kp, ka, az, tp⟩
  | dat _ p => exact ⟨⟨_, O2, p, p2, nd, fr⟩, sm, tz, nw, kp, ka, az, tp⟩
  | ob _ _ _ p => exact ⟨⟨_, O2, p, p2, (List.nodup_cons.mp nd).2, fun a ha => fr a (List.mem_cons_of_mem _ ha)⟩, sm, tz, nw, kp, ka, az, tp⟩
theorem Sy.get {i : Nat} {d : PyData} (y : Sy f L W E σ Hz H) (e : E[i]? = some (some (.dat d))) : ∃ v, σ[i]? = some (some v) ∧ Dp f.K Hz v d := by
  obtain ⟨O1, O2, p1, p2, nd, fr⟩ := y.ex
  exact p2.get e
theorem Sy.ob {i : Nat} {t : Option Nat} {o : Ob} (y : Sy f L W E σ Hz H) (e : E[i]? = some (some (.ob t o))) : ∃ a, σ[i]? = some (some (.ref a)) ∧ OkOb f.K Hz H a o ∧ Hz a = none := by
  obtain ⟨O1, O2, p1, p2, nd, fr⟩ := y.ex
  obtain ⟨a, O', h1, h2, h3, h4, h5, h6⟩ := p2.take e
  exact ⟨a, h1, h2, fr a (List.mem_append_right _ (h5.mem_iff.mpr List.mem_cons_self))⟩
theorem Sy.top {t : Option Nat} {o : Ob} {v : Option V} (y : Sy f (some (.ob t o) :: L) (v :: W) E σ Hz H) : ∃ a, v = some (.ref a) ∧ OkOb f.K Hz H a o ∧ Hz a = none := by
  obtain ⟨O1, O2, p1, p2, nd, fr⟩ := y.ex
  cases p1 with
  | ob h1 h2 h3 p => exact ⟨_, rfl, h1, fr _ (List.mem_append_left _ List.mem_cons_self)⟩
theorem Sy.len (y : Sy f L W E σ Hz H) : E.length = σ.length := by
  obtain ⟨O1, O2, p1, p2, nd, fr⟩ := y.ex
  exact p2.len
end
theorem perm_nodup {α : Type} {a b c : List α} (h : (a ++ b).Nodup) (p : b.Perm c) : (a ++ c).Nodup := (p.append_left a).nodup_iff.mp h
section
variable {f : Fr} {Hz Hz' H H' : Hp} {L E : En} {W σ : St}
theorem set_set_none {α : Type} (l : List (Option α)) (i : Nat) (x : Option α) : (l.set i none).set i x = l.set i x := by rw [List.set_set]
/-- the object of a slot is changed -/
theorem Sy.wr {i : Nat} {t : Option Nat} {o o' : Ob} {a : Addr} {u : HO} (y : Sy f L W E σ Hz H) (e : E[i]? = some (some (.ob t o))) (ea : σ[i]? = some (some (.ref a))) (ho : OkOb f.K Hz (upd H a u) a o') :
    Sy f L W (E.set i (some (.ob t o'))) σ Hz (upd H a u) := by
  obtain ⟨⟨O1, O2, p1, p2, nd, fr⟩, sm, tz, nw, kp, ka, az, tp⟩ := y
  obtain ⟨a', O', h1, h2, h3, h4, h5, h6⟩ := p2.take e
  rw [ea] at h1
  obtain rfl := V.ref.inj (Option.some.inj (Option.some.inj h1))
  have nd2 := perm_nodup nd h5
  have hz : Hz a = none := fr a (List.mem_append_right _ (h5.mem_iff.mpr List.mem_cons_self))
  have nd3 := List.nodup_append.mp nd2
  have n1 : ∀ b ∈ O1, b ≠ a := fun b hb c => nd3.2.2 b hb a List.mem_cons_self c
  have n2 : ∀ b ∈ O', b ≠ a := fun b hb c => (List.nodup_cons.mp nd3.2.1).1 (c ▸ hb)
  have s1 : Same Hz Hz := fun _ _ q => q
  have hi : i < E.length := (List.getElem?_eq_some_iff.mp e).1
  have e0 : (E.set i none)[i]? = some none := by rw [List.getElem?_set_self hi]
  obtain ⟨O3, g1, g2⟩ := (h6.keep s1 (fun b hb => upd_ne (n2 b hb)) : Pr f Hz (upd H a u) _ _ _).putO ho h3 h4 e0
  rw [set_set_none] at g2
  have eσ : σ.set i (some (V.ref a)) = σ := by
    apply List.ext_getElem?
    intro n
    by_cases hn : i = n
    · subst hn
      rw [ea, List.getElem?_set_self (by have := p2.len; omega)]
    · rw [List.getElem?_set_ne hn]
  rw [eσ] at g2
  refine ⟨⟨O1, O3, p1.keep s1 (fun b hb => upd_ne (n1 b hb)), g2, perm_nodup nd2 g1.symm, fun b hb => fr b ?_⟩, ?_, tz, nw, ?_, ?_, az, ?_⟩
  · rcases List.mem_append.mp hb with hb | hb
    · exact List.mem_append_left _ hb
    · exact List.mem_append_right _ (h5.mem_iff.mpr (g1.mem_iff.mp hb))
  · intro b o q
    rw [upd_ne (fun c => by rw [c, hz] at q; cases q)]
    exact sm b o q
  · intro b w hb q
    by_cases c : b = a
    · subst c
      cases t with
      | none => rw [h3 rfl] at q; cases q
      | some j => exact absurd (List.mem_of_getElem? (h4 j rfl)) hb
    · rw [upd_ne c]
      exact kp b w hb q
  · intro b q
    by_cases c : b = a
    · subst c
      rw [upd_same]
      exact Option.some_ne_none _
    · rw [upd_ne c]
      exact ka b q
  · intro b w q c
    by_cases e : b = a
    · subst e
      rw [ho.ntup w q] at c
      cases c
    · rw [upd_ne e] at q
      exact tp b w q c
/-- the topmost temporary is changed -/
theorem Sy.wrT {t : Option Nat} {o o' : Ob} {a : Addr} {u : HO} (y : Sy f (some (.ob t o) :: L) (some (.ref a) :: W) E σ Hz H) (ho : OkOb f.K Hz (upd H a u) a o') :
    Sy f (some (.ob t o') :: L) (some (.ref a) :: W) E σ Hz (upd H a u) := by
  obtain ⟨⟨O1, O2, p1, p2, nd, fr⟩, sm, tz, nw, kp, ka, az, tp⟩ := y
  cases p1 with
  | @ob _ _ _ _ _ O1 q1 q2 q3 p1 =>
    have n1 : ∀ b ∈ O1 ++ O2, b ≠ a := fun b hb c => (List.nodup_cons.mp nd).1 (c ▸ hb)
    have s1 : Same Hz Hz := fun _ _ q => q
    have hz : Hz a = none := fr a List.mem_cons_self
    refine ⟨⟨a :: O1, O2, .ob ho q2 q3 (p1.keep s1 (fun b hb => upd_ne (n1 b (List.mem_append_left _ hb)))), p2.keep s1 (fun b hb => upd_ne (n1 b (List.mem_append_right _ hb))), nd, fr⟩, ?_, tz, nw, ?_, ?_, az, ?_⟩
    · intro b o q
      rw [upd_ne (fun c => by rw [c, hz] at q; cases q)]
      exact sm b o q
    · intro b w hb q
      by_cases c : b = a
      · subst c
        cases t with
        | none => rw [q2 rfl] at q; cases q
        | some j => exact absurd (List.mem_of_getElem? (q3 j rfl)) hb
      · rw [upd_ne c]
        exact kp b w hb q
    · intro b q
      by_cases c : b = a
      · subst c
        rw [upd_same]
        exact Option.some_ne_none _
      · rw [upd_ne c]
        exact ka b q
    · intro b w q c
      by_cases e : b = a
      · subst e
        rw [ho.ntup w q] at c
        cases c
      · rw [upd_ne e] at q
        exact tp b w q c
/-- data into a slot -/
theorem Sy.setD {i : Nat} {v : V} {d : PyData} (y : Sy f L W E σ Hz H) (hd : Dp f.K Hz v d) (hi : i < E.length) : Sy f L W (E.set i (some (.dat d))) (σ.set i (some v)) Hz H := by
  obtain ⟨⟨O1, O2, p1, p2, nd, fr⟩, sm, tz, nw, kp, ka, az, tp⟩ := y
  obtain ⟨O', ⟨r, h1⟩, h2⟩ := p2.wipe i (some v)
  have h3 := h2.putD (i := i) hd (by rw [List.getElem?_set_self hi])
  rw [List.set_set, List.set_set] at h3
  have nd2 := perm_nodup nd h1
  have sub : (O1 ++ O').Sublist (O1 ++ (r ++ O')) := List.Sublist.append (List.Sublist.refl _) (List.sublist_append_right _ _)
  refine ⟨⟨O1, O', p1, h3, sub.nodup nd2, fun a ha => fr a ?_⟩, sm, tz, nw, kp, ka, az, tp⟩
  have := sub.subset ha
  rcases List.mem_append.mp this with q | q
  · exact List.mem_append_left _ q
  · exact List.mem_append_right _ (h1.mem_iff.mpr q)
/-- a slot forgotten -/
theorem Sy.forget {i : Nat} {x : Option V} (y : Sy f L W E σ Hz H) : Sy f L W (E.set i none) (σ.set i x) Hz H := by
  obtain ⟨⟨O1, O2, p1, p2, nd, fr⟩, sm, tz, nw, kp, ka, az, tp⟩ := y
  obtain ⟨O', ⟨r, h1⟩, h2⟩ := p2.wipe i x
  have nd2 := perm_nodup nd h1
  have sub : (O1 ++ O').Sublist (O1 ++ (r ++ O')) := List.Sublist.append (List.Sublist.refl _) (List.sublist_append_right _ _)
  refine ⟨⟨O1, O', p1, h2, sub.nodup nd2, fun a ha => fr a ?_⟩, sm, tz, nw, kp, ka, az, tp⟩
  have := sub.subset ha
  rcases List.mem_append.mp this with q | q
  · exact List.mem_append_left _ q
  · exact List.mem_append_right _ (h1.mem_iff.mpr q)
/-- the topmost temporary into a slot -/
theorem Sy.setO {i : Nat} {v : V} {t : Option Nat} {o : Ob} (y : Sy f (some (.ob t o) :: L) (some v :: W) E σ Hz H) (hi : i < E.length) : Sy f L W (E.set i (some (.ob t o))) (σ.set i (some v)) Hz H := by
  obtain ⟨⟨O1, O2, p1, p2, nd, fr⟩, sm, tz, nw, kp, ka, az, tp⟩ := y
  cases p1 with
  | @ob a _ _ _ _ O1 q1 q2 q3 p1 =>
    obtain ⟨O', ⟨r, h1⟩, h2⟩ := p2.wipe i (some (.ref a))
    obtain ⟨O3, g1, h3⟩ := h2.putO (i := i) q1 q2 q3 (by rw [List.getElem?_set_self hi])
    rw [List.set_set, List.set_set] at h3
    have nd1 : ((a :: O1) ++ (r ++ O')).Nodup := perm_nodup nd h1
    have sub : ((a :: O1) ++ O').Sublist ((a :: O1) ++ (r ++ O')) := List.Sublist.append (List.Sublist.refl _) (List.sublist_append_right _ _)
    have nd2 : ((a :: O1) ++ O').Nodup := sub.nodup nd1
    have pm : (O1 ++ O3).Perm ((a :: O1) ++ O') := ((g1.append_left O1).trans List.perm_middle)
    refine ⟨⟨O1, O3, p1, h3, pm.nodup_iff.mpr nd2, fun b hb => fr b ?_⟩, sm, tz, nw, kp, ka, az, tp⟩
    have h4 := sub.subset (pm.mem_iff.mp hb)
    rcases List.mem_append.mp h4 with q | q
    · exact List.mem_append_left _ q
    · exact List.mem_append_right _ (h1.mem_iff.mpr q)
/-- the object of a slot becomes the topmost temporary -/
theorem Sy.mv {i : Nat} {v : V} {t : Option Nat} {o : Ob} (y : Sy f L W E σ Hz H) (e : E[i]? = some (some (.ob t o))) (ev : σ[i]? = some (some v)) : Sy f (some (.ob t o) :: L) (some v :: W) (E.set i none) σ Hz H := by
  obtain ⟨⟨O1, O2, p1, p2, nd, fr⟩, sm, tz, nw, kp, ka, az, tp⟩ := y
  obtain ⟨a, O', h1, h2, h3, h4, h5, h6⟩ := p2.take e
  rw [ev] at h1
  obtain rfl := Option.some.inj (Option.some.inj h1)
  have pm : ((a :: O1) ++ O').Perm (O1 ++ O2) := (List.perm_middle.symm).trans (h5.symm.append_left O1)
  refine ⟨⟨a :: O1, O', .ob h2 h3 h4 p1, h6, pm.nodup_iff.mpr nd, fun b hb => fr b (pm.mem_iff.mp hb)⟩, sm, tz, nw, kp, ka, az, tp⟩
/-- the topmost temporary, a list, is fixed -/
theorem Sy.frz {v : V} {ds : List PyData} (y : Sy f (some (.ob none (.lst ds)) :: L) (some v :: W) E σ Hz H) : ∃ Hz', Sy f L W E σ Hz' H ∧ Same Hz Hz' ∧ Dp f.K Hz' v (.list ds) := by
  obtain ⟨⟨O1, O2, p1, p2, nd, fr⟩, sm, tz, nw, kp, ka, az, tp⟩ := y
  cases p1 with
  | @ob a _ _ _ _ O1 q1 q2 q3 p1 =>
    obtain ⟨xs, hx, hd⟩ := q1
    have hz : Hz a = none := fr a List.mem_cons_self
    have s1 : Same Hz (upd Hz a (.lst xs)) := same_new hz _
    have ne : ∀ b ∈ O1 ++ O2, b ≠ a := fun b hb c => (List.nodup_cons.mp nd).1 (c ▸ hb)
    refine ⟨upd Hz a (.lst xs), ⟨⟨O1, O2, p1.keep s1 (fun _ _ => rfl), p2.keep s1 (fun _ _ => rfl), (List.nodup_cons.mp nd).2, fun b hb => ?_⟩, ?_, fun b o q => s1 b o (tz b o q), ?_, kp, ka, ?_, fun b w q c => s1 b w (tp b w q c)⟩, s1, .lst (SqL.of upd_same) (dps_mono s1 _ _ hd)⟩
    · rw [upd_ne (ne b hb)]
      exact fr b (List.mem_cons_of_mem _ hb)
    · intro b o q
      by_cases c : b = a
      · subst c
        rw [upd_same] at q
        rw [hx]
        exact q
      · rw [upd_ne c] at q
        exact sm b o q
    · intro b q
      by_cases c : b = a
      · subst c
        exact .inr (q2 rfl)
      · rw [upd_ne c] at q
        exact nw b q
    · intro b hb
      obtain ⟨g1, g2⟩ := az b hb
      refine ⟨g1, ?_⟩
      rw [upd_ne (fun c => g1 (by rw [c]; exact q2 rfl))]
      exact g2
end
/-- tuples are fixed -/
theorem Sy.kpT {f : Fr} {L E : En} {W σ : St} {Hz H : Hp} (y : Sy f L W E σ Hz H) : KpT H Hz := fun K a xs h => by
  rcases h with (h | ⟨o, h⟩) | h
  · exact .inl (.inl (y.tp _ _ h rfl))
  · exact .inl (.inr ⟨o, y.tp _ _ h rfl⟩)
  · exact .inr h
theorem Sy.dpz {f : Fr} {L E : En} {W σ : St} {Hz H : Hp} {v : V} {d : PyData} (y : Sy f L W E σ Hz H) (p : pT d = true) (h : Dp f.K H v d) : Dp f.K Hz v d := dp_keep y.kpT d v p h
end DL


set_option Elab.async false
set_option linter.all false
set_option maxRecDepth 100000
set_option maxHeartbeats 4000000
/-! Expressions over the layer of values. -/
namespace DL
open PySem L2 TG
def tmp : Vl → En → En
  | .ob o, L => some (.ob none o) :: L
  | _, L => L
def tmv : Vl → V → St → St
  | .ob _, v, W => some v :: W
  | _, _, W => W
def Val (f : Fr) (b : Vl) (v : V) (σ : St) (Hz : Hp) : Prop := match b with
  | .dat d => Dp f.K Hz v d
  | .ob _ => True
  | .own i => σ[i]? = some (some v)
abbrev WE := En → (Vl → En → Prop) → Prop
abbrev WT := En → (Bool → En → Prop) → Prop
abbrev WM := En → (List Vl → En → Prop) → Prop
abbrev WA := En → (List PyData → En → Prop) → Prop
abbrev WO := En → (Option Int → En → Prop) → Prop
/-- o's value -/
def ob1 {α : Type} : Option α → (α → Prop) → Prop
  | some a, P => P a
  | none, _ => False
theorem ob1_some {α : Type} {a : α} {P : α → Prop} : ob1 (some a) P = P a := rfl
theorem ob1_none {α : Type} {P : α → Prop} : ob1 none P = False := rfl
theorem ob1_ex {α : Type} {o : Option α} {P : α → Prop} (h : ob1 o P) : ∃ a, o = some a ∧ P a := by
  cases o with
  | none => exact h.elim
  | some a => exact ⟨a, rfl, h⟩
/-- an expression's reading te answers by E -/
structure SE (f : Fr) (te : TE) (E : WE) : Prop where
  run : ∀ {L W e σ Hz H Post Q}, E e Post → Sy f L W e σ Hz H →
    (∀ b e' v Hz' H', Post b e' → Same Hz Hz' → Sy f (tmp b L) (tmv b v W) e' σ Hz' H' → Val f b v σ Hz' → Q v H') → te σ H Q
structure ST (f : Fr) (tt : TT) (E : WT) : Prop where
  run : ∀ {L W e σ Hz H Post Q}, E e Post → Sy f L W e σ Hz H → (∀ b e' Hz' H', Post b e' → Same Hz Hz' → Sy f L W e' σ Hz' H' → Q b H') → tt σ H Q
structure SA (f : Fr) (ta : TA) (E : WA) : Prop where
  run : ∀ {L W e σ Hz H Post Q}, E e Post → Sy f L W e σ Hz H → (∀ ds e' vs Hz' H', Post ds e' → Same Hz Hz' → Sy f L W e' σ Hz' H' → DpAll f.K Hz' vs ds → Q vs H') → ta σ H Q
structure SO (f : Fr) (to : TO) (E : WO) : Prop where
  run : ∀ {L W e σ Hz H Post Q}, E e Post → Sy f L W e σ Hz H → (∀ o e' Hz' H', Post o e' → Same Hz Hz' → Sy f L W e' σ Hz' H' → Q o H') → to σ H Q
theorem same_refl {H : Hp} : Same H H := fun _ _ q => q
theorem same_trans {H H1 H2 : Hp} (a : Same H H1) (b : Same H1 H2) : Same H H2 := fun x o q => b x o (a x o q)
section
variable {f : Fr} {L e : En} {W σ : St} {Hz H Hz' : Hp} {b : Vl} {v : V}
theorem Sy.un (y : Sy f (tmp b L) (tmv b v W) e σ Hz H) : Sy f L W e σ Hz H := by
  cases b with
  | dat d => exact y
  | ob o => exact y.pop
  | own i => exact y
theorem Val.mono (h : Val f b v σ Hz) (s : Same Hz Hz') : Val f b v σ Hz' := by
  cases b with
  | dat d => exact dp_mono s _ _ h
  | ob o => trivial
  | own i => exact h
/-- what can be read of a value as data -/
def cont : Vl → En → Option PyData
  | .dat d, _ => some d
  | .ob (.lst ds), _ => some (.list ds)
  | .ob _, _ => none
  | .own i, e => match e[i]? with
    | some (some (.dat d)) => some d
    | some (some (.ob _ (.lst ds))) => some (.list ds)
    | _ => none
def contS : Option (Option B) → Option PyData
  | some (some (.dat d)) => some d
  | some (some (.ob _ (.lst ds))) => some (.list ds)
  | _ => none
theorem cont_dat {d : PyData} {e : En} : cont (.dat d) e = some d := rfl
theorem cont_lst {ds : List PyData} {e : En} : cont (.ob (.lst ds)) e = some (.list ds) := rfl
theorem cont_own {i : Nat} {e : En} : cont (.own i) e = contS e[i]? := by
  unfold cont contS
  rfl
theorem contS_dat {d : PyData} : contS (some (some (.dat d))) = some d := rfl
theorem contS_lst {t : Option Nat} {ds : List PyData} : contS (some (some (.ob t (.lst ds)))) = some (.list ds) := rfl
/-- data, a list's own object perhaps not fixed -/
def Rep (K : PySem.W.Frag) (Hz H : Hp) (v : V) (d : PyData) : Prop := match d with
  | .list ds => ∃ a xs, v = .ref a ∧ SqL K H a xs ∧ DpAll K Hz xs ds
  | d => Dp K Hz v d
theorem rep_dp {K : PySem.W.Frag} {d : PyData} (s : Same Hz H) (h : Dp K Hz v d) : Rep K Hz H v d := by
  cases d with
  | list ds =>
    cases h with
    | lst hs ha => exact ⟨_, _, rfl, sqL s hs, ha⟩
  | _ => exact h
theorem Rep.dp {K : PySem.W.Frag} {d : PyData} (s : Same Hz H) (h : Rep K Hz H v d) : Dp K H v d := by
  cases d with
  | list ds =>
    obtain ⟨a, xs, rfl, h1, h2⟩ := h
    exact .lst h1 (dps_mono s _ _ h2)
  | _ => exact dp_mono s _ _ h
theorem rep_lst {K : PySem.W.Frag} {a : Addr} {ds : List PyData} (h : OkOb K Hz H a (.lst ds)) : Rep K Hz H (.ref a) (.list ds) := by
  obtain ⟨xs, h1, h2⟩ := h
  exact ⟨a, xs, rfl, SqL.of h1, h2⟩
theorem Sy.cont {d : PyData} (y : Sy f (tmp b L) (tmv b v W) e σ Hz H) (hv : Val f b v σ Hz) (h : cont b e = some d) : Rep f.K Hz H v d := by
  cases b with
  | dat d' =>
    cases h
    exact rep_dp y.sm hv
  | ob o =>
    cases o with
    | lst ds =>
      cases h
      obtain ⟨a, ea, h1, _⟩ := Sy.top y
      cases ea
      exact rep_lst h1
    | _ => cases h
  | own i =>
    simp only [DL.cont] at h
    split at h
    · rename_i d' q
      cases h
      obtain ⟨v', e1, e2⟩ := y.get q
      have hv' : σ[i]? = some (some v) := hv
      rw [hv'] at e1
      cases e1
      exact rep_dp y.sm e2
    · rename_i t ds q
      cases h
      obtain ⟨a, e1, e2, _⟩ := y.ob q
      have hv' : σ[i]? = some (some v) := hv
      rw [hv'] at e1
      cases e1
      exact rep_lst e2
    · cases h
end
/-! ### leaves -/
section
variable {f : Fr}
def vrS (i : Nat) (e : En) (P : Vl → En → Prop) : Option (Option B) → Prop
  | some (some (.dat d)) => P (.dat d) e
  | some (some (.ob _ _)) => P (.own i) e
  | _ => False
def wVar (i : Nat) (e : En) (P : Vl → En → Prop) : Prop := vrS i e P e[i]?
theorem vrS_dat {i : Nat} {e : En} {P : Vl → En → Prop} {d : PyData} : vrS i e P (some (some (.dat d))) = P (.dat d) e := rfl
theorem vrS_ob {i : Nat} {e : En} {P : Vl → En → Prop} {t : Option Nat} {o : Ob} : vrS i e P (some (some (.ob t o))) = P (.own i) e := rfl
theorem se_var {i : Nat} : SE f (tVar i) (wVar i) := ⟨fun {L W e σ Hz H Post Q} h y k => by
  unfold wVar at h
  generalize q : e[i]? = x at h
  unfold vrS at h
  split at h
  · obtain ⟨v, e1, e2⟩ := y.get q
    exact ⟨v, e1, k _ _ _ _ _ h same_refl y e2⟩
  · obtain ⟨a, e1, e2, _⟩ := y.ob q
    exact ⟨_, e1, k _ _ _ _ _ h same_refl y e1⟩
  · exact h.elim⟩
def wC (d : PyData) (e : En) (P : Vl → En → Prop) : Prop := P (.dat d) e
theorem se_int {i : Int} : SE f (tC (.int i)) (wC (.int i)) := ⟨fun h y k => k _ _ _ _ _ h same_refl y (Dp.int i)⟩
theorem se_str {x : Str} : SE f (tC (.str x)) (wC (.str x)) := ⟨fun h y k => k _ _ _ _ _ h same_refl y (Dp.str x)⟩
theorem se_bl {b : Bool} : SE f (tC (.bl b)) (wC (.bool b)) := ⟨fun h y k => k _ _ _ _ _ h same_refl y (Dp.bl b)⟩
theorem se_non : SE f (tC .non) (wC .none) := ⟨fun h y k => k _ _ _ _ _ h same_refl y Dp.non⟩
end
/-! ### operations -/
abbrev W2 := PyData → PyData → (Vl → Prop) → Prop
/-- a two-place operation -/
structure SR (f : Fr) (r : R2) (g : W2) : Prop where
  run : ∀ {L W e σ Hz H x y d1 d2 Post Q}, Rep f.K Hz H x d1 → Rep f.K Hz H y d2 → Sy f L W e σ Hz H → g d1 d2 Post →
  (∀ b v Hz' H', Post b → Same Hz Hz' → Sy f (tmp b L) (tmv b v W) e σ Hz' H' → Val f b v σ Hz' → Q v H') → r x y H Q
section
variable {f : Fr} {ta tb tc : TE} {Ea Eb Ec : WE} {r r' : R2} {g g' : W2}
def wOp (g : W2) (Ea Eb : WE) (e : En) (P : Vl → En → Prop) : Prop := Ea e fun b1 e1 => Eb e1 fun b2 e2 => ob1 (cont b1 e2) fun d1 => ob1 (cont b2 e2) fun d2 => g d1 d2 fun b => P b e2
theorem se_op (hr : SR f r g) (ha : SE f ta Ea) (hb : SE f tb Eb) : SE f (tOp r ta tb) (wOp g Ea Eb) := ⟨fun {L W e σ Hz H Post Q} h y k => by
  refine ha.run h y fun b1 e1 v1 Hz1 H1 h1 s1 y1 l1 => ?_
  refine hb.run h1 y1 fun b2 e2 v2 Hz2 H2 h2 s2 y2 l2 => ?_
  obtain ⟨d1, c1, h2⟩ := ob1_ex h2
  obtain ⟨d2, c2, h2⟩ := ob1_ex h2
  exact hr.run (y2.un.cont (l1.mono s2) c1) (y2.cont l2 c2) y2.un.un h2 fun b v Hz' H' h3 s3 y3 l3 => k _ _ _ _ _ h3 (same_trans s1 (same_trans s2 s3)) y3 l3⟩
def vD : V → PyData
  | .non => .none
  | .bl b => .bool b
  | .int i => .int i
  | .str x => .str x
  | _ => .none
def gI (C : Int → Int → Prop) (g : Int → Int → V) (d1 d2 : PyData) (P : Vl → Prop) : Prop := match d1, d2 with
  | .int i, .int j => C i j ∧ P (.dat (vD (g i j)))
  | _, _ => False
def scV : V → Bool
  | .non => true
  | .bl _ => true
  | .int _ => true
  | .str _ => true
  | _ => false
theorem dp_sc {K : PySem.W.Frag} {Hz : Hp} {v : V} (h : scV v = true) : Dp K Hz v (vD v) := by
  cases v with
  | non => exact .non
  | bl b => exact .bl b
  | int i => exact .int i
  | str x => exact .str x
  | _ => cases h
theorem sr_I {C : Int → Int → Prop} {g : Int → Int → V} (hg : ∀ i j, scV (g i j) = true) : SR f (rI C g) (gI C g) := ⟨fun {L W e σ Hz H x y d1 d2 Post Q} r1 r2 s h k => by
  unfold gI at h
  split at h
  · cases r1
    cases r2
    exact ⟨_, _, rfl, rfl, h.1, k _ _ _ _ h.2 same_refl s (dp_sc (hg _ _))⟩
  · exact h.elim⟩
def gI0 (g : Int → Int → V) (d1 d2 : PyData) (P : Vl → Prop) : Prop := match d1, d2 with
  | .int i, .int j => P (.dat (vD (g i j)))
  | _, _ => False
theorem sr_I0 {g : Int → Int → V} (hg : ∀ i j, scV (g i j) = true) : SR f (rI0 g) (gI0 g) := ⟨fun {L W e σ Hz H x y d1 d2 Post Q} r1 r2 s h k => by
  unfold gI0 at h
  split at h
  · cases r1
    cases r2
    exact ⟨_, _, rfl, rfl, k _ _ _ _ h same_refl s (dp_sc (hg _ _))⟩
  · exact h.elim⟩
def gEq (d1 d2 : PyData) (P : Vl → Prop) : Prop := SeqAt.shaped d1 = true ∧ SeqAt.shaped d2 = true ∧ P (.dat (.bool (PyData.eqv d1 d2)))
def gNe (d1 d2 : PyData) (P : Vl → Prop) : Prop := SeqAt.shaped d1 = true ∧ SeqAt.shaped d2 = true ∧ P (.dat (.bool (!PyData.eqv d1 d2)))
theorem sr_eqD : SR f (rEqD f.K) gEq := ⟨fun r1 r2 s h k => ⟨_, _, r1.dp s.sm, r2.dp s.sm, h.1, h.2.1, k _ _ _ _ h.2.2 same_refl s (Dp.bl _)⟩⟩
theorem sr_neD : SR f (rNeD f.K) gNe := ⟨fun r1 r2 s h k => ⟨_, _, r1.dp s.sm, r2.dp s.sm, h.1, h.2.1, k _ _ _ _ h.2.2 same_refl s (Dp.bl _)⟩⟩
/-- in, not in, of a list -/
def gInD (neg : Bool) (d1 d2 : PyData) (P : Vl → Prop) : Prop := match d2 with
  | .list ds => SeqAt.shaped d1 = true ∧ SeqAt.shaped (.list ds) = true ∧ P (.dat (.bool (if neg then !(ds.any fun z => PyData.eqv z d1) else ds.any fun z => PyData.eqv z d1)))
  | _ => False
theorem sr_inD : SR f (rInD f.K) (gInD false) := ⟨fun {L W e σ Hz H x y d1 d2 Post Q} r1 r2 s h k => by
  unfold gInD at h
  split at h
  · exact ⟨_, _, r1.dp s.sm, Rep.dp s.sm r2, h.1, h.2.1, k _ _ _ _ h.2.2 same_refl s (Dp.bl _)⟩
  · exact h.elim⟩
theorem sr_notInD : SR f (rNotInD f.K) (gInD true) := ⟨fun {L W e σ Hz H x y d1 d2 Post Q} r1 r2 s h k => by
  unfold gInD at h
  split at h
  · exact ⟨_, _, r1.dp s.sm, Rep.dp s.sm r2, h.1, h.2.1, k _ _ _ _ h.2.2 same_refl s (Dp.bl _)⟩
  · exact h.elim⟩
/-- flat data: in, not in, of a list or a tuple of such -/
def flatD : PyData → Bool
  | .none | .bool _ | .int _ | .str _ => true
  | _ => false
def dV : PyData → V
  | .none => .non
  | .bool b => .bl b
  | .int i => .int i
  | .str x => .str x
  | _ => .non
theorem flat_dp {K : PySem.W.Frag} {Hz : Hp} {v : V} {d : PyData} (h : Dp K Hz v d) (hf : flatD d = true) : v = dV d ∧ flatV v = true := by
  cases h with
  | non => exact ⟨rfl, rfl⟩
  | bl b => exact ⟨rfl, rfl⟩
  | int i => exact ⟨rfl, rfl⟩
  | str x => exact ⟨rfl, rfl⟩
  | _ => cases hf
theorem flat_dps {K : PySem.W.Frag} {Hz : Hp} : ∀ {ds : List PyData} {vs : List V}, DpAll K Hz vs ds → ds.all flatD = true → vs = ds.map dV ∧ vs.all flatV = true
  | [], _, .nil, _ => ⟨rfl, rfl⟩
  | d :: ds, _, .cons h1 h2, hf => by
    rw [List.all_cons, Bool.and_eq_true] at hf
    obtain ⟨e1, f1⟩ := flat_dp h1 hf.1
    obtain ⟨e2, f2⟩ := flat_dps h2 hf.2
    exact ⟨by rw [e1, e2]; rfl, by rw [List.all_cons, f1, f2]; rfl⟩
def gIn (neg : Bool) (d1 d2 : PyData) (P : Vl → Prop) : Prop := match d2 with
  | .list ds => flatD d1 = true ∧ ds.all flatD = true ∧ P (.dat (.bool (if neg then !inV (dV d1) (ds.map dV) else inV (dV d1) (ds.map dV))))
  | .tuple ds => flatD d1 = true ∧ ds.all flatD = true ∧ P (.dat (.bool (if neg then !inV (dV d1) (ds.map dV) else inV (dV d1) (ds.map dV))))
  | _ => False
theorem rep_flat {K : PySem.W.Frag} {Hz H : Hp} {v : V} {d : PyData} (h : Rep K Hz H v d) (hf : flatD d = true) : Dp K Hz v d := by
  cases d with
  | list ds => cases hf
  | _ => exact h
theorem sr_in {neg : Bool} : SR f (rIn f.K neg) (gIn neg) := ⟨fun {L W e σ Hz H x y d1 d2 Post Q} r1 r2 s h k => by
  unfold gIn at h
  split at h
  · obtain ⟨h1, h2, h3⟩ := h
    obtain ⟨a, xs, rfl, q1, q2⟩ := r2
    obtain ⟨e1, f1⟩ := flat_dp (rep_flat r1 h1) h1
    obtain ⟨e2, f2⟩ := flat_dps q2 h2
    subst e1 e2
    exact ⟨a, _, rfl, .inl q1, f1, f2, k _ _ _ _ h3 same_refl s (Dp.bl _)⟩
  · obtain ⟨h1, h2, h3⟩ := h
    obtain ⟨a, xs, rfl, q1, q2⟩ := dp_tup r2
    obtain ⟨e1, f1⟩ := flat_dp (rep_flat r1 h1) h1
    obtain ⟨e2, f2⟩ := flat_dps q2 h2
    subst e1 e2
    exact ⟨a, _, rfl, .inr (sqT s.sm q1), f1, f2, k _ _ _ _ h3 same_refl s (Dp.bl _)⟩
  · exact h.elim⟩
/-- xs[i] -/
theorem dps_atI {K : PySem.W.Frag} {Hz : Hp} {ds : List PyData} {xs : List V} {i : Int} {d : PyData} (h : DpAll K Hz xs ds) (e : atI ds i = some d) : ∃ x, atI xs i = some x ∧ Dp K Hz x d := by
  unfold atI at e ⊢
  rw [← dps_len h] at e
  cases c : ixN xs.length i with
  | none => rw [c] at e; cases e
  | some j =>
    rw [c] at e
    exact dps_get h j d e
def gIx (d1 d2 : PyData) (P : Vl → Prop) : Prop := match d1, d2 with
  | .list ds, .int i => ob1 (atI ds i) fun d => P (.dat d)
  | .tuple ds, .int i => ob1 (atI ds i) fun d => P (.dat d)
  | _, _ => False
def gIxL (d1 d2 : PyData) (P : Vl → Prop) : Prop := match d1, d2 with
  | .list ds, .int i => ob1 (atI ds i) fun d => P (.dat d)
  | _, _ => False
def gIxT (d1 d2 : PyData) (P : Vl → Prop) : Prop := match d1, d2 with
  | .tuple ds, .int i => ob1 (atI ds i) fun d => P (.dat d)
  | _, _ => False
theorem sr_ixL : SR f (rIxL f.K) gIxL := ⟨fun {L W e σ Hz H x y d1 d2 Post Q} r1 r2 s h k => by
  unfold gIxL at h
  split at h
  · obtain ⟨d, c, h⟩ := ob1_ex h
    obtain ⟨a, xs, rfl, q1, q2⟩ := r1
    cases r2
    obtain ⟨x, e1, e2⟩ := dps_atI q2 c
    exact ⟨a, xs, _, x, rfl, rfl, q1, e1, k _ _ _ _ h same_refl s e2⟩
  · exact h.elim⟩
theorem sr_ixT : SR f (rIxT f.K) gIxT := ⟨fun {L W e σ Hz H x y d1 d2 Post Q} r1 r2 s h k => by
  unfold gIxT at h
  split at h
  · obtain ⟨d, c, h⟩ := ob1_ex h
    obtain ⟨a, xs, rfl, q1, q2⟩ := dp_tup r1
    cases r2
    obtain ⟨x, e1, e2⟩ := dps_atI q2 c
    exact ⟨a, xs, _, x, rfl, rfl, sqT s.sm q1, e1, k _ _ _ _ h same_refl s e2⟩
  · exact h.elim⟩
theorem sr_ix : SR f (rIx f.K) gIx := ⟨fun {L W e σ Hz H x y d1 d2 Post Q} r1 r2 s h k => by
  unfold gIx at h
  split at h
  · exact .inl (sr_ixL.run r1 r2 s h k)
  · exact .inr (.inl (sr_ixT.run r1 r2 s h k))
  · exact h.elim⟩
def gIxS (d1 d2 : PyData) (P : Vl → Prop) : Prop := match d1, d2 with
  | .str z, .int i => z.length ≤ sizeLine ∧ ob1 (atI z.cps.toList i) fun c => P (.dat (.str ⟨#[c]⟩))
  | _, _ => False
theorem sr_ixS : SR f rIxS gIxS := ⟨fun {L W e σ Hz H x y d1 d2 Post Q} r1 r2 s h k => by
  unfold gIxS at h
  split at h
  · obtain ⟨h1, h⟩ := h
    obtain ⟨d, c, h⟩ := ob1_ex h
    cases r1
    cases r2
    exact ⟨_, _, _, rfl, rfl, h1, c, k _ _ _ _ h same_refl s (Dp.str _)⟩
  · exact h.elim⟩
/-- is None -/
def isNone : PyData → Bool
  | .none => true
  | _ => false
theorem rep_none {K : PySem.W.Frag} {Hz H : Hp} {v : V} {d : PyData} (h : Rep K Hz H v d) : decide (v = .non) = isNone d := by
  cases d with
  | list ds => obtain ⟨a, xs, rfl, _⟩ := h; rfl
  | none => cases h; rfl
  | bool b => cases h; rfl
  | int b => cases h; rfl
  | str b => cases h; rfl
  | tuple ds => obtain ⟨a, xs, rfl, _⟩ := dp_tup h; rfl
  | dict ds => cases h
def gIsN (neg : Bool) (d1 d2 : PyData) (P : Vl → Prop) : Prop := match d2 with
  | .none => P (.dat (.bool (if neg then !isNone d1 else isNone d1)))
  | _ => False
theorem sr_isN : SR f (fun x y H Q => y = .non ∧ Q (.bl (decide (x = .non))) H) (gIsN false) := ⟨fun {L W e σ Hz H x y d1 d2 Post Q} r1 r2 s h k => by
  unfold gIsN at h
  split at h
  · cases r2
    rw [rep_none r1]
    exact ⟨rfl, k _ _ _ _ h same_refl s (Dp.bl _)⟩
  · exact h.elim⟩
theorem sr_notN : SR f (fun x y H Q => y = .non ∧ Q (.bl (!decide (x = .non))) H) (gIsN true) := ⟨fun {L W e σ Hz H x y d1 d2 Post Q} r1 r2 s h k => by
  unfold gIsN at h
  split at h
  · cases r2
    rw [rep_none r1]
    exact ⟨rfl, k _ _ _ _ h same_refl s (Dp.bl _)⟩
  · exact h.elim⟩
/-- sums of lists, of tuples -/
def gCat (d1 d2 : PyData) (P : Vl → Prop) : Prop := match d1, d2 with
  | .list ds, .list es => ds.length + es.length ≤ sizeLine ∧ P (.ob (.lst (ds ++ es)))
  | _, _ => False
def gCatT (d1 d2 : PyData) (P : Vl → Prop) : Prop := match d1, d2 with
  | .tuple ds, .tuple es => ds.length + es.length ≤ sizeLine ∧ P (.dat (.tuple (ds ++ es)))
  | _, _ => False
theorem sr_catA : SR f (rCatA f.K) gCatT := ⟨fun {L W e σ Hz H x y d1 d2 Post Q} r1 r2 s h k => by
  unfold gCatT at h
  split at h
  · obtain ⟨a, xs, rfl, q1, q2⟩ := dp_tup r1
    obtain ⟨b, ys, rfl, q3, q4⟩ := dp_tup r2
    have hd := dps_app q2 q4
    refine ⟨a, b, xs, ys, rfl, rfl, sqT s.sm q1, sqT s.sm q3, by rw [dps_len q2, dps_len q4]; exact h.1, fun e => ?_, fun _ e => ?_, fun _ _ p hp => ?_⟩
    · subst e
      exact k _ _ _ _ h.2 same_refl s (Dp.tup q3 hd)
    · subst e
      rw [List.append_nil] at hd
      exact k _ _ _ _ h.2 same_refl s (Dp.tup q1 hd)
    · have s1 := same_new (s.hz hp) (.tup (xs ++ ys))
      exact k _ _ _ _ h.2 s1 (s.newT hp) (Dp.tup (SqT.of upd_same) (dps_mono s1 _ _ hd))
  · exact h.elim⟩
/-- r on lists both of which are tracked: + -/
theorem rep_trk {K : PySem.W.Frag} {Hz H : Hp} {v : V} {ds : List PyData} (h : Rep K Hz H v (.list ds)) : ∃ a xs, v = .ref a ∧ SqL K H a xs ∧ DpAll K Hz xs ds := h
end
/-! ### tests -/
section
variable {f : Fr} {t u : TT} {ta tb tc : TE} {T U : WT} {Ea Eb Ec : WE} {r r' : R2} {g g' : W2}
def bK (P : Bool → En → Prop) (b : Vl) (e1 : En) : Prop := match b with
  | .dat (.bool c) => P c e1
  | _ => False
theorem bK_bool {P : Bool → En → Prop} {c : Bool} {e1 : En} : bK P (.dat (.bool c)) e1 = P c e1 := rfl
def wB (E : WE) (e : En) (P : Bool → En → Prop) : Prop := E e (bK P)
theorem val_bool {f : Fr} {v : V} {σ : St} {Hz : Hp} {c : Bool} (h : Val f (.dat (.bool c)) v σ Hz) : v = .bl c := by
  cases h
  rfl
theorem st_B (h : SE f ta Ea) : ST f (tB ta) (wB Ea) := ⟨fun {L W e σ Hz H Post Q} w y k => h.run w y fun b e1 v Hz1 H1 h1 s1 y1 l1 => by
  try unfold bK at h1
  split at h1
  · obtain rfl := val_bool l1
    exact ⟨_, rfl, k _ _ _ _ h1 s1 y1⟩
  · exact h1.elim⟩
theorem st_test (h : SE f ta Ea) : ST f (tTest ta) (wB Ea) := ⟨fun {L W e σ Hz H Post Q} w y k => h.run w y fun b e1 v Hz1 H1 h1 s1 y1 l1 => by
  try unfold bK at h1
  split at h1
  · obtain rfl := val_bool l1
    exact ⟨_, rfl, k _ _ _ _ h1 s1 y1⟩
  · exact h1.elim⟩
def wAnd (T U : WT) (e : En) (P : Bool → En → Prop) : Prop := T e fun c e1 => if c = true then U e1 P else P false e1
def wOr (T U : WT) (e : En) (P : Bool → En → Prop) : Prop := T e fun c e1 => if c = true then P true e1 else U e1 P
def wNot (T : WT) (e : En) (P : Bool → En → Prop) : Prop := T e fun c e1 => P (!c) e1
theorem st_and (h1 : ST f t T) (h2 : ST f u U) : ST f (tAnd t u) (wAnd T U) := ⟨fun {L W e σ Hz H Post Q} w y k => h1.run w y fun b e1 Hz1 H1 w1 s1 y1 => by
  by_cases c : b = true
  · rw [if_pos c] at w1 ⊢
    exact h2.run w1 y1 fun b2 e2 Hz2 H2 w2 s2 y2 => k _ _ _ _ w2 (same_trans s1 s2) y2
  · rw [if_neg c] at w1 ⊢
    exact k _ _ _ _ w1 s1 y1⟩
theorem st_or (h1 : ST f t T) (h2 : ST f u U) : ST f (tOr t u) (wOr T U) := ⟨fun {L W e σ Hz H Post Q} w y k => h1.run w y fun b e1 Hz1 H1 w1 s1 y1 => by
  by_cases c : b = true
  · rw [if_pos c] at w1 ⊢
    exact k _ _ _ _ w1 s1 y1
  · rw [if_neg c] at w1 ⊢
    exact h2.run w1 y1 fun b2 e2 Hz2 H2 w2 s2 y2 => k _ _ _ _ w2 (same_trans s1 s2) y2⟩
theorem st_not (h1 : ST f t T) : ST f (tNot t) (wNot T) := ⟨fun {L W e σ Hz H Post Q} w y k => h1.run w y fun b e1 Hz1 H1 w1 s1 y1 => k _ _ _ _ w1 s1 y1⟩
def wYes (e : En) (P : Bool → En → Prop) : Prop := P true e
theorem st_yes : ST f tYes wYes := ⟨fun {L W e σ Hz H Post Q} w y k => k _ _ _ _ w same_refl y⟩
/-- truth of any value -/
def truD : PyData → Option Bool
  | .none => some false
  | .bool b => some b
  | .int i => some (i != 0)
  | .list ds => some (!ds.isEmpty)
  | .tuple ds => some (!ds.isEmpty)
  | _ => none
theorem tru_rep {K : PySem.W.Frag} {Hz H : Hp} {v : V} {d : PyData} {k : Bool} (s : Same Hz H) (h : Rep K Hz H v d) (e : truD d = some k) : TruV K v H k := by
  cases d with
  | none => cases h; cases e; rfl
  | bool b => cases h; cases e; rfl
  | int i => cases h; cases e; rfl
  | str x => cases e
  | dict _ => cases e
  | list ds =>
    obtain ⟨a, xs, rfl, h1, h2⟩ := h
    refine .inl ⟨xs, h1, ?_⟩
    cases e
    cases h2 <;> rfl
  | tuple ds =>
    obtain ⟨a, xs, rfl, h1, h2⟩ := dp_tup h
    refine .inr (.inl ⟨xs, sqT s h1, ?_⟩)
    cases e
    cases h2 <;> rfl
def wTru (E : WE) (e : En) (P : Bool → En → Prop) : Prop := E e fun b e1 => ob1 (cont b e1) fun d => ob1 (truD d) fun c => P c e1
theorem st_tru (h : SE f ta Ea) : ST f (fun σ H Q => ta σ H fun x H' => ∃ k, TruV f.K x H' k ∧ Q k H') (wTru Ea) := ⟨fun {L W e σ Hz H Post Q} w y k => h.run w y fun b e1 v Hz1 H1 h1 s1 y1 l1 => by
  obtain ⟨d, c1, h1⟩ := ob1_ex h1
  obtain ⟨c, c2, h1⟩ := ob1_ex h1
  exact ⟨c, tru_rep y1.sm (y1.cont l1 c1) c2, k _ _ _ _ h1 s1 y1.un⟩⟩
def wNotT (E : WE) (e : En) (P : Vl → En → Prop) : Prop := wTru E e fun c e1 => P (.dat (.bool (!c))) e1
theorem se_notT (h : SE f ta Ea) : SE f (tNotT f.K ta) (wNotT Ea) := ⟨fun {L W e σ Hz H Post Q} w y k => h.run w y fun b e1 v Hz1 H1 h1 s1 y1 l1 => by
  obtain ⟨d, c1, h1⟩ := ob1_ex h1
  obtain ⟨c, c2, h1⟩ := ob1_ex h1
  exact ⟨c, tru_rep y1.sm (y1.cont l1 c1) c2, k _ _ _ _ _ h1 s1 y1.un (Dp.bl _)⟩⟩
/-- and, or, not of bools as values -/
def wAndV (Ea Eb : WE) (e : En) (P : Vl → En → Prop) : Prop := wB Ea e fun c e1 => if c = true then Eb e1 P else P (.dat (.bool false)) e1
def wOrV (Ea Eb : WE) (e : En) (P : Vl → En → Prop) : Prop := wB Ea e fun c e1 => if c = true then P (.dat (.bool true)) e1 else Eb e1 P
theorem se_andV (ha : SE f ta Ea) (hb : SE f tb Eb) : SE f (tAndV ta tb) (wAndV Ea Eb) := ⟨fun {L W e σ Hz H Post Q} w y k => ha.run w y fun b e1 v Hz1 H1 h1 s1 y1 l1 => by
  try unfold bK at h1
  split at h1
  · obtain rfl := val_bool l1
    refine ⟨_, rfl, ?_⟩
    rename_i c
    by_cases c1 : c = true
    · rw [if_pos c1] at h1 ⊢
      exact hb.run h1 y1 fun b2 e2 v2 Hz2 H2 h2 s2 y2 l2 => k _ _ _ _ _ h2 (same_trans s1 s2) y2 l2
    · rw [if_neg c1] at h1 ⊢
      exact k _ _ _ _ _ h1 s1 y1 (Dp.bl _)
  · exact h1.elim⟩
theorem se_orV (ha : SE f ta Ea) (hb : SE f tb Eb) : SE f (tOrV ta tb) (wOrV Ea Eb) := ⟨fun {L W e σ Hz H Post Q} w y k => ha.run w y fun b e1 v Hz1 H1 h1 s1 y1 l1 => by
  try unfold bK at h1
  split at h1
  · obtain rfl := val_bool l1
    refine ⟨_, rfl, ?_⟩
    rename_i c
    by_cases c1 : c = true
    · rw [if_pos c1] at h1 ⊢
      exact k _ _ _ _ _ h1 s1 y1 (Dp.bl _)
    · rw [if_neg c1] at h1 ⊢
      exact hb.run h1 y1 fun b2 e2 v2 Hz2 H2 h2 s2 y2 l2 => k _ _ _ _ _ h2 (same_trans s1 s2) y2 l2
  · exact h1.elim⟩
def wNotV (E : WE) (e : En) (P : Vl → En → Prop) : Prop := wB E e fun c e1 => P (.dat (.bool (!c))) e1
theorem se_notV (ha : SE f ta Ea) : SE f (tNotV ta) (wNotV Ea) := ⟨fun {L W e σ Hz H Post Q} w y k => ha.run w y fun b e1 v Hz1 H1 h1 s1 y1 l1 => by
  try unfold bK at h1
  split at h1
  · obtain rfl := val_bool l1
    exact ⟨_, rfl, k _ _ _ _ _ h1 s1 y1 (Dp.bl _)⟩
  · exact h1.elim⟩
def wIf (T : WT) (Ea Eb : WE) (e : En) (P : Vl → En → Prop) : Prop := T e fun c e1 => if c = true then Ea e1 P else Eb e1 P
theorem se_if (ht : ST f t T) (ha : SE f ta Ea) (hb : SE f tb Eb) : SE f (tIf t ta tb) (wIf T Ea Eb) := ⟨fun {L W e σ Hz H Post Q} w y k => ht.run w y fun b e1 Hz1 H1 h1 s1 y1 => by
  by_cases c : b = true
  · rw [if_pos c] at h1 ⊢
    exact ha.run h1 y1 fun b2 e2 v2 Hz2 H2 h2 s2 y2 l2 => k _ _ _ _ _ h2 (same_trans s1 s2) y2 l2
  · rw [if_neg c] at h1 ⊢
    exact hb.run h1 y1 fun b2 e2 v2 Hz2 H2 h2 s2 y2 l2 => k _ _ _ _ _ h2 (same_trans s1 s2) y2 l2⟩
/-- a op b op c -/
def chK (A B : Prop) : Vl → Prop
  | .dat (.bool c) => if c = true then A else B
  | _ => False
theorem chK_bool {A B : Prop} {c : Bool} : chK A B (.dat (.bool c)) = if c = true then A else B := rfl
def wChain (g g' : W2) (Ea Eb Ec : WE) (e : En) (P : Vl → En → Prop) : Prop := Ea e fun b1 e1 => Eb e1 fun b2 e2 => ob1 (cont b1 e2) fun d1 => ob1 (cont b2 e2) fun d2 => g d1 d2 (chK (Ec e2 fun b3 e3 => ob1 (cont b2 e3) fun d2 => ob1 (cont b3 e3) fun d3 => g' d2 d3 fun b => P b e3) (P (.dat (.bool false)) e2))
theorem se_chain (hr : SR f r g) (hr' : SR f r' g') (ha : SE f ta Ea) (hb : SE f tb Eb) (hc : SE f tc Ec) : SE f (tChain r r' ta tb tc) (wChain g g' Ea Eb Ec) := ⟨fun {L W e σ Hz H Post Q} h y k => by
  refine ha.run h y fun b1 e1 v1 Hz1 H1 h1 s1 y1 l1 => ?_
  refine hb.run h1 y1 fun b2 e2 v2 Hz2 H2 h2 s2 y2 l2 => ?_
  obtain ⟨d1, c1, h2⟩ := ob1_ex h2
  obtain ⟨d2, c2, h2⟩ := ob1_ex h2
  refine hr.run (y2.un.cont (l1.mono s2) c1) (y2.cont l2 c2) y2 h2 fun b v Hz3 H3 h3 s3 y3 l3 => ?_
  unfold chK at h3
  split at h3
  · rename_i c
    obtain rfl := val_bool l3
    cases c
    · refine ⟨false, rfl, ?_⟩
      rw [if_neg (by decide)] at h3 ⊢
      exact k _ _ _ _ _ h3 (same_trans s1 (same_trans s2 s3)) (Sy.un (b := b1) (Sy.un (b := b2) y3)) (Dp.bl _)
    refine ⟨true, rfl, ?_⟩
    rw [if_pos rfl] at h3 ⊢
    refine hc.run h3 y3 fun b4 e4 v4 Hz4 H4 h4 s4 y4 l4 => ?_
    obtain ⟨d2', c2', h4⟩ := ob1_ex h4
    obtain ⟨d4, c4, h4⟩ := ob1_ex h4
    exact hr'.run ((Sy.un (b := b4) y4).cont (b := b2) (l2.mono (same_trans s3 s4)) c2') (y4.cont l4 c4) (Sy.un (b := b1) (Sy.un (b := b2) (Sy.un (b := b4) y4))) h4 fun b v Hz' H' h5 s5 y5 l5 => k _ _ _ _ _ h5 (same_trans s1 (same_trans s2 (same_trans s3 (same_trans s4 s5)))) y5 l5
  · exact h3.elim⟩
def unK (g : Int → V) (P : Vl → En → Prop) (b : Vl) (e1 : En) : Prop := match b with
  | .dat (.int i) => P (.dat (vD (g i))) e1
  | _ => False
theorem unK_int {g : Int → V} {P : Vl → En → Prop} {i : Int} {e1 : En} : unK g P (.dat (.int i)) e1 = P (.dat (vD (g i))) e1 := rfl
def wUn (g : Int → V) (E : WE) (e : En) (P : Vl → En → Prop) : Prop := E e (unK g P)
theorem se_un {g : Int → V} (hg : ∀ i, scV (g i) = true) (ha : SE f ta Ea) : SE f (tUn (rU g) ta) (wUn g Ea) := ⟨fun {L W e σ Hz H Post Q} w y k => ha.run w y fun b e1 v Hz1 H1 h1 s1 y1 l1 => by
  unfold unK at h1
  split at h1
  · cases l1
    exact ⟨_, rfl, k _ _ _ _ _ h1 s1 y1 (dp_sc (hg _))⟩
  · exact h1.elim⟩
end
end DL


set_option Elab.async false
set_option linter.all false
set_option maxRecDepth 100000
set_option maxHeartbeats 4000000
/-! Argument lists, displays, calls of built-ins, stores, statements, loops over the layer of values. -/
namespace DL
open PySem L2 TG
section
variable {f : Fr} {L e : En} {W σ : St} {Hz H : Hp}
theorem set_self_some {α : Type} {l : List α} {i : Nat} {x : α} (h : l[i]? = some x) : l.set i x = l := by
  apply List.ext_getElem?
  intro n
  by_cases hn : i = n
  · subst hn
    rw [List.getElem?_set_self (List.getElem?_eq_some_iff.mp h).1, h]
  · rw [List.getElem?_set_ne hn]
/-- the list of a slot is fixed -/
theorem Sy.frzS {i : Nat} {v : V} {ds : List PyData} (y : Sy f L W e σ Hz H) (q : e[i]? = some (some (.ob none (.lst ds)))) (ev : σ[i]? = some (some v)) :
    ∃ Hz', Sy f L W (e.set i (some (.dat (.list ds)))) σ Hz' H ∧ Same Hz Hz' ∧ Dp f.K Hz' v (.list ds) := by
  obtain ⟨Hz', y1, s1, d1⟩ := (y.mv q ev).frz
  have y2 := y1.setD (i := i) d1 (by rw [List.length_set]; exact (List.getElem?_eq_some_iff.mp q).1)
  rw [List.set_set, set_self_some ev] at y2
  exact ⟨Hz', y2, s1, d1⟩
end
/-- a value as fixed data -/
def fzS (P : PyData → En → Prop) (i : Nat) (e1 : En) : Option (Option B) → Prop
  | some (some (.dat d)) => P d e1
  | some (some (.ob none (.lst ds))) => P (.list ds) (e1.set i (some (.dat (.list ds))))
  | _ => False
def fzK (P : PyData → En → Prop) (b : Vl) (e1 : En) : Prop := match b with
  | .dat d => P d e1
  | .ob (.lst ds) => P (.list ds) e1
  | .own i => fzS P i e1 e1[i]?
  | _ => False
def wFz (E : WE) (e : En) (P : PyData → En → Prop) : Prop := E e (fzK P)
section
variable {P : PyData → En → Prop} {e1 : En}
theorem fzK_dat {d : PyData} : fzK P (.dat d) e1 = P d e1 := rfl
theorem fzK_lst {ds : List PyData} : fzK P (.ob (.lst ds)) e1 = P (.list ds) e1 := rfl
theorem fzK_own {i : Nat} : fzK P (.own i) e1 = fzS P i e1 e1[i]? := rfl
theorem fzS_dat {i : Nat} {d : PyData} : fzS P i e1 (some (some (.dat d))) = P d e1 := rfl
theorem fzS_lst {i : Nat} {ds : List PyData} : fzS P i e1 (some (some (.ob none (.lst ds)))) = P (.list ds) (e1.set i (some (.dat (.list ds)))) := rfl
end
section
variable {f : Fr} {ta tb te : TE} {Ea Eb E : WE}
theorem fz_run (h : SE f te E) {L W e σ Hz H Post Q} (w : wFz E e Post) (y : Sy f L W e σ Hz H) (k : ∀ d e' v Hz' H', Post d e' → Same Hz Hz' → Sy f L W e' σ Hz' H' → Dp f.K Hz' v d → Q v H') : te σ H Q := by
  refine h.run w y fun b e1 v Hz1 H1 h1 s1 y1 l1 => ?_
  cases b with
  | dat d => exact k _ _ _ _ _ h1 s1 y1 l1
  | ob o =>
    cases o with
    | lst ds =>
      obtain ⟨Hz2, y2, s2, d2⟩ := Sy.frz y1
      exact k _ _ _ _ _ h1 (same_trans s1 s2) y2 d2
    | _ => exact h1.elim
  | own i =>
    rw [fzK_own] at h1
    generalize q : e1[i]? = x at h1
    unfold fzS at h1
    split at h1
    · obtain ⟨v', e1', e2⟩ := Sy.get (L := L) (W := W) y1 q
      have hv' : σ[i]? = some (some v) := l1
      rw [hv'] at e1'
      cases e1'
      exact k _ _ _ _ _ h1 s1 y1 e2
    · obtain ⟨Hz2, y2, s2, d2⟩ := Sy.frzS (L := L) (W := W) y1 q l1
      exact k _ _ _ _ _ h1 (same_trans s1 s2) y2 d2
    · exact h1.elim
def wNil (e : En) (P : List PyData → En → Prop) : Prop := P [] e
def wCons (E : WE) (A : WA) (e : En) (P : List PyData → En → Prop) : Prop := wFz E e fun d e1 => A e1 fun ds e2 => P (d :: ds) e2
theorem sa_nil : SA f tNil wNil := ⟨fun {L W e σ Hz H Post Q} w y k => k _ _ _ _ _ w same_refl y .nil⟩
theorem sa_cons {tr : TA} {A : WA} (h : SE f te E) (hr : SA f tr A) : SA f (tCons te tr) (wCons E A) := ⟨fun {L W e σ Hz H Post Q} w y k => fz_run h w y fun d e1 v Hz1 H1 h1 s1 y1 d1 =>
  hr.run h1 y1 fun ds e2 vs Hz2 H2 h2 s2 y2 d2 => k _ _ _ _ _ h2 (same_trans s1 s2) y2 (.cons (dp_mono s2 _ _ d1) d2)⟩
/-- *xs -/
def wStar (E : WE) (A : WA) (e : En) (P : List PyData → En → Prop) : Prop := wFz E e fun d e1 => match d with
  | .list es => A e1 fun ds e2 => P (es ++ ds) e2
  | .tuple es => A e1 fun ds e2 => P (es ++ ds) e2
  | _ => False
theorem sa_star {tr : TA} {A : WA} (h : SE f te E) (hr : SA f tr A) : SA f (StX.tStar f.K te tr) (wStar E A) := ⟨fun {L W e σ Hz H Post Q} w y k => fz_run h w y fun d e1 v Hz1 H1 h1 s1 y1 d1 => by
  split at h1
  · cases d1 with
    | lst q1 q2 => exact ⟨_, _, rfl, .inr (sqL y1.sm q1), hr.run h1 y1 fun ds e2 vs Hz2 H2 h2 s2 y2 d2 => k _ _ _ _ _ h2 (same_trans s1 s2) y2 (dps_app (dps_mono s2 _ _ q2) d2)⟩
  · cases d1 with
    | tup q1 q2 => exact ⟨_, _, rfl, .inl (sqT y1.sm q1), hr.run h1 y1 fun ds e2 vs Hz2 H2 h2 s2 y2 d2 => k _ _ _ _ _ h2 (same_trans s1 s2) y2 (dps_app (dps_mono s2 _ _ q2) d2)⟩
  · exact h1.elim⟩
def wTup (A : WA) (e : En) (P : Vl → En → Prop) : Prop := A e fun ds e1 => ds.length ≤ 100000 ∧ P (.dat (.tuple ds)) e1
def wLst (A : WA) (e : En) (P : Vl → En → Prop) : Prop := A e fun ds e1 => ds.length ≤ 100000 ∧ P (.ob (.lst ds)) e1
theorem se_tup {ta : TA} {A : WA} (h : SA f ta A) : SE f (tTup ta) (wTup A) := ⟨fun {L W e σ Hz H Post Q} w y k => h.run w y fun ds e1 vs Hz1 H1 h1 s1 y1 d1 => ⟨Evl.sz_of (by rw [dps_len d1]; exact h1.1), fun p hp => by
  have s2 := same_new (y1.hz hp) (.tup vs)
  exact k _ _ _ _ _ h1.2 (same_trans s1 s2) (y1.newT hp) (Dp.tup (SqT.of upd_same) (dps_mono s2 _ _ d1))⟩⟩
theorem se_lst {ta : TA} {A : WA} (h : SA f ta A) : SE f (tLst ta) (wLst A) := ⟨fun {L W e σ Hz H Post Q} w y k => h.run w y fun ds e1 vs Hz1 H1 h1 s1 y1 d1 => ⟨Evl.sz_of (by rw [dps_len d1]; exact h1.1), fun p hp =>
  k _ _ _ _ _ h1.2 s1 (y1.newO (o := .lst ds) hp ⟨vs, upd_same, d1⟩) trivial⟩⟩
/-! ### calls of built-ins of one argument -/
abbrev W1 := PyData → (Vl → Prop) → Prop
structure SC (f : Fr) (r : List V → Hp → VK → Prop) (g : W1) : Prop where
  run : ∀ {L W e σ Hz H x d Post Q}, Rep f.K Hz H x d → Sy f L W e σ Hz H → g d Post →
  (∀ b v Hz' H', Post b → Same Hz Hz' → Sy f (tmp b L) (tmv b v W) e σ Hz' H' → Val f b v σ Hz' → Q v H') → r [x] H Q
def wC1 (g : W1) (E : WE) (e : En) (P : Vl → En → Prop) : Prop := E e fun b e1 => ob1 (cont b e1) fun d => g d fun b => P b e1
theorem se_cb1 {r : List V → Hp → VK → Prop} {g : W1} (hr : SC f r g) (h : SE f te E) : SE f (tCB r (tCons te tNil)) (wC1 g E) := ⟨fun {L W e σ Hz H Post Q} w y k => h.run w y fun b e1 v Hz1 H1 h1 s1 y1 l1 => by
  obtain ⟨d, c, h1⟩ := ob1_ex h1
  exact hr.run (y1.cont l1 c) y1.un h1 fun b v Hz' H' h2 s2 y2 l2 => k _ _ _ _ _ h2 (same_trans s1 s2) y2 l2⟩
theorem rep_tup {K : PySem.W.Frag} {Hz H : Hp} {v : V} {ds : List PyData} (s : Same Hz H) (h : Rep K Hz H v (.tuple ds)) : ∃ a xs, v = .ref a ∧ SqT K H a xs ∧ DpAll K Hz xs ds := by
  obtain ⟨a, xs, rfl, q1, q2⟩ := dp_tup h
  exact ⟨a, xs, rfl, sqT s q1, q2⟩
def gLen (d : PyData) (P : Vl → Prop) : Prop := match d with
  | .list ds => P (.dat (.int ds.length))
  | .tuple ds => P (.dat (.int ds.length))
  | _ => False
theorem sc_len : SC f (rLenQ f.K) gLen := ⟨fun {L W e σ Hz H x d Post Q} r s h k => by
  unfold gLen at h
  split at h
  · obtain ⟨a, xs, rfl, q1, q2⟩ := r
    refine ⟨a, xs, rfl, .inl q1, ?_⟩
    rw [dps_len q2]
    exact k _ _ _ _ h same_refl s (Dp.int _)
  · obtain ⟨a, xs, rfl, q1, q2⟩ := rep_tup s.sm r
    refine ⟨a, xs, rfl, .inr q1, ?_⟩
    rw [dps_len q2]
    exact k _ _ _ _ h same_refl s (Dp.int _)
  · exact h.elim⟩
def gTupOf (d : PyData) (P : Vl → Prop) : Prop := match d with
  | .list ds => P (.dat (.tuple ds))
  | .tuple ds => P (.dat (.tuple ds))
  | _ => False
theorem sc_tupOf : SC f (rTupOf f.K) gTupOf := ⟨fun {L W e σ Hz H x d Post Q} r s h k => by
  unfold gTupOf at h
  split at h
  · obtain ⟨a, xs, rfl, q1, q2⟩ := r
    refine ⟨a, xs, rfl, .inl ⟨q1, fun p hp => ?_⟩⟩
    have s2 := same_new (s.hz hp) (.tup xs)
    exact k _ _ _ _ h s2 (s.newT hp) (Dp.tup (SqT.of upd_same) (dps_mono s2 _ _ q2))
  · obtain ⟨a, xs, rfl, q1, q2⟩ := dp_tup r
    exact ⟨a, xs, rfl, .inr ⟨sqT s.sm q1, k _ _ _ _ h same_refl s (Dp.tup q1 q2)⟩⟩
  · exact h.elim⟩
def gListOf (d : PyData) (P : Vl → Prop) : Prop := match d with
  | .list ds => P (.ob (.lst ds))
  | .tuple ds => P (.ob (.lst ds))
  | _ => False
theorem sc_listOf : SC f (rListOf f.K) gListOf := ⟨fun {L W e σ Hz H x d Post Q} r s h k => by
  unfold gListOf at h
  split at h
  · obtain ⟨a, xs, rfl, q1, q2⟩ := r
    exact ⟨a, xs, rfl, .inl q1, fun p hp => k _ _ _ _ h same_refl (s.newO (o := .lst _) hp ⟨xs, upd_same, q2⟩) trivial⟩
  · obtain ⟨a, xs, rfl, q1, q2⟩ := rep_tup s.sm r
    exact ⟨a, xs, rfl, .inr q1, fun p hp => k _ _ _ _ h same_refl (s.newO (o := .lst _) hp ⟨xs, upd_same, q2⟩) trivial⟩
  · exact h.elim⟩
/-- data of ints, of bools -/
def intsD : List PyData → Option (List Int)
  | [] => some []
  | .int i :: ds => (intsD ds).map (i :: ·)
  | _ :: _ => none
def boolsD : List PyData → Option (List Bool)
  | [] => some []
  | .bool i :: ds => (boolsD ds).map (i :: ·)
  | _ :: _ => none
theorem intsD_map (ns : List Int) : intsD (ns.map PyData.int) = some ns := by
  induction ns with
  | nil => rfl
  | cons n ns ih => simp [intsD, ih]
theorem boolsD_map (ns : List Bool) : boolsD (ns.map PyData.bool) = some ns := by
  induction ns with
  | nil => rfl
  | cons n ns ih => simp [boolsD, ih]
theorem intsD_eq : ∀ {ds : List PyData} {ns : List Int}, intsD ds = some ns → ds = ns.map PyData.int
  | [], ns, h => by cases h; rfl
  | .int i :: ds, ns, h => by
    unfold intsD at h
    cases c : intsD ds with
    | none => rw [c] at h; cases h
    | some ms =>
      rw [c] at h
      cases h
      rw [intsD_eq c]
      rfl
  | .none :: _, _, h => by cases h
  | .bool _ :: _, _, h => by cases h
  | .str _ :: _, _, h => by cases h
  | .list _ :: _, _, h => by cases h
  | .tuple _ :: _, _, h => by cases h
  | .dict _ :: _, _, h => by cases h
theorem boolsD_eq : ∀ {ds : List PyData} {ns : List Bool}, boolsD ds = some ns → ds = ns.map PyData.bool
  | [], ns, h => by cases h; rfl
  | .bool i :: ds, ns, h => by
    unfold boolsD at h
    cases c : boolsD ds with
    | none => rw [c] at h; cases h
    | some ms =>
      rw [c] at h
      cases h
      rw [boolsD_eq c]
      rfl
  | .none :: _, _, h => by cases h
  | .int _ :: _, _, h => by cases h
  | .str _ :: _, _, h => by cases h
  | .list _ :: _, _, h => by cases h
  | .tuple _ :: _, _, h => by cases h
  | .dict _ :: _, _, h => by cases h
theorem dps_ints {K : PySem.W.Frag} {Hz : Hp} : ∀ {ns : List Int} {vs : List V}, DpAll K Hz vs (ns.map PyData.int) → vs = ns.map V.int
  | [], _, .nil => rfl
  | n :: ns, _, .cons h1 h2 => by
    cases h1
    rw [dps_ints h2]
    rfl
theorem dps_bools {K : PySem.W.Frag} {Hz : Hp} : ∀ {ns : List Bool} {vs : List V}, DpAll K Hz vs (ns.map PyData.bool) → vs = ns.map V.bl
  | [], _, .nil => rfl
  | n :: ns, _, .cons h1 h2 => by
    cases h1
    rw [dps_bools h2]
    rfl
theorem ints_dps {K : PySem.W.Frag} {Hz : Hp} : ∀ (ns : List Int), DpAll K Hz (ns.map V.int) (ns.map PyData.int)
  | [] => .nil
  | n :: ns => .cons (.int n) (ints_dps ns)
theorem rep_ints {K : PySem.W.Frag} {Hz H : Hp} {v : V} {ds : List PyData} {ns : List Int} (h : Rep K Hz H v (.list ds)) (e : intsD ds = some ns) : ∃ a, v = .ref a ∧ SqL K H a (ns.map V.int) := by
  obtain ⟨a, xs, rfl, q1, q2⟩ := h
  rw [intsD_eq e] at q2
  rw [dps_ints q2] at q1
  exact ⟨a, rfl, q1⟩
theorem rep_bools {K : PySem.W.Frag} {Hz H : Hp} {v : V} {ds : List PyData} {ns : List Bool} (h : Rep K Hz H v (.list ds)) (e : boolsD ds = some ns) : ∃ a, v = .ref a ∧ SqL K H a (ns.map V.bl) := by
  obtain ⟨a, xs, rfl, q1, q2⟩ := h
  rw [boolsD_eq e] at q2
  rw [dps_bools q2] at q1
  exact ⟨a, rfl, q1⟩
def gSum (d : PyData) (P : Vl → Prop) : Prop := match d with
  | .list ds => ob1 (intsD ds) fun ns => P (.dat (.int ns.sum))
  | _ => False
theorem sc_sum : SC f (rSum f.K) gSum := ⟨fun {L W e σ Hz H x d Post Q} r s h k => by
  unfold gSum at h
  split at h
  · obtain ⟨ns, c, h⟩ := ob1_ex h
    obtain ⟨a, rfl, q1⟩ := rep_ints r c
    exact ⟨a, ns, rfl, q1, k _ _ _ _ h same_refl s (Dp.int _)⟩
  · exact h.elim⟩
def gMax (d : PyData) (P : Vl → Prop) : Prop := match d with
  | .list ds => ob1 (intsD ds) fun ns => 0 < ns.length ∧ ∀ m, m ∈ ns → (∀ y ∈ ns, y ≤ m) → P (.dat (.int m))
  | _ => False
def gMin (d : PyData) (P : Vl → Prop) : Prop := match d with
  | .list ds => ob1 (intsD ds) fun ns => 0 < ns.length ∧ ∀ m, m ∈ ns → (∀ y ∈ ns, m ≤ y) → P (.dat (.int m))
  | _ => False
theorem sc_max : SC f (rMax f.K) gMax := ⟨fun {L W e σ Hz H x d Post Q} r s h k => by
  unfold gMax at h
  split at h
  · obtain ⟨ns, c, h⟩ := ob1_ex h
    obtain ⟨a, rfl, q1⟩ := rep_ints r c
    exact ⟨a, ns, rfl, q1, h.1, fun m h1 h2 => k _ _ _ _ (h.2 m h1 h2) same_refl s (Dp.int _)⟩
  · exact h.elim⟩
theorem sc_min : SC f (rMin f.K) gMin := ⟨fun {L W e σ Hz H x d Post Q} r s h k => by
  unfold gMin at h
  split at h
  · obtain ⟨ns, c, h⟩ := ob1_ex h
    obtain ⟨a, rfl, q1⟩ := rep_ints r c
    exact ⟨a, ns, rfl, q1, h.1, fun m h1 h2 => k _ _ _ _ (h.2 m h1 h2) same_refl s (Dp.int _)⟩
  · exact h.elim⟩
def gAll (d : PyData) (P : Vl → Prop) : Prop := match d with
  | .list ds => ob1 (boolsD ds) fun ns => P (.dat (.bool (ns.all id)))
  | _ => False
def gAny (d : PyData) (P : Vl → Prop) : Prop := match d with
  | .list ds => ob1 (boolsD ds) fun ns => P (.dat (.bool (ns.any id)))
  | _ => False
theorem sc_all : SC f (rAll f.K) gAll := ⟨fun {L W e σ Hz H x d Post Q} r s h k => by
  unfold gAll at h
  split at h
  · obtain ⟨ns, c, h⟩ := ob1_ex h
    obtain ⟨a, rfl, q1⟩ := rep_bools r c
    exact ⟨a, ns, rfl, q1, k _ _ _ _ h same_refl s (Dp.bl _)⟩
  · exact h.elim⟩
theorem sc_any : SC f (rAny f.K) gAny := ⟨fun {L W e σ Hz H x d Post Q} r s h k => by
  unfold gAny at h
  split at h
  · obtain ⟨ns, c, h⟩ := ob1_ex h
    obtain ⟨a, rfl, q1⟩ := rep_bools r c
    exact ⟨a, ns, rfl, q1, k _ _ _ _ h same_refl s (Dp.bl _)⟩
  · exact h.elim⟩
def gSorted (d : PyData) (P : Vl → Prop) : Prop := match d with
  | .list ds => ob1 (intsD ds) fun ns => ∀ ns' : List Int, ns'.Perm ns → ns'.Pairwise (· ≤ ·) → P (.ob (.lst (ns'.map PyData.int)))
  | _ => False
theorem sc_sorted : SC f (rSortedI f.K) gSorted := ⟨fun {L W e σ Hz H x d Post Q} r s h k => by
  unfold gSorted at h
  split at h
  · obtain ⟨ns, c, h⟩ := ob1_ex h
    obtain ⟨a, rfl, q1⟩ := rep_ints r c
    exact ⟨a, ns, rfl, q1, fun ns' p h1 h2 hp => k _ _ _ _ (h ns' h1 h2) same_refl (s.newO (o := .lst _) hp ⟨_, upd_same, ints_dps ns'⟩) trivial⟩
  · exact h.elim⟩
/-- sorted(set(xs)), xs a list of ints -/
def gSortSet (d : PyData) (P : Vl → Prop) : Prop := match d with
  | .list ds => ob1 (intsD ds) fun ns => ns.length < 64 ∧ ∀ ns' : List Int, ns'.Pairwise (· < ·) → (∀ k, k ∈ ns' ↔ k ∈ ns) → P (.ob (.lst (ns'.map PyData.int)))
  | _ => False
theorem se_sortSet {w : World} (h : SE f te E) : SE f (tCB (rSortedSet w) (tCons (tCB (rSetI f.K w) (tCons te tNil)) tNil)) (wC1 gSortSet E) := ⟨fun {L W e σ Hz H Post Q} wp y k => h.run wp y fun b e1 v Hz1 H1 h1 s1 y1 l1 => by
  obtain ⟨d, c, h1⟩ := ob1_ex h1
  have r := y1.cont l1 c
  unfold gSortSet at h1
  split at h1
  · obtain ⟨ns, c, h1⟩ := ob1_ex h1
    obtain ⟨a, rfl, q1⟩ := rep_ints r c
    refine ⟨a, ns, rfl, q1, by omega, fun p n hp hn => ?_⟩
    have y2 := y1.un.newT (u := SetO w p (fun j => decide (j ∈ ns)) n) hp
    have s2 := same_new (y1.un.hz hp) (SetO w p (fun j => decide (j ∈ ns)) n)
    refine ⟨p, _, n, rfl, upd_same, by omega, fun ns' q h3 h4 h5 hq => ?_⟩
    exact k _ _ _ _ _ (h1.2 ns' h3 (fun k => by rw [h4 k]; exact decide_eq_true_iff)) (same_trans s1 s2) (y2.newO (o := .lst _) hq ⟨_, upd_same, ints_dps ns'⟩) trivial
  · exact h1.elim⟩
def gInt (d : PyData) (P : Vl → Prop) : Prop := match d with
  | .int i => P (.dat (.int i))
  | .bool b => P (.dat (.int (if b then 1 else 0)))
  | _ => False
theorem sc_int : SC f (fun xs H Q => (∃ i, xs = [.int i] ∧ Q (.int i) H) ∨ ∃ k, xs = [.bl k] ∧ Q (.int (if k then 1 else 0)) H) gInt := ⟨fun {L W e σ Hz H x d Post Q} r s h k => by
  unfold gInt at h
  split at h
  · cases r
    exact .inl ⟨_, rfl, k _ _ _ _ h same_refl s (Dp.int _)⟩
  · cases r
    exact .inr ⟨_, rfl, k _ _ _ _ h same_refl s (Dp.int _)⟩
  · exact h.elim⟩
def gAbs (d : PyData) (P : Vl → Prop) : Prop := match d with
  | .int i => P (.dat (.int (if i < 0 then -i else i)))
  | _ => False
theorem sc_abs : SC f (fun xs H Q => ∃ i, xs = [.int i] ∧ Q (.int (if i < 0 then -i else i)) H) gAbs := ⟨fun {L W e σ Hz H x d Post Q} r s h k => by
  unfold gAbs at h
  split at h
  · cases r
    exact ⟨_, rfl, k _ _ _ _ h same_refl s (Dp.int _)⟩
  · exact h.elim⟩
end
theorem Rep.mono {K : PySem.W.Frag} {Hz Hz' H H' : Hp} {v : V} {d : PyData} (h : Rep K Hz H v d) (s : Same Hz Hz') (sH : Same H H') : Rep K Hz' H' v d := by
  cases d with
  | list ds =>
    obtain ⟨a, xs, rfl, h1, h2⟩ := h
    exact ⟨a, xs, rfl, sqL sH h1, dps_mono s _ _ h2⟩
  | _ => exact dp_mono s _ _ h
/-! ### isinstance -/
def tyD : PyData → String
  | .none => "NoneType"
  | .bool _ => "bool"
  | .int _ => "int"
  | .str _ => "str"
  | .list _ => "list"
  | .tuple _ => "tuple"
  | .dict _ => "dict"
theorem rep_ty {K : PySem.W.Frag} {Hz H : Hp} {v : V} {d : PyData} (s : Same Hz H) (h : Rep K Hz H v d) : TyX K H v (.type (tyD d)) := by
  cases d with
  | none => cases h; exact .base .non
  | bool b => cases h; exact .base (.bl b)
  | int i => cases h; exact .base (.int i)
  | str x => cases h; exact .base (.str x)
  | dict _ => cases h
  | tuple ds =>
    obtain ⟨a, xs, rfl, (q | ⟨o, q⟩) | ⟨o, its, n, q, hc, _⟩, _⟩ := rep_tup s h
    · exact .base (.tup q)
    · exact .fTuple q
    · exact .kTuple q hc
  | list ds =>
    obtain ⟨a, xs, rfl, (q | ⟨o, q⟩) | ⟨o, its, n, q, hc, _⟩, _⟩ := h
    · exact .base (.lst q)
    · exact .base (.frz q)
    · exact .kList q hc
def isT (t c : String) : Bool := t == c || (t == "bool" && c == "int")
def goodT (c : String) : Bool := c == "tuple" || c == "list" || c == "int" || c == "bool" || c == "str" || c == "dict"
theorem tyD_is (d : PyData) : tyD d = "NoneType" ∨ tyD d = "bool" ∨ tyD d = "int" ∨ tyD d = "str" ∨ tyD d = "list" ∨ tyD d = "tuple" ∨ tyD d = "dict" := by
  cases d <;> simp [tyD]
theorem kit_is {d : PyData} {c : String} (h : goodT c = true) : kitB (tyD d) c = some (isT (tyD d) c) := by
  simp only [goodT, Bool.or_eq_true, beq_iff_eq] at h
  rcases tyD_is d with q | q | q | q | q | q | q <;> rw [q] <;> rcases h with ((((rfl | rfl) | rfl) | rfl) | rfl) | rfl <;> decide +kernel
def rIsiX (K : PySem.W.Frag) : List V → Hp → VK → Prop := fun xs H Q => ∃ x c t b, xs = [x, .ty c] ∧ TyX K H x (.type t) ∧ kitB t c = some b ∧ Q (.bl b) H
theorem call_isiX {X : Cx} {K : PySem.W.Frag} (hK : X.K = K) : CallR X (.builtin "isinstance") (rIsiX K) := by
  subst hK
  intro pins s σ H xs us Q I r h
  obtain ⟨x, c, t, b, rfl, ht, hk, q⟩ := h
  exact call_isi pins s σ H _ us Q I r ⟨x, .ty c, .type t, .type c, b, rfl, .ty c, ht, kit_ty hk, q⟩
section
variable {f : Fr} {te : TE} {E : WE}
def wIsi (c : String) (E : WE) (e : En) (P : Vl → En → Prop) : Prop := E e fun b e1 => ob1 (cont b e1) fun d => P (.dat (.bool (isT (tyD d) c))) e1
theorem se_isi {c : String} (hc : goodT c = true) (h : SE f te E) : SE f (tCB (rIsiX f.K) (tCons te (tCons (tC (.ty c)) tNil))) (wIsi c E) := ⟨fun {L W e σ Hz H Post Q} w y k => h.run w y fun b e1 v Hz1 H1 h1 s1 y1 l1 => by
  obtain ⟨d, c1, h1⟩ := ob1_ex h1
  exact ⟨v, c, tyD d, isT (tyD d) c, rfl, rep_ty y1.sm (y1.cont l1 c1), kit_is hc, k _ _ _ _ _ h1 s1 y1.un (Dp.bl _)⟩⟩
def wIsi2 (c c' : String) (E : WE) (e : En) (P : Vl → En → Prop) : Prop := E e fun b e1 => ob1 (cont b e1) fun d => P (.dat (.bool (isT (tyD d) c || isT (tyD d) c'))) e1
theorem se_isi2 {c c' : String} (hc : goodT c = true) (hc' : goodT c' = true) (h : SE f te E) : SE f (tCB (rIsiT f.K) (tCons te (tCons (tTup (tCons (tC (.ty c)) (tCons (tC (.ty c')) tNil))) tNil))) (wIsi2 c c' E) := ⟨fun {L W e σ Hz H Post Q} w y k => h.run w y fun b e1 v Hz1 H1 h1 s1 y1 l1 => by
  obtain ⟨d, c1, h1⟩ := ob1_ex h1
  have r := y1.cont l1 c1
  refine ⟨by show 2 ≤ sizeLine; decide, fun p hp => ?_⟩
  have s2 := same_new (y1.un.hz hp) (.tup [V.ty c, V.ty c'])
  have sH := same_new hp (.tup [V.ty c, V.ty c'])
  have y2 := y1.un.newT (u := .tup [V.ty c, V.ty c']) hp
  have r2 := rep_ty y2.sm (r.mono s2 sH)
  refine ⟨v, p, _, .type (tyD d), [.type c, .type c'], _, rfl, upd_same, .cons (.ty _) (.cons (.ty _) .nil), r2, ?_, k _ _ _ _ _ h1 (same_trans s1 s2) y2 (Dp.bl _)⟩
  refine kitAny_cons (kit_ty (kit_is hc)) (fun z => ?_) (fun z => by rw [z]; rfl)
  rw [z, Bool.false_or]
  exact kitAny_cons (kit_ty (kit_is hc')) (fun z => by rw [z]; exact kitAny_nil) (fun z => z)⟩
end
end DL


set_option Elab.async false
set_option linter.all false
set_option maxRecDepth 100000
set_option maxHeartbeats 4000000
/-! Stores, statements, loops, comprehensions over the layer of values. -/
namespace DL
open PySem L2 TG
/-! ### wiping -/
theorem wipe_get (σ : St) : ∀ (vs : List Nat) (n : Nat), (wipe σ vs)[n]? = if n ∈ vs ∧ n < σ.length then some none else σ[n]?
  | [], n => by simp [wipe]
  | v :: vs, n => by
    unfold wipe
    by_cases h : v = n
    · subst h
      by_cases hl : v < σ.length
      · rw [List.getElem?_set_self (by rw [wipe_length]; exact hl), if_pos ⟨List.mem_cons_self, hl⟩]
      · rw [if_neg (fun c => hl c.2)]
        rw [List.getElem?_eq_none (by rw [List.length_set, wipe_length]; omega), List.getElem?_eq_none (by omega)]
    · rw [List.getElem?_set_ne h, wipe_get σ vs n]
      by_cases h2 : n ∈ vs ∧ n < σ.length
      · rw [if_pos h2, if_pos ⟨List.mem_cons_of_mem _ h2.1, h2.2⟩]
      · rw [if_neg h2, if_neg (fun c => h2 ⟨(List.mem_cons.mp c.1).resolve_left (fun q => h q.symm), c.2⟩)]
theorem wipe_congr {σ τ : St} {vs : List Nat} (hl : σ.length = τ.length) (h : ∀ n, n ∉ vs → σ[n]? = τ[n]?) : wipe σ vs = wipe τ vs := by
  apply List.ext_getElem?
  intro n
  rw [wipe_get, wipe_get, hl]
  by_cases c : n ∈ vs ∧ n < τ.length
  · rw [if_pos c, if_pos c]
  · rw [if_neg c, if_neg c]
    by_cases c2 : n ∈ vs
    · have : ¬ n < τ.length := fun q => c ⟨c2, q⟩
      rw [List.getElem?_eq_none (by omega), List.getElem?_eq_none (by omega)]
    · exact h n c2
theorem wipe_wipe (σ : St) (vs : List Nat) : wipe (wipe σ vs) vs = wipe σ vs := by
  refine wipe_congr (wipe_length _ _) fun n hn => ?_
  rw [wipe_get, if_neg (fun c => hn c.1)]
theorem wipe_set {σ : St} {vs : List Nat} {i : Nat} {x : Option V} (h : i ∈ vs) : wipe (σ.set i x) vs = wipe σ vs := by
  refine wipe_congr (List.length_set ..) fun n hn => ?_
  rw [List.getElem?_set_ne (fun c : i = n => hn (by rw [← c]; exact h))]
def wipeE (e : En) : List Nat → En
  | [] => e
  | v :: vs => (wipeE e vs).set v none
section
variable {f : Fr} {L e : En} {W σ : St} {Hz H : Hp}
theorem Sy.wiped (y : Sy f L W e σ Hz H) : ∀ vs : List Nat, Sy f L W (wipeE e vs) (wipe σ vs) Hz H
  | [] => y
  | v :: vs => (Sy.wiped y vs).forget
/-- other values in slots that hold nothing -/
theorem Pr.swap {O : List Addr} {τ : St} (h : Pr f Hz H e σ O) (hl : τ.length = σ.length) (hs : ∀ n : Nat, e[n]? ≠ some none → τ[n]? = σ[n]?) : Pr f Hz H e τ O := by
  induction h generalizing τ with
  | nil =>
    cases τ with
    | nil => exact .nil
    | cons _ _ => simp at hl
  | @skip x L W O p ih =>
    cases τ with
    | nil => simp at hl
    | cons t τ => exact .skip (ih (by simpa using hl) fun n hn => by have := hs (n + 1) (by simpa using hn); simpa using this)
  | @dat v d L W O q p ih =>
    cases τ with
    | nil => simp at hl
    | cons t τ =>
      have h0 := hs 0 (by simp)
      simp at h0
      subst h0
      exact .dat q (ih (by simpa using hl) fun n hn => by have := hs (n + 1) (by simpa using hn); simpa using this)
  | @ob a t o L W O q q1 q2 p ih =>
    cases τ with
    | nil => simp at hl
    | cons t τ =>
      have h0 := hs 0 (by simp)
      simp at h0
      subst h0
      exact .ob q q1 q2 (ih (by simpa using hl) fun n hn => by have := hs (n + 1) (by simpa using hn); simpa using this)
theorem wipeE_len (e : En) : ∀ vs : List Nat, (wipeE e vs).length = e.length
  | [] => rfl
  | v :: vs => by unfold wipeE; rw [List.length_set, wipeE_len e vs]
theorem wipeE_get (e : En) : ∀ (vs : List Nat) (n : Nat), (wipeE e vs)[n]? = if n ∈ vs ∧ n < e.length then some none else e[n]?
  | [], n => by simp [wipeE]
  | v :: vs, n => by
    unfold wipeE
    by_cases h : v = n
    · subst h
      by_cases hl : v < e.length
      · rw [List.getElem?_set_self (by rw [wipeE_len]; exact hl), if_pos ⟨List.mem_cons_self, hl⟩]
      · rw [if_neg (fun c => hl c.2)]
        rw [List.getElem?_eq_none (by rw [List.length_set, wipeE_len]; omega), List.getElem?_eq_none (by omega)]
    · rw [List.getElem?_set_ne h, wipeE_get e vs n]
      by_cases h2 : n ∈ vs ∧ n < e.length
      · rw [if_pos h2, if_pos ⟨List.mem_cons_of_mem _ h2.1, h2.2⟩]
      · rw [if_neg h2, if_neg (fun c => h2 ⟨(List.mem_cons.mp c.1).resolve_left (fun q => h q.symm), c.2⟩)]
theorem Sy.swap {τ : St} (y : Sy f L W e σ Hz H) (hl : τ.length = σ.length) (hs : ∀ n : Nat, e[n]? ≠ some none → τ[n]? = σ[n]?) : Sy f L W e τ Hz H := by
  obtain ⟨⟨O1, O2, p1, p2, nd, fr⟩, sm, tz, nw, kp, ka, az, tp⟩ := y
  exact ⟨⟨O1, O2, p1, p2.swap hl hs, nd, fr⟩, sm, tz, nw, kp, ka, az, tp⟩
/-- back from a comprehension -/
theorem Sy.unwipe {vs : List Nat} (y : Sy f L W e (wipe σ vs) Hz H) : Sy f L W (wipeE e vs) σ Hz H := by
  have y1 := y.wiped vs
  have hl := y.len
  rw [wipe_length] at hl
  refine y1.swap (by rw [wipe_length, wipe_length]) fun n hn => ?_
  by_cases c : n ∈ vs
  · by_cases c2 : n < e.length
    · exact absurd (by rw [wipeE_get, if_pos ⟨c, c2⟩]) hn
    · rw [List.getElem?_eq_none (by omega), List.getElem?_eq_none (by rw [wipe_length, wipe_length]; omega)]
  · rw [wipe_get, if_neg (fun q => c q.1), wipe_get, if_neg (fun q => c q.1)]
/-- the data that stood in some slots ahead -/
def back (e0 : En) : List Nat → En → En
  | [], e => e
  | v :: vs, e => match e0[v]? with
    | some (some (.dat d)) => (back e0 vs e).set v (some (.dat d))
    | _ => back e0 vs e
theorem back_len (e0 e : En) : ∀ vs, (back e0 vs e).length = e.length
  | [] => rfl
  | v :: vs => by
    unfold back
    split
    · rw [List.length_set, back_len e0 e vs]
    · exact back_len e0 e vs
theorem Sy.back {L0 e0 : En} {W0 : St} {Hz0 H0 : Hp} (y0 : Sy f L0 W0 e0 σ Hz0 H0) (s : Same Hz0 Hz) (y : Sy f L W e σ Hz H) (he : e.length = e0.length) : ∀ vs, Sy f L W (back e0 vs e) σ Hz H
  | [] => y
  | v :: vs => by
    have y1 := Sy.back y0 s y he vs
    unfold DL.back
    split
    · rename_i d q
      obtain ⟨x, e1, e2⟩ := y0.get q
      have y2 := y1.setD (i := v) (dp_mono s _ _ e2) (by rw [back_len, he]; exact (List.getElem?_eq_some_iff.mp q).1)
      rw [set_self_some e1] at y2
      exact y2
    · exact y1
end
/-! ### stores -/
abbrev WG := Vl → En → (En → Prop) → Prop
abbrev WGs := List PyData → En → (En → Prop) → Prop
structure SG (f : Fr) (g : TG) (G : WG) (sl : List Nat) : Prop where
  run : ∀ {L W e σ Hz H b v Post Q}, G b e Post → Sy f (tmp b L) (tmv b v W) e σ Hz H → Val f b v σ Hz →
    (∀ e' σ' Hz' H', Post e' → Same Hz Hz' → Sy f L W e' σ' Hz' H' → (∀ vs, (∀ i ∈ sl, i ∈ vs) → wipe σ' vs = wipe σ vs) → Q σ' H') → g v σ H Q
structure SGs (f : Fr) (g : TGs) (G : WGs) (sl : List Nat) : Prop where
  run : ∀ {L W e σ Hz H ds vs Post Q}, G ds e Post → Sy f L W e σ Hz H → DpAll f.K Hz vs ds →
    (∀ e' σ' Hz' H', Post e' → Same Hz Hz' → Sy f L W e' σ' Hz' H' → (∀ vs, (∀ i ∈ sl, i ∈ vs) → wipe σ' vs = wipe σ vs) → Q σ' H') → g vs σ H Q
section
variable {f : Fr}
def nmS (i j : Nat) (e : En) (P : En → Prop) : Option (Option B) → Prop
  | some (some (.dat d)) => i < e.length ∧ P (e.set i (some (.dat d)))
  | some (some (.ob t o)) => i < e.length ∧ P ((e.set j none).set i (some (.ob t o)))
  | _ => False
def wName (i : Nat) (b : Vl) (e : En) (P : En → Prop) : Prop := match b with
  | .dat d => i < e.length ∧ P (e.set i (some (.dat d)))
  | .ob o => i < e.length ∧ P (e.set i (some (.ob none o)))
  | .own j => nmS i j e P e[j]?
section
variable {i : Nat} {e : En} {P : En → Prop}
theorem nm_dat {d : PyData} : wName i (.dat d) e P = (i < e.length ∧ P (e.set i (some (.dat d)))) := rfl
theorem nm_ob {o : Ob} : wName i (.ob o) e P = (i < e.length ∧ P (e.set i (some (.ob none o)))) := rfl
theorem nm_own {j : Nat} : wName i (.own j) e P = nmS i j e P e[j]? := rfl
theorem nmS_dat {j : Nat} {d : PyData} : nmS i j e P (some (some (.dat d))) = (i < e.length ∧ P (e.set i (some (.dat d)))) := rfl
theorem nmS_ob {j : Nat} {t : Option Nat} {o : Ob} : nmS i j e P (some (some (.ob t o))) = (i < e.length ∧ P ((e.set j none).set i (some (.ob t o)))) := rfl
end
theorem sg_name {i : Nat} : SG f (gName i) (wName i) [i] := ⟨fun {L W e σ Hz H b v Post Q} w y l k => by
  have hw : ∀ vs, (∀ j ∈ [i], j ∈ vs) → wipe (σ.set i (some v)) vs = wipe σ vs := fun vs h => wipe_set (h i List.mem_cons_self)
  cases b with
  | dat d => exact k _ _ _ _ w.2 same_refl (y.setD l w.1) hw
  | ob o => exact k _ _ _ _ w.2 same_refl (Sy.setO y w.1) hw
  | own j =>
    rw [nm_own] at w
    generalize q : e[j]? = x at w
    unfold nmS at w
    split at w
    · obtain ⟨v', e1', e2⟩ := Sy.get (L := L) (W := W) y q
      have hv' : σ[j]? = some (some v) := l
      rw [hv'] at e1'
      cases e1'
      exact k _ _ _ _ w.2 same_refl (Sy.setD (L := L) (W := W) y e2 w.1) hw
    · exact k _ _ _ _ w.2 same_refl (Sy.setO (Sy.mv (L := L) (W := W) y q l) (by rw [List.length_set]; exact w.1)) hw
    · exact w.elim⟩
def wGNil (ds : List PyData) (e : En) (P : En → Prop) : Prop := match ds with
  | [] => P e
  | _ => False
def wGCons (G : WG) (Gs : WGs) (ds : List PyData) (e : En) (P : En → Prop) : Prop := match ds with
  | d :: r => G (.dat d) e fun e1 => Gs r e1 P
  | [] => False
theorem sgs_nil : SGs f gNil wGNil [] := ⟨fun {L W e σ Hz H ds vs Post Q} w y l k => by
  cases l with
  | nil => exact ⟨rfl, k _ _ _ _ w same_refl y (fun _ _ => rfl)⟩
  | cons _ _ => exact w.elim⟩
theorem sgs_cons {g : TG} {gs : TGs} {G : WG} {Gs : WGs} {sl sl' : List Nat} (h : SG f g G sl) (hs : SGs f gs Gs sl') : SGs f (gCons g gs) (wGCons G Gs) (sl ++ sl') := ⟨fun {L W e σ Hz H ds vs Post Q} w y l k => by
  cases l with
  | nil => exact w.elim
  | cons l1 l2 =>
    refine ⟨_, _, rfl, ?_⟩
    refine SG.run (L := L) (W := W) h w y l1 fun e1 σ1 Hz1 H1 h1 s1 y1 c1 => ?_
    exact hs.run h1 y1 (dps_mono s1 _ _ l2) fun e2 σ2 Hz2 H2 h2 s2 y2 c2 => k _ _ _ _ h2 (same_trans s1 s2) y2 fun vs hv => by
      rw [c2 vs (fun i hi => hv i (List.mem_append_right _ hi)), c1 vs (fun i hi => hv i (List.mem_append_left _ hi))]⟩
def wGTup (n : Nat) (Gs : WGs) (b : Vl) (e : En) (P : En → Prop) : Prop := ob1 (cont b e) fun d => match d with
  | .tuple ds => ds.length = n ∧ Gs ds e P
  | _ => False
theorem sg_tup {n : Nat} {gs : TGs} {Gs : WGs} {sl : List Nat} (hs : SGs f gs Gs sl) : SG f (gTup f.K n gs) (wGTup n Gs) sl := ⟨fun {L W e σ Hz H b v Post Q} w y l k => by
  obtain ⟨d, c, w⟩ := ob1_ex w
  have r := y.cont l c
  split at w
  · obtain ⟨a, xs, rfl, q1, q2⟩ := rep_tup y.sm r
    exact ⟨a, xs, rfl, q1, by rw [dps_len q2]; exact w.1, hs.run w.2 y.un q2 k⟩
  · exact w.elim⟩
/-- xs[i] = v, xs the list of a slot -/
def wGSub (j : Nat) (Ei : WE) (b : Vl) (e : En) (P : En → Prop) : Prop := match b with
  | .dat d => wVar j e fun _ _ => Ei e fun bi e1 => match bi with
    | .dat (.int n) => match e1[j]? with
      | some (some (.ob t (.lst ds))) => ob1 (ixN ds.length n) fun m => P (e1.set j (some (.ob t (.lst (ds.set m d)))))
      | _ => False
    | _ => False
  | _ => False
theorem sg_sub {j : Nat} {ti : TE} {Ei : WE} (hi : SE f ti Ei) : SG f (gSub (tVar j) ti rSetL) (wGSub j Ei) [] := ⟨fun {L W e σ Hz H b v Post Q} w y l k => by
  cases b with
  | dat d =>
    obtain ⟨va, ha, w⟩ : ∃ va, σ[j]? = some (some va) ∧ Ei e fun bi e1 => match bi with
        | .dat (.int n) => match e1[j]? with
          | some (some (.ob t (.lst ds))) => ob1 (ixN ds.length n) fun m => Post (e1.set j (some (.ob t (.lst (ds.set m d)))))
          | _ => False
        | _ => False := by
      unfold wGSub wVar at w
      generalize q : e[j]? = x at w
      unfold vrS at w
      dsimp only at w
      split at w
      · obtain ⟨v', e1', e2⟩ := Sy.get (L := L) (W := W) y q
        exact ⟨v', e1', w⟩
      · obtain ⟨v', e1', e2⟩ := Sy.ob (L := L) (W := W) y q
        exact ⟨_, e1', w⟩
      · exact w.elim
    refine ⟨va, ha, ?_⟩
    refine hi.run w y fun bi e1 vi Hz1 H1 h1 s1 y1 l1 => ?_
    split at h1
    · rename_i n
      split at h1
      · rename_i t ds q
        obtain ⟨m, c, h1⟩ := ob1_ex h1
        cases l1
        obtain ⟨a', q1, q2, q3⟩ := Sy.ob (L := L) (W := W) y1 q
        rw [ha] at q1
        cases q1
        obtain ⟨xs, q4, q5⟩ := q2
        refine ⟨a', xs, n, m, rfl, rfl, q4, by rw [dps_len q5]; exact c, ?_⟩
        refine k _ _ _ _ h1 s1 (Sy.wr (L := L) (W := W) y1 q ha ⟨_, upd_same, ?_⟩) (fun _ _ => rfl)
        exact dps_set m q5 (dp_mono s1 _ _ l)
      · exact h1.elim
    · exact h1.elim
  | ob o => exact w.elim
  | own j => exact w.elim⟩
end
/-! ### statements -/
structure Po where
  nx : En → Prop
  rt : Vl → En → Prop
  bk : En → Prop := fun _ => False
  ct : En → Prop := fun _ => False
abbrev WS := Po → En → Prop
structure Out (f : Fr) (P : Po) (D : Ends) (Z : Hp) : Prop where
  nx : ∀ {e σ Hz H}, P.nx e → Same Z Hz → Sy f [] [] e σ Hz H → D.nx σ H
  rt : ∀ {b e σ v Hz H}, P.rt b e → Same Z Hz → Sy f (tmp b []) (tmv b v []) e σ Hz H → Val f b v σ Hz → D.rt v H
  bk : ∀ {e σ Hz H}, P.bk e → Same Z Hz → Sy f [] [] e σ Hz H → D.bk σ H
  ct : ∀ {e σ Hz H}, P.ct e → Same Z Hz → Sy f [] [] e σ Hz H → D.ct σ H
theorem Out.mono {f : Fr} {P : Po} {D : Ends} {Z Z' : Hp} (o : Out f P D Z) (s : Same Z Z') : Out f P D Z' :=
  ⟨fun a b c => o.nx a (same_trans s b) c, fun a b c d => o.rt a (same_trans s b) c d, fun a b c => o.bk a (same_trans s b) c, fun a b c => o.ct a (same_trans s b) c⟩
structure SS (f : Fr) (t : TS) (S : WS) : Prop where
  run : ∀ {D P e σ Hz H}, S P e → Sy f [] [] e σ Hz H → Out f P D Hz → t D σ H
section
variable {f : Fr} {t u : TS} {S U : WS} {te ta tb tc : TE} {E Ea Eb Ec : WE} {tt : TT} {T : WT}
def wSeq (S U : WS) (P : Po) (e : En) : Prop := S { P with nx := U P } e
theorem ss_seq (h1 : SS f t S) (h2 : SS f u U) : SS f (tSeq t u) (wSeq S U) := ⟨fun {D P e σ Hz H} w y o => h1.run w y ⟨fun p s1 y1 => h2.run p y1 (o.mono s1), o.rt, o.bk, o.ct⟩⟩
def wNext (P : Po) (e : En) : Prop := P.nx e
theorem ss_next : SS f tNext wNext := ⟨fun w y o => o.nx w same_refl y⟩
def wNever (P : Po) (e : En) : Prop := False
theorem ss_never : SS f tNever wNever := ⟨fun w _ _ => w.elim⟩
def wBreak (P : Po) (e : En) : Prop := P.bk e
theorem ss_break : SS f tBreak wBreak := ⟨fun w y o => o.bk w same_refl y⟩
def wCont (P : Po) (e : En) : Prop := P.ct e
theorem ss_cont : SS f tCont wCont := ⟨fun w y o => o.ct w same_refl y⟩
def wRetN (P : Po) (e : En) : Prop := P.rt (.dat .none) e
theorem ss_retN : SS f tRetN wRetN := ⟨fun w y o => o.rt (v := .non) w same_refl y Dp.non⟩
def rtS (P : Po) (i : Nat) (e1 : En) : Option (Option B) → Prop
  | some (some (.dat d)) => P.rt (.dat d) e1
  | some (some (.ob none o)) => P.rt (.ob o) (e1.set i none)
  | _ => False
def rtK (P : Po) (b : Vl) (e1 : En) : Prop := match b with
  | .own i => rtS P i e1 e1[i]?
  | .dat d => P.rt (.dat d) e1
  | .ob o => P.rt (.ob o) e1
section
variable {P : Po} {e1 : En}
theorem rtK_dat {d : PyData} : rtK P (.dat d) e1 = P.rt (.dat d) e1 := rfl
theorem rtK_ob {o : Ob} : rtK P (.ob o) e1 = P.rt (.ob o) e1 := rfl
theorem rtK_own {i : Nat} : rtK P (.own i) e1 = rtS P i e1 e1[i]? := rfl
theorem rtS_dat {i : Nat} {d : PyData} : rtS P i e1 (some (some (.dat d))) = P.rt (.dat d) e1 := rfl
theorem rtS_ob {i : Nat} {o : Ob} : rtS P i e1 (some (some (.ob none o))) = P.rt (.ob o) (e1.set i none) := rfl
end
def wRet (E : WE) (P : Po) (e : En) : Prop := E e (rtK P)
theorem ss_ret (h : SE f te E) : SS f (tRet te) (wRet E) := ⟨fun {D P e σ Hz H} w y o => h.run w y fun b e1 v Hz1 H1 h1 s1 y1 l1 => by
  cases b with
  | dat d => exact o.rt h1 s1 y1 l1
  | ob d => exact o.rt h1 s1 y1 l1
  | own i =>
    rw [rtK_own] at h1
    generalize q : e1[i]? = x at h1
    unfold rtS at h1
    split at h1
    · rename_i d
      obtain ⟨v', e1', e2⟩ := Sy.get (L := []) (W := []) y1 q
      have hv' : σ[i]? = some (some v) := l1
      rw [hv'] at e1'
      cases e1'
      exact o.rt (b := .dat d) h1 s1 y1 e2
    · rename_i ob
      exact o.rt (b := .ob ob) h1 s1 (Sy.mv (L := []) (W := []) y1 q l1) trivial
    · exact h1.elim⟩
def wIfS (T : WT) (S U : WS) (P : Po) (e : En) : Prop := T e fun c e1 => if c = true then S P e1 else U P e1
theorem ss_if (ht : ST f tt T) (h1 : SS f t S) (h2 : SS f u U) : SS f (tIfS tt t u) (wIfS T S U) := ⟨fun {D P e σ Hz H} w y o => ht.run w y fun b e1 Hz1 H1 w1 s1 y1 => by
  by_cases c : b = true
  · rw [if_pos c] at w1 ⊢
    exact h1.run w1 y1 (o.mono s1)
  · rw [if_neg c] at w1 ⊢
    exact h2.run w1 y1 (o.mono s1)⟩
def wDrop (E : WE) (P : Po) (e : En) : Prop := E e fun _ e1 => P.nx e1
theorem ss_drop (h : SE f te E) : SS f (tDrop te) (wDrop E) := ⟨fun {D P e σ Hz H} w y o => h.run w y fun b e1 v Hz1 H1 h1 s1 y1 l1 => o.nx h1 s1 y1.un⟩
def wAsg (E : WE) (G : WG) (P : Po) (e : En) : Prop := E e fun b e1 => G b e1 P.nx
theorem ss_asg {g : TG} {G : WG} {sl : List Nat} (h : SE f te E) (hg : SG f g G sl) : SS f (tAsg te g) (wAsg E G) := ⟨fun {D P e σ Hz H} w y o => h.run w y fun b e1 v Hz1 H1 h1 s1 y1 l1 =>
  hg.run h1 y1 l1 fun e2 σ2 Hz2 H2 h2 s2 y2 _ => o.nx h2 (same_trans s1 s2) y2⟩
/-- a, b = x, y -/
def notOwn : Vl → Bool
  | .own _ => false
  | _ => true
def wPar (i j : Nat) (Ea Eb : WE) (P : Po) (e : En) : Prop := Ea e fun b1 e1 => Eb e1 fun b2 e2 => notOwn b1 = true ∧ wName j b2 e2 fun e3 => wName i b1 e3 P.nx
theorem val_not {b : Vl} {v : V} {σ σ' : St} {Hz : Hp} (h : Val f b v σ Hz) (n : notOwn b = true) : Val f b v σ' Hz := by
  cases b with
  | own i => cases n
  | _ => exact h
theorem ss_par {i j : Nat} (hij : i ≠ j) (ha : SE f ta Ea) (hb : SE f tb Eb) : SS f (tPar i j (tCons ta (tCons tb tNil))) (wPar i j Ea Eb) := ⟨fun {D P e σ Hz H} w y o =>
  ha.run w y fun b1 e1 v1 Hz1 H1 h1 s1 y1 l1 => hb.run h1 y1 fun b2 e2 v2 Hz2 H2 h2 s2 y2 l2 => by
    obtain ⟨n1, h2⟩ := h2
    refine ⟨v1, v2, rfl, ?_⟩
    rw [List.set_comm _ _ hij]
    exact (sg_name (f := f) (i := j)).run (Q := fun σ' H' => D.nx (σ'.set i (some v1)) H') h2 y2 l2 fun e3 σ3 Hz3 H3 h3 s3 y3 _ =>
      (sg_name (f := f) (i := i)).run (Q := fun σ' H' => D.nx σ' H') h3 y3 (val_not (l1.mono (same_trans s2 s3)) n1) fun e4 σ4 Hz4 H4 h4 s4 y4 _ => o.nx h4 (same_trans s1 (same_trans s2 (same_trans s3 s4))) y4⟩
def wPar3 (i j l : Nat) (Ea Eb Ec : WE) (P : Po) (e : En) : Prop := Ea e fun b1 e1 => Eb e1 fun b2 e2 => Ec e2 fun b3 e3 => notOwn b1 = true ∧ notOwn b2 = true ∧ wName l b3 e3 fun e4 => wName j b2 e4 fun e5 => wName i b1 e5 P.nx
theorem ss_par3 {i j l : Nat} (hij : i ≠ j) (hil : i ≠ l) (hjl : j ≠ l) (ha : SE f ta Ea) (hb : SE f tb Eb) (hc : SE f tc Ec) : SS f (tPar3 i j l (tCons ta (tCons tb (tCons tc tNil)))) (wPar3 i j l Ea Eb Ec) := ⟨fun {D P e σ Hz H} w y o =>
  ha.run w y fun b1 e1 v1 Hz1 H1 h1 s1 y1 l1 => hb.run h1 y1 fun b2 e2 v2 Hz2 H2 h2 s2 y2 l2 => hc.run h2 y2 fun b3 e3 v3 Hz3 H3 h3 s3 y3 l3 => by
    obtain ⟨n1, n2, h3⟩ := h3
    refine ⟨v1, v2, v3, rfl, ?_⟩
    have es : ((σ.set i (some v1)).set j (some v2)).set l (some v3) = ((σ.set l (some v3)).set j (some v2)).set i (some v1) := by
      rw [List.set_comm _ _ hjl, List.set_comm _ _ hil, List.set_comm _ _ hij]
    rw [es]
    exact (sg_name (f := f) (i := l)).run (Q := fun σ' H' => D.nx ((σ'.set j (some v2)).set i (some v1)) H') h3 y3 l3 fun e4 σ4 Hz4 H4 h4 s4 y4 _ =>
      (sg_name (f := f) (i := j)).run (Q := fun σ' H' => D.nx (σ'.set i (some v1)) H') h4 y4 (val_not (l2.mono (same_trans s3 s4)) n2) fun e5 σ5 Hz5 H5 h5 s5 y5 _ =>
        (sg_name (f := f) (i := i)).run (Q := fun σ' H' => D.nx σ' H') h5 y5 (val_not (l1.mono (same_trans s2 (same_trans s3 (same_trans s4 s5)))) n1) fun e6 σ6 Hz6 H6 h6 s6 y6 _ => o.nx h6 (same_trans s1 (same_trans s2 (same_trans s3 (same_trans s4 (same_trans s5 s6))))) y6⟩
/-- the same by a tuple that is made and taken apart -/
theorem ss_parT {i j : Nat} (hij : i ≠ j) (ha : SE f ta Ea) (hb : SE f tb Eb) : SS f (tAsg (tTup (tCons ta (tCons tb tNil))) (gTup f.K 2 (gCons (gName i) (gCons (gName j) gNil)))) (wPar i j Ea Eb) := ⟨fun {D P e σ Hz H} w y o =>
  ha.run w y fun b1 e1 v1 Hz1 H1 h1 s1 y1 l1 => hb.run h1 y1 fun b2 e2 v2 Hz2 H2 h2 s2 y2 l2 => ⟨by show 2 ≤ sizeLine; decide, fun p hp => by
    obtain ⟨n1, h2⟩ := h2
    have s0 := same_new (y2.hz hp) (.tup [v1, v2])
    refine ⟨p, _, rfl, SqT.of upd_same, rfl, _, _, rfl, _, _, rfl, rfl, ?_⟩
    rw [List.set_comm _ _ hij]
    exact (sg_name (f := f) (i := j)).run (Q := fun σ' H' => D.nx (σ'.set i (some v1)) H') h2 (y2.newT hp) (l2.mono s0) fun e3 σ3 Hz3 H3 h3 s3 y3 _ =>
      (sg_name (f := f) (i := i)).run (Q := fun σ' H' => D.nx σ' H') h3 y3 (val_not (l1.mono (same_trans s2 (same_trans s0 s3))) n1) fun e4 σ4 Hz4 H4 h4 s4 y4 _ => o.nx h4 (same_trans s1 (same_trans s2 (same_trans s0 (same_trans s3 s4)))) y4⟩⟩
/-- i op= e, of ints -/
def wAugI (i : Nat) (g : Int → Int → Int) (E : WE) (P : Po) (e : En) : Prop := match e[i]? with
  | some (some (.dat (.int n))) => E e fun b e1 => match b with
    | .dat (.int m) => i < e1.length ∧ P.nx (e1.set i (some (.dat (.int (g n m)))))
    | _ => False
  | _ => False
theorem ss_augI {i : Nat} {g : Int → Int → Int} (h : SE f te E) : SS f (tAug i te (ipI g)) (wAugI i g E) := ⟨fun {D P e σ Hz H} w y o => by
  unfold wAugI at w
  split at w
  · rename_i n q
    obtain ⟨v, e1, e2⟩ := y.get q
    cases e2
    refine ⟨_, e1, h.run w y fun b e2 v Hz1 H1 h1 s1 y1 l1 => ?_⟩
    split at h1
    · cases l1
      exact ⟨_, _, rfl, rfl, o.nx h1.2 s1 (Sy.setD (L := []) (W := []) y1 (Dp.int _) h1.1)⟩
    · exact h1.elim
  · exact w.elim⟩
/-- while -/
def wWhile (T : WT) (S : WS) (P : Po) (e : En) : Prop := ∃ Inv : Nat → En → Prop, (∃ m, Inv m e) ∧ ∀ m e, Inv m e → T e fun b e1 =>
  if b = true then S { P with nx := fun e' => ∃ m', m' < m ∧ Inv m' e', ct := fun e' => ∃ m', m' < m ∧ Inv m' e', bk := P.nx } e1 else P.nx e1
theorem ss_while (ht : ST f tt T) (h : SS f t S) : SS f (tWhile tt t) (wWhile T S) := ⟨fun {D P e σ Hz H} w y o => by
  obtain ⟨Inv, ⟨m0, i0⟩, turn⟩ := w
  refine ⟨fun m σ H => ∃ e Hz', Inv m e ∧ Same Hz Hz' ∧ Sy f [] [] e σ Hz' H, ⟨m0, e, Hz, i0, same_refl, y⟩, ?_⟩
  rintro m σ H ⟨e, Hz', im, s0, y⟩
  refine ht.run (turn m e im) y fun b e1 Hz1 H1 w1 s1 y1 => ?_
  by_cases c : b = true
  · rw [if_pos c] at w1 ⊢
    have o1 := o.mono (same_trans s0 s1)
    refine ⟨fun σ' H' => ∃ m' e' Hz2, m' < m ∧ Inv m' e' ∧ Same Hz Hz2 ∧ Sy f [] [] e' σ' Hz2 H', fun σ' H' ⟨m', e', Hz', h1, h2, h3, h4⟩ => ⟨m', h1, e', Hz', h2, h3, h4⟩, ?_⟩
    exact h.run w1 y1 ⟨fun ⟨m', h1, h2⟩ s2 y2 => ⟨m', _, _, h1, h2, same_trans s0 (same_trans s1 s2), y2⟩, o1.rt, o1.nx, fun ⟨m', h1, h2⟩ s2 y2 => ⟨m', _, _, h1, h2, same_trans s0 (same_trans s1 s2), y2⟩⟩
  · rw [if_neg c] at w1 ⊢
    exact o.nx w1 (same_trans s0 s1) y1⟩
end
/-! ### what is walked -/
structure Walk (K : PySem.W.Frag) (J : It) (Hz : Hp) (its : List PyData) : Prop where
  stop : ∀ H, Same Hz H → J.stop its.length H
  go : ∀ i H, i < its.length → Same Hz H → J.go i H
  yld : ∀ i H x H' d, Same Hz H → J.yld i H x H' → its[i]? = some d → (H' = H ∧ Dp K Hz x d) ∨ ∃ T xs ds, x = .ref T ∧ H T = none ∧ H' = upd H T (.tup xs) ∧ d = .tuple ds ∧ DpAll K Hz xs ds
abbrev WI := En → (List PyData → En → Prop) → Prop
structure SI (f : Fr) (wi : TI) (G : WI) : Prop where
  run : ∀ {L W e σ Hz H Post R}, G e Post → Sy f L W e σ Hz H → (∀ J its e' Hz' H', Post its e' → Same Hz Hz' → Sy f L W e' σ Hz' H' → Walk f.K J Hz' its → R J H') → wi σ H R
section
variable {f : Fr} {K : PySem.W.Frag} {Hz : Hp}
theorem walk_list {a : Addr} {xs : List V} {ds : List PyData} (h : SqL K Hz a xs) (hd : DpAll K Hz xs ds) : Walk K (Itl K a) Hz ds where
  stop := fun H s => ⟨xs, sqL s h, by rw [dps_len hd]; exact Nat.le_refl _⟩
  go := fun i H hi s => by
    have : i < xs.length := by rw [dps_len hd]; exact hi
    exact ⟨xs, xs[i], sqL s h, List.getElem?_eq_getElem this⟩
  yld := fun i H x H' d s y e => by
    obtain ⟨rfl, hy⟩ := y
    obtain ⟨x', e1, e2⟩ := dps_get hd i d e
    have := hy xs (sqL s h)
    rw [e1] at this
    cases this
    exact .inl ⟨rfl, e2⟩
theorem walk_tup {a : Addr} {xs : List V} {ds : List PyData} (h : SqT K Hz a xs) (hd : DpAll K Hz xs ds) : Walk K (Itt K a) Hz ds where
  stop := fun H s => ⟨xs, sqT s h, by rw [dps_len hd]; exact Nat.le_refl _⟩
  go := fun i H hi s => by
    have : i < xs.length := by rw [dps_len hd]; exact hi
    exact ⟨xs, xs[i], sqT s h, List.getElem?_eq_getElem this⟩
  yld := fun i H x H' d s y e => by
    obtain ⟨rfl, hy⟩ := y
    obtain ⟨x', e1, e2⟩ := dps_get hd i d e
    have := hy xs (sqT s h)
    rw [e1] at this
    cases this
    exact .inl ⟨rfl, e2⟩
def rangeD (lo : Int) (n : Nat) : List PyData := (List.range n).map fun i : Nat => PyData.int (lo + i)
theorem walk_rng {lo : Int} {n : Nat} : Walk K (Itr lo n) Hz (rangeD lo n) where
  stop := fun H s => by show n ≤ (rangeD lo n).length; simp [rangeD]
  go := fun i H hi s => by show i < n; simpa [rangeD] using hi
  yld := fun i H x H' d s y e => by
    obtain ⟨rfl, rfl⟩ := y
    have hi : i < n := by have := (List.getElem?_eq_some_iff.mp e).1; simpa [rangeD] using this
    unfold rangeD at e
    rw [List.getElem?_map, List.getElem?_range hi] at e
    cases e
    exact .inl ⟨rfl, .int _⟩
def enumD (ds : List PyData) : List PyData := (List.range ds.length).map fun i : Nat => PyData.tuple [.int i, (ds[i]?).getD .none]
theorem enumD_len (ds : List PyData) : (enumD ds).length = ds.length := by simp [enumD]
theorem enumD_get {ds : List PyData} {i : Nat} {d : PyData} (h : (enumD ds)[i]? = some d) : ∃ x, ds[i]? = some x ∧ d = .tuple [.int i, x] := by
  have hi : i < ds.length := by have := (List.getElem?_eq_some_iff.mp h).1; rwa [enumD_len] at this
  unfold enumD at h
  rw [List.getElem?_map, List.getElem?_range hi] at h
  cases h
  exact ⟨ds[i], List.getElem?_eq_getElem hi, by dsimp only; rw [List.getElem?_eq_getElem hi]; rfl⟩
theorem walk_enumT {a : Addr} {xs : List V} {ds : List PyData} (h : SqT K Hz a xs) (hd : DpAll K Hz xs ds) : Walk K (IteT K a) Hz (enumD ds) where
  stop := fun H s => ⟨xs, sqT s h, by rw [dps_len hd, enumD_len]⟩
  go := fun i H hi s => by
    have : i < xs.length := by rw [dps_len hd]; rwa [enumD_len] at hi
    exact ⟨xs, xs[i], sqT s h, List.getElem?_eq_getElem this⟩
  yld := fun i H x H' d s y e => by
    obtain ⟨T, x', rfl, h1, rfl, hy⟩ := y
    obtain ⟨dx, e1, rfl⟩ := enumD_get e
    obtain ⟨x2, e2, e3⟩ := dps_get hd i dx e1
    have := hy xs (sqT s h)
    rw [e2] at this
    cases this
    exact .inr ⟨T, _, _, rfl, h1, rfl, rfl, .cons (.int _) (.cons e3 .nil)⟩
theorem walk_enum {a : Addr} {xs : List V} {ds : List PyData} (h : SqL K Hz a xs) (hd : DpAll K Hz xs ds) : Walk K (Ite K a) Hz (enumD ds) where
  stop := fun H s => ⟨xs, sqL s h, by rw [dps_len hd, enumD_len]; exact Nat.le_refl _⟩
  go := fun i H hi s => by
    have : i < xs.length := by rw [dps_len hd]; rwa [enumD_len] at hi
    exact ⟨xs, xs[i], sqL s h, List.getElem?_eq_getElem this⟩
  yld := fun i H x H' d s y e => by
    obtain ⟨T, x', rfl, h1, rfl, hy⟩ := y
    obtain ⟨dx, e1, rfl⟩ := enumD_get e
    obtain ⟨x2, e2, e3⟩ := dps_get hd i dx e1
    have := hy xs (sqL s h)
    rw [e2] at this
    cases this
    exact .inr ⟨T, _, _, rfl, h1, rfl, rfl, .cons (.int _) (.cons e3 .nil)⟩
def zipD (ds es : List PyData) : List PyData := List.zipWith (fun a b => PyData.tuple [a, b]) ds es
theorem zipD_len (ds es : List PyData) : (zipD ds es).length = min ds.length es.length := by simp [zipD]
theorem zipD_get {ds es : List PyData} {i : Nat} {d : PyData} (h : (zipD ds es)[i]? = some d) : ∃ x y, ds[i]? = some x ∧ es[i]? = some y ∧ d = .tuple [x, y] := by
  unfold zipD at h
  rw [List.getElem?_zipWith] at h
  cases c1 : ds[i]? with
  | none => rw [c1] at h; cases h
  | some x =>
    cases c2 : es[i]? with
    | none => rw [c1, c2] at h; cases h
    | some y =>
      rw [c1, c2] at h
      cases h
      exact ⟨x, y, rfl, rfl, rfl⟩
theorem walk_zipT {a b : Addr} {xs ys : List V} {ds es : List PyData} (h : SqT K Hz a xs) (hd : DpAll K Hz xs ds) (g : SqT K Hz b ys) (gd : DpAll K Hz ys es) : Walk K (RZ.ItzT K a b) Hz (zipD ds es) where
  stop := fun H s => ⟨xs, ys, sqT s h, sqT s g, by rw [dps_len hd, dps_len gd, zipD_len]; omega⟩
  go := fun i H hi s => by
    rw [zipD_len] at hi
    have h1 : i < xs.length := by rw [dps_len hd]; omega
    have h2 : i < ys.length := by rw [dps_len gd]; omega
    exact ⟨xs, ys, xs[i], ys[i], sqT s h, sqT s g, List.getElem?_eq_getElem h1, List.getElem?_eq_getElem h2⟩
  yld := fun i H x H' d s y e => by
    obtain ⟨T, x', y', rfl, h1, rfl, hx, hy⟩ := y
    obtain ⟨dx, dy, e1, e2, rfl⟩ := zipD_get e
    obtain ⟨x2, q1, q2⟩ := dps_get hd i dx e1
    obtain ⟨y2, q3, q4⟩ := dps_get gd i dy e2
    have hx := hx xs (sqT s h)
    have hy := hy ys (sqT s g)
    rw [q1] at hx
    rw [q3] at hy
    cases hx
    cases hy
    exact .inr ⟨T, _, _, rfl, h1, rfl, rfl, .cons q2 (.cons q4 .nil)⟩
theorem walk_zip {a b : Addr} {xs ys : List V} {ds es : List PyData} (h : SqL K Hz a xs) (hd : DpAll K Hz xs ds) (g : SqL K Hz b ys) (gd : DpAll K Hz ys es) : Walk K (Itz K a b) Hz (zipD ds es) where
  stop := fun H s => ⟨xs, ys, sqL s h, sqL s g, by rw [dps_len hd, dps_len gd, zipD_len]; omega⟩
  go := fun i H hi s => by
    rw [zipD_len] at hi
    have h1 : i < xs.length := by rw [dps_len hd]; omega
    have h2 : i < ys.length := by rw [dps_len gd]; omega
    exact ⟨xs, ys, xs[i], ys[i], sqL s h, sqL s g, List.getElem?_eq_getElem h1, List.getElem?_eq_getElem h2⟩
  yld := fun i H x H' d s y e => by
    obtain ⟨T, x', y', rfl, h1, rfl, hx, hy⟩ := y
    obtain ⟨dx, dy, e1, e2, rfl⟩ := zipD_get e
    obtain ⟨x2, q1, q2⟩ := dps_get hd i dx e1
    obtain ⟨y2, q3, q4⟩ := dps_get gd i dy e2
    have hx := hx xs (sqL s h)
    have hy := hy ys (sqL s g)
    rw [q1] at hx
    rw [q3] at hy
    cases hx
    cases hy
    exact .inr ⟨T, _, _, rfl, h1, rfl, rfl, .cons q2 (.cons q4 .nil)⟩
end
section
variable {f : Fr} {te tu : TE} {E U : WE}
def wIList (E : WE) (e : En) (P : List PyData → En → Prop) : Prop := wFz E e fun d e1 => match d with
  | .list ds => P ds e1
  | _ => False
theorem si_list (h : SE f te E) : SI f (iList f.K te) (wIList E) := ⟨fun {L W e σ Hz H Post R} w y k => fz_run h w y fun d e1 v Hz1 H1 h1 s1 y1 d1 => by
  split at h1
  · cases d1 with
    | lst q1 q2 => exact ⟨_, rfl, ⟨_, sqL y1.sm q1⟩, k _ _ _ _ _ h1 s1 y1 (walk_list q1 q2)⟩
  · exact h1.elim⟩
def wITup (E : WE) (e : En) (P : List PyData → En → Prop) : Prop := wFz E e fun d e1 => match d with
  | .tuple ds => P ds e1
  | _ => False
theorem si_tup (h : SE f te E) : SI f (iTup f.K te) (wITup E) := ⟨fun {L W e σ Hz H Post R} w y k => fz_run h w y fun d e1 v Hz1 H1 h1 s1 y1 d1 => by
  split at h1
  · obtain ⟨a, xs, rfl, q1, q2⟩ := dp_tup d1
    exact ⟨_, rfl, ⟨_, sqT y1.sm q1⟩, k _ _ _ _ _ h1 s1 y1 (walk_tup q1 q2)⟩
  · exact h1.elim⟩
def wIRng1 (E : WE) (e : En) (P : List PyData → En → Prop) : Prop := wFz E e fun d e1 => match d with
  | .int n => (-(2 ^ 62) ≤ n ∧ n < 2 ^ 62) ∧ P (rangeD 0 n.toNat) e1
  | _ => False
theorem si_rng1 (h : SE f te E) : SI f (iRng1 (tCons te tNil)) (wIRng1 E) := ⟨fun {L W e σ Hz H Post R} w y k => fz_run h w y fun d e1 v Hz1 H1 h1 s1 y1 d1 => by
  split at h1
  · cases d1
    exact ⟨_, rfl, h1.1.1, h1.1.2, k _ _ _ _ _ h1.2 s1 y1 walk_rng⟩
  · exact h1.elim⟩
def wIRng2 (E U : WE) (e : En) (P : List PyData → En → Prop) : Prop := wFz E e fun d e1 => wFz U e1 fun d' e2 => match d, d' with
  | .int n, .int m => (-(2 ^ 62) ≤ n ∧ n < 2 ^ 62 ∧ -(2 ^ 62) ≤ m ∧ m < 2 ^ 62) ∧ P (rangeD n (m - n).toNat) e2
  | _, _ => False
theorem si_rng2 (h : SE f te E) (h' : SE f tu U) : SI f (iRng2 (tCons te (tCons tu tNil))) (wIRng2 E U) := ⟨fun {L W e σ Hz H Post R} w y k => fz_run h w y fun d e1 v Hz1 H1 h1 s1 y1 d1 => fz_run h' h1 y1 fun d' e2 v2 Hz2 H2 h2 s2 y2 d2 => by
  split at h2
  · cases d1
    cases d2
    exact ⟨_, _, rfl, h2.1, k _ _ _ _ _ h2.2 (same_trans s1 s2) y2 walk_rng⟩
  · exact h2.elim⟩
def wIEnumT (E : WE) (e : En) (P : List PyData → En → Prop) : Prop := wFz E e fun d e1 => match d with
  | .tuple ds => P (enumD ds) e1
  | _ => False
def wIEnum (E : WE) (e : En) (P : List PyData → En → Prop) : Prop := wFz E e fun d e1 => match d with
  | .list ds => P (enumD ds) e1
  | _ => False
theorem si_enumT (h : SE f te E) : SI f (iEnumT f.K (tCons te tNil)) (wIEnumT E) := ⟨fun {L W e σ Hz H Post R} w y k => fz_run h w y fun d e1 v Hz1 H1 h1 s1 y1 d1 => by
  split at h1
  · obtain ⟨a, xs, rfl, q1, q2⟩ := dp_tup d1
    exact ⟨_, xs, rfl, sqT y1.sm q1, k _ _ _ _ _ h1 s1 y1 (walk_enumT q1 q2)⟩
  · exact h1.elim⟩
theorem si_enum (h : SE f te E) : SI f (iEnum f.K (tCons te tNil)) (wIEnum E) := ⟨fun {L W e σ Hz H Post R} w y k => fz_run h w y fun d e1 v Hz1 H1 h1 s1 y1 d1 => by
  split at h1
  · cases d1 with
    | lst q1 q2 => exact ⟨_, _, rfl, sqL y1.sm q1, k _ _ _ _ _ h1 s1 y1 (walk_enum q1 q2)⟩
  · exact h1.elim⟩
def wIZip (E U : WE) (e : En) (P : List PyData → En → Prop) : Prop := wFz E e fun d e1 => wFz U e1 fun d' e2 => match d, d' with
  | .tuple ds, .tuple es => P (zipD ds es) e2
  | .list ds, .list es => P (zipD ds es) e2
  | _, _ => False
theorem si_zip (h : SE f te E) (h' : SE f tu U) : SI f (RZ.iZipA f.K (tCons te (tCons tu tNil))) (wIZip E U) := ⟨fun {L W e σ Hz H Post R} w y k => fz_run h w y fun d e1 v Hz1 H1 h1 s1 y1 d1 => fz_run h' h1 y1 fun d' e2 v2 Hz2 H2 h2 s2 y2 d2 => by
  split at h2
  · obtain ⟨a, xs, rfl, q1, q2⟩ := dp_tup (dp_mono s2 _ _ d1)
    obtain ⟨b, ys, rfl, q3, q4⟩ := dp_tup d2
    exact ⟨a, b, xs, ys, rfl, .inr ⟨sqT y2.sm q1, sqT y2.sm q3, k _ _ _ _ _ h2 (same_trans s1 s2) y2 (walk_zipT q1 q2 q3 q4)⟩⟩
  · cases dp_mono s2 _ _ d1 with
    | lst q1 q2 =>
      cases d2 with
      | lst q3 q4 => exact ⟨_, _, _, _, rfl, .inl ⟨sqL y2.sm q1, sqL y2.sm q3, k _ _ _ _ _ h2 (same_trans s1 s2) y2 (walk_zip q1 q2 q3 q4)⟩⟩
  · exact h2.elim⟩
end
/-! ### for -/
section
variable {f : Fr} {t : TS} {S : WS} {wi : TI} {G : WI} {g : TG} {Gt : WG} {sl : List Nat}
/-- an item is stored -/
theorem step_item {L W e σ Hz Hz0 H H' x d J its i Post Q} (hw : Walk f.K J Hz0 its) (hs : Same Hz0 Hz) (y : Sy f L W e σ Hz H) (hy : J.yld i H x H') (hd : its[i]? = some d) (hg : SG f g Gt sl) (w : Gt (.dat d) e Post)
    (k : ∀ e' σ' Hz' H', Post e' → Same Hz Hz' → Sy f L W e' σ' Hz' H' → (∀ vs, (∀ i ∈ sl, i ∈ vs) → wipe σ' vs = wipe σ vs) → Q σ' H') : g x σ H' Q := by
  rcases hw.yld i H x H' d (same_trans hs y.sm) hy hd with ⟨rfl, h1⟩ | ⟨T, xs, ds, rfl, h1, rfl, rfl, h2⟩
  · exact SG.run (L := L) (W := W) hg w y (dp_mono hs _ _ h1) k
  · have s1 := same_new (y.hz h1) (.tup xs)
    exact SG.run (L := L) (W := W) hg w (y.newT h1) (Dp.tup (SqT.of upd_same) (dps_mono (same_trans hs s1) _ _ h2)) fun e' σ' Hz' H' a b c d => k e' σ' Hz' H' a (same_trans s1 b) c d
/-- a loop's turns -/
def ForB (Gt : WG) (S : WS) (P : Po) (its : List PyData) (e1 : En) : Prop := ∃ Inv : Nat → En → Prop, Inv 0 e1 ∧
  (∀ i d e2, its[i]? = some d → Inv i e2 → Gt (.dat d) e2 fun e3 => S { P with nx := Inv (i + 1), ct := Inv (i + 1), bk := P.nx } e3) ∧ ∀ e2, Inv its.length e2 → P.nx e2
def wFor (G : WI) (Gt : WG) (S : WS) (P : Po) (e : En) : Prop := G e (ForB Gt S P)
theorem for_use {G : WI} {Gt : WG} {S : WS} {P : Po} {e : En} (h : G e (ForB Gt S P)) : wFor G Gt S P e := h
theorem ss_for (hi : SI f wi G) (hg : SG f g Gt sl) (h : SS f t S) : SS f (tFor wi g t) (wFor G Gt S) := ⟨fun {D P e σ Hz H} w y o => hi.run w y fun J its e1 Hz1 H1 w1 s1 y1 hw => by
  obtain ⟨Inv, i0, step, fin⟩ := w1
  refine ⟨fun i m σ H => m = its.length - i ∧ i ≤ its.length ∧ ∃ e Hz, Inv i e ∧ Same Hz1 Hz ∧ Sy f [] [] e σ Hz H, ⟨its.length, rfl, Nat.zero_le _, e1, Hz1, i0, same_refl, y1⟩, ?_⟩
  rintro i m σ H ⟨rfl, hi', e2, Hz2, i2, s2, y2⟩
  by_cases hlt : i < its.length
  · refine .inr ⟨hw.go i H hlt (same_trans s2 y2.sm), fun σ' H' => ∃ e Hz, Inv (i + 1) e ∧ Same Hz2 Hz ∧ Sy f [] [] e σ' Hz H', fun σ' H' ⟨e, Hz, a, b, c⟩ => ⟨its.length - (i + 1), by omega, rfl, hlt, e, Hz, a, same_trans s2 b, c⟩, fun x H' hy => ?_⟩
    refine step_item hw s2 y2 hy (List.getElem?_eq_getElem hlt) hg (step i _ e2 (List.getElem?_eq_getElem hlt) i2) fun e3 σ3 Hz3 H3 w3 s3 y3 _ => ?_
    have o1 := o.mono (same_trans s1 (same_trans s2 s3))
    exact h.run w3 y3 ⟨fun a b c => ⟨_, _, a, same_trans s3 b, c⟩, o1.rt, o1.nx, fun a b c => ⟨_, _, a, same_trans s3 b, c⟩⟩
  · have : i = its.length := by omega
    subst this
    exact .inl ⟨hw.stop H (same_trans s2 y2.sm), o.nx (fin e2 i2) (same_trans s1 s2) y2⟩⟩
end
/-! ### comprehensions -/
section
variable {f : Fr} {te : TE} {E : WE} {tt : TT} {T : WT} {wi : TI} {G : WI} {g : TG} {Gt : WG} {sl : List Nat}
/-- a comprehension's turns -/
def LcB (Gt : WG) (T : WT) (E : WE) (vs : List Nat) (P : Vl → En → Prop) (its : List PyData) (e1 : En) : Prop := ∃ Inv : Nat → List PyData → En → Prop, Inv 0 [] (wipeE e1 vs) ∧
  (∀ i d acc e2, its[i]? = some d → Inv i acc e2 → acc.length ≤ 100000 ∧ Gt (.dat d) e2 fun e3 => T e3 fun b e4 => if b = true then wFz E e4 fun y e5 => Inv (i + 1) (acc ++ [y]) (wipeE e5 vs) else Inv (i + 1) acc (wipeE e4 vs)) ∧
  ∀ acc e2, Inv its.length acc e2 → e2.length = e1.length ∧ P (.ob (.lst acc)) (back e1 vs (wipeE e2 vs))
def wLc (G : WI) (Gt : WG) (T : WT) (E : WE) (vs : List Nat) (e : En) (P : Vl → En → Prop) : Prop := G e (LcB Gt T E vs P)
theorem lc_use {G : WI} {Gt : WG} {T : WT} {E : WE} {vs : List Nat} {e : En} {P : Vl → En → Prop} (h : G e (LcB Gt T E vs P)) : wLc G Gt T E vs e P := h
theorem line_lt {n : Nat} (h : n ≤ 100000) : n < sizeLine := Nat.lt_of_le_of_lt h (by decide)
theorem se_lc {vs : List Nat} (hi : SI f wi G) (hg : SG f g Gt sl) (ht : ST f tt T) (he : SE f te E) (hv : ∀ i ∈ sl, i ∈ vs) : SE f (tLc wi g tt te vs) (wLc G Gt T E vs) := ⟨fun {L W e σ Hz H Post Q} w y k => hi.run w y fun J its e1 Hz1 H1 w1 s1 y1 hw D hD => by
  obtain ⟨Inv, i0, step, fin⟩ := w1
  have ys : Sy f (some (.ob none (.lst [])) :: L) (some (.ref D) :: W) (wipeE e1 vs) (wipe σ vs) Hz1 (upd H1 D (.lst [])) := (y1.newO (o := .lst []) hD ⟨[], upd_same, .nil⟩).wiped vs
  refine ⟨fun i m H => m = its.length - i ∧ i ≤ its.length ∧ ∃ acc e Hz, Inv i acc e ∧ Same Hz1 Hz ∧ Sy f (some (.ob none (.lst acc)) :: L) (some (.ref D) :: W) e (wipe σ vs) Hz H,
    ⟨its.length, rfl, Nat.zero_le _, [], _, Hz1, i0, same_refl, ys⟩, ?_⟩
  rintro i m H ⟨rfl, hi', acc, e2, Hz2, i2, s2, y2⟩
  by_cases hlt : i < its.length
  · refine .inr ⟨hw.go i H hlt (same_trans s2 y2.sm), fun H' => ∃ acc e Hz, Inv (i + 1) acc e ∧ Same Hz1 Hz ∧ Sy f (some (.ob none (.lst acc)) :: L) (some (.ref D) :: W) e (wipe σ vs) Hz H',
      fun H' ⟨acc, e, Hz, a, b, c⟩ => ⟨its.length - (i + 1), by omega, rfl, hlt, acc, e, Hz, a, b, c⟩, fun x H' hy => ?_⟩
    obtain ⟨hl, st⟩ := step i _ acc e2 (List.getElem?_eq_getElem hlt) i2
    refine step_item hw s2 y2 hy (List.getElem?_eq_getElem hlt) hg st fun e3 σ3 Hz3 H3 w3 s3 y3 c3 => ?_
    have cw : wipe σ3 vs = wipe σ vs := by rw [c3 vs hv, wipe_wipe]
    refine ⟨cw, ht.run w3 y3 fun b e4 Hz4 H4 w4 s4 y4 => ?_⟩
    by_cases c : b = true
    · rw [if_pos c] at w4 ⊢
      refine fz_run he w4 y4 fun d e5 v Hz5 H5 w5 s5 y5 d5 => ?_
      obtain ⟨a, ea, ⟨xs, hx, hd⟩, _⟩ := y5.top
      cases ea
      refine ⟨xs, hx, line_lt (by rw [dps_len hd]; exact hl), acc ++ [d], wipeE e5 vs, Hz5, w5, same_trans s2 (same_trans s3 (same_trans s4 s5)), ?_⟩
      have y6 := (y5.wrT (u := .lst (xs ++ [v])) (o' := .lst (acc ++ [d])) ⟨_, upd_same, dps_snoc hd d5⟩).wiped vs
      rw [cw] at y6
      exact y6
    · rw [if_neg c] at w4 ⊢
      have y6 := y4.wiped vs
      rw [cw] at y6
      exact ⟨acc, wipeE e4 vs, Hz4, w4, same_trans s2 (same_trans s3 s4), y6⟩
  · have : i = its.length := by omega
    subst this
    obtain ⟨hl, hf⟩ := fin acc e2 i2
    refine .inl ⟨hw.stop H (same_trans s2 y2.sm), k _ _ _ _ _ hf (same_trans s1 s2) (Sy.back y1 s2 y2.unwipe (by rw [wipeE_len, hl]) vs) trivial⟩⟩
end
end DL


set_option Elab.async false
set_option linter.all false
set_option maxRecDepth 100000
set_option maxHeartbeats 4000000
/-! Sums of lists, methods of lists, slices, calls, defs over the layer of values. -/
namespace DL
open PySem L2 TG
theorem units1 {k : Nat} {A : Around} (r : Room k A) : A.units + 1 < cLine := by have := r.un; omega
def rCatQ (K : PySem.W.Frag) : R2 := fun x y H Q => ∃ l b xs zs, x = .ref l ∧ y = .ref b ∧ SqL K H l xs ∧ SqL K H b zs ∧ xs.length + zs.length ≤ sizeLine ∧ ∀ p, H p = none → Q (.ref p) (upd H p (.lst (xs ++ zs)))
theorem op_catQ {X : Cx} {K : PySem.W.Frag} (hK : X.K = K) : OpR X (binaryOp .Add) (rCatQ K) := by
  subst hK
  intro pins s σ H x y v u Q I rx ry h
  obtain ⟨l, b, xs, zs, rfl, rfl, hH, hB, hz, q⟩ := h
  cases rx
  cases ry
  obtain ⟨vs, r, ⟨⟨cls, dd, data, sl⟩, n, ho, hc, _, hd⟩, _⟩ := I.list hH
  obtain ⟨ws, r2, ⟨⟨cls2, dd2, data2, sl2⟩, n2, ho2, hc2, _, hd2⟩, _⟩ := I.list hB
  simp only at hc hd hc2 hd2
  subst hc hd hc2 hd2
  have e : vs.toArray ++ ws.toArray = (vs ++ ws).toArray := by simp
  have h1 := r.length
  have h2 := r2.length
  refine PySem.concat_meets ⟨_, ho, rfl⟩ ⟨_, ho2, rfl⟩ PySem.noFill_list_add PySem.seq_list_add PySem.F.slot_list_add PySem.F.entry_list_add (PySem.F.args_list_add_2 _ _) (PyProof.Rows.list_addW l b vs.toArray ws.toArray n n2 dd dd2 sl sl2 (by simp only [List.size_toArray]; omega)) ⟨ho, ho2, ?_⟩
  rw [e]
  exact ⟨.ref _, _, I.lnew (t' := s.toks) (r.append r2) (by rw [List.length_append]; exact hz), rfl, q _ I.fresh⟩
section
variable {f : Fr} {te tu : TE} {E U : WE}
theorem sr_cat : SR f (rCatQ f.K) gCat := ⟨fun {L W e σ Hz H x y d1 d2 Post Q} r1 r2 s h k => by
  unfold gCat at h
  split at h
  · obtain ⟨a, xs, rfl, q1, q2⟩ := r1
    obtain ⟨b, ys, rfl, q3, q4⟩ := r2
    exact ⟨a, b, xs, ys, rfl, rfl, q1, q3, by rw [dps_len q2, dps_len q4]; exact h.1, fun p hp => k _ _ _ _ h.2 same_refl (s.newO (o := .lst _) hp ⟨_, upd_same, dps_app q2 q4⟩) trivial⟩
  · exact h.elim⟩
/-! ### methods of the list of a slot -/
theorem var_at {L e : En} {W σ : St} {Hz H : Hp} {i : Nat} {t : Option Nat} {o : Ob} (y : Sy f L W e σ Hz H) (q : e[i]? = some (some (.ob t o))) : ∃ a, σ[i]? = some (some (.ref a)) := by
  obtain ⟨a, h, _⟩ := y.ob q
  exact ⟨a, h⟩
def wApp (i : Nat) (E : WE) (e : En) (P : Vl → En → Prop) : Prop := match e[i]? with
  | some (some (.ob _ (.lst _))) => wFz E e fun d e1 => match e1[i]? with
    | some (some (.ob t (.lst ds))) => ds.length ≤ 100000 ∧ P (.dat .none) (e1.set i (some (.ob t (.lst (ds ++ [d])))))
    | _ => False
  | _ => False
theorem se_app {i : Nat} (h : SE f te E) : SE f (tBM f.K "list" rAppend (tVar i) (tCons te tNil)) (wApp i E) := ⟨fun {L W e σ Hz H Post Q} w y k => by
  unfold wApp at w
  split at w
  · rename_i t ds q
    obtain ⟨a, h1, ⟨xs, h2, h3⟩, h4⟩ := y.ob q
    refine ⟨_, h1, .inl ⟨rfl, xs, SqL.of h2⟩, ?_⟩
    refine fz_run h w y fun d e1 v Hz1 H1 w1 s1 y1 d1 => ?_
    split at w1
    · rename_i t2 ds2 q2
      obtain ⟨a2, g1, ⟨xs2, g2, g3⟩, g4⟩ := y1.ob q2
      rw [h1] at g1
      cases g1
      exact ⟨a, xs2, v, rfl, rfl, g2, line_lt (by rw [dps_len g3]; exact w1.1), k _ _ _ _ _ w1.2 s1 (y1.wr q2 h1 ⟨_, upd_same, dps_snoc g3 d1⟩) Dp.non⟩
    · exact w1.elim
  · exact w.elim⟩
/-- a tracked list -/
def trk : Vl → En → Option (List PyData)
  | .ob (.lst ds), _ => some ds
  | .own i, e => match e[i]? with
    | some (some (.ob _ (.lst ds))) => some ds
    | _ => none
  | _, _ => none
theorem Sy.trk {L e : En} {W σ : St} {Hz H : Hp} {b : Vl} {v : V} {ds : List PyData} (y : Sy f (tmp b L) (tmv b v W) e σ Hz H) (hv : Val f b v σ Hz) (h : trk b e = some ds) : ∃ a xs, v = .ref a ∧ H a = some (.lst xs) ∧ DpAll f.K Hz xs ds := by
  cases b with
  | dat d' => cases h
  | ob o =>
    cases o with
    | lst ds =>
      cases h
      obtain ⟨a, ea, ⟨xs, h1, h2⟩, _⟩ := Sy.top y
      cases ea
      exact ⟨a, xs, rfl, h1, h2⟩
    | _ => cases h
  | own i =>
    simp only [DL.trk] at h
    split at h
    · rename_i t ds q
      cases h
      obtain ⟨a, e1, ⟨xs, h1, h2⟩, _⟩ := y.ob q
      have hv' : σ[i]? = some (some v) := hv
      rw [hv'] at e1
      cases e1
      exact ⟨a, xs, rfl, h1, h2⟩
    · cases h
def wExt (i : Nat) (E : WE) (e : En) (P : Vl → En → Prop) : Prop := match e[i]? with
  | some (some (.ob _ (.lst _))) => E e fun b e1 => ob1 (trk b e1) fun es => match e1[i]? with
    | some (some (.ob t (.lst ds))) => ds.length + es.length ≤ 100000 ∧ P (.dat .none) (e1.set i (some (.ob t (.lst (ds ++ es)))))
    | _ => False
  | _ => False
theorem se_ext {i : Nat} (h : SE f te E) : SE f (tBM f.K "list" rExtend (tVar i) (tCons te tNil)) (wExt i E) := ⟨fun {L W e σ Hz H Post Q} w y k => by
  unfold wExt at w
  split at w
  · rename_i t ds q
    obtain ⟨a, h1, ⟨xs, h2, h3⟩, h4⟩ := y.ob q
    refine ⟨_, h1, .inl ⟨rfl, xs, SqL.of h2⟩, ?_⟩
    refine h.run w y fun b e1 v Hz1 H1 w1 s1 y1 l1 => ?_
    obtain ⟨es, c, w1⟩ := ob1_ex w1
    obtain ⟨b', zs, rfl, c1, c2⟩ := y1.trk l1 c
    split at w1
    · rename_i t2 ds2 q2
      obtain ⟨a2, g1, ⟨xs2, g2, g3⟩, g4⟩ := y1.ob q2
      rw [h1] at g1
      cases g1
      exact ⟨a, b', xs2, zs, rfl, rfl, g2, c1, Evl.sz_of (by rw [dps_len g3, dps_len c2]; exact w1.1), k _ _ _ _ _ w1.2 s1 (y1.un.wr q2 h1 ⟨_, upd_same, dps_app g3 c2⟩) Dp.non⟩
    · exact w1.elim
  · exact w.elim⟩
def wPop (i : Nat) (e : En) (P : Vl → En → Prop) : Prop := match e[i]? with
  | some (some (.ob t (.lst ds))) => ob1 (ds[ds.length - 1]?) fun d => P (.dat d) (e.set i (some (.ob t (.lst ds.dropLast))))
  | _ => False
theorem dps_dropLast {K : PySem.W.Frag} {Hz : Hp} {xs : List V} {ds : List PyData} (h : DpAll K Hz xs ds) : DpAll K Hz xs.dropLast ds.dropLast := by
  rw [List.dropLast_eq_take, List.dropLast_eq_take, dps_len h]
  exact dps_take _ h
theorem se_pop {i : Nat} : SE f (tBM0 f.K "list" rPop (tVar i)) (wPop i) := ⟨fun {L W e σ Hz H Post Q} w y k => by
  unfold wPop at w
  split at w
  · rename_i t ds q
    obtain ⟨d, c, w⟩ := ob1_ex w
    obtain ⟨a, h1, ⟨xs, h2, h3⟩, h4⟩ := y.ob q
    obtain ⟨x, g1, g2⟩ := dps_get h3 _ _ c
    exact ⟨_, h1, .inl ⟨rfl, xs, SqL.of h2⟩, a, xs, x, rfl, rfl, h2, by rw [dps_len h3]; exact g1, k _ _ _ _ _ w same_refl (y.wr q h1 ⟨_, upd_same, dps_dropLast h3⟩) g2⟩
  · exact w.elim⟩
/-! ### slices -/
def wNoPart (e : En) (P : Option Int → En → Prop) : Prop := P none e
def wPart (E : WE) (e : En) (P : Option Int → En → Prop) : Prop := wFz E e fun d e1 => match d with
  | .int i => P (some i) e1
  | _ => False
theorem so_none : SO f tNoPart wNoPart := ⟨fun w y k => k _ _ _ _ w same_refl y⟩
theorem so_some (h : SE f te E) : SO f (tPart te) (wPart E) := ⟨fun {L W e σ Hz H Post Q} w y k => fz_run h w y fun d e1 v Hz1 H1 w1 s1 y1 d1 => by
  split at w1
  · cases d1
    exact ⟨_, rfl, k _ _ _ _ w1 s1 y1⟩
  · exact w1.elim⟩
def cutD (xs : List PyData) (lo hi : Option Int) : List PyData := (xs.drop (HT.sIx xs.length 0 lo)).take (HT.sIx xs.length xs.length hi - HT.sIx xs.length 0 lo)
theorem dps_cut {K : PySem.W.Frag} {Hz : Hp} {xs : List V} {ds : List PyData} (lo hi : Option Int) (h : DpAll K Hz xs ds) : DpAll K Hz (cutV xs lo hi) (cutD ds lo hi) := by
  unfold cutV cutD
  rw [dps_len h]
  exact dps_take _ (dps_drop _ h)
def wSlT (E : WE) (A B : WO) (e : En) (P : Vl → En → Prop) : Prop := wFz E e fun d e1 => A e1 fun lo e2 => B e2 fun hi e3 => match d with
  | .tuple ds => P (.dat (.tuple (cutD ds lo hi))) e3
  | _ => False
theorem se_slT {tl th : TO} {A B : WO} (h : SE f te E) (hl : SO f tl A) (hh : SO f th B) : SE f (tSl (rSlA f.K) te tl th) (wSlT E A B) := ⟨fun {L W e σ Hz H Post Q} w y k =>
  fz_run h w y fun d e1 v Hz1 H1 w1 s1 y1 d1 => hl.run w1 y1 fun lo e2 Hz2 H2 w2 s2 y2 => hh.run w2 y2 fun hi e3 Hz3 H3 w3 s3 y3 => by
    split at w3
    · obtain ⟨a, xs, rfl, q1, q2⟩ := dp_tup (dp_mono (same_trans s2 s3) _ _ d1)
      have qc := dps_cut lo hi q2
      refine ⟨a, xs, rfl, sqT y3.sm q1, fun c => ?_, fun c p hp => ?_⟩
      · have e2 : cutV xs lo hi = xs := by
          unfold cutV
          rw [c.1, c.2]
          simp
        rw [e2] at qc
        exact k _ _ _ _ _ w3 (same_trans s1 (same_trans s2 s3)) y3 (Dp.tup q1 qc)
      · have s4 := same_new (y3.hz hp) (.tup (cutV xs lo hi))
        exact k _ _ _ _ _ w3 (same_trans s1 (same_trans s2 (same_trans s3 s4))) (y3.newT hp) (Dp.tup (SqT.of upd_same) (dps_mono s4 _ _ qc))
    · exact w3.elim⟩
def wSlL (E : WE) (A B : WO) (e : En) (P : Vl → En → Prop) : Prop := wFz E e fun d e1 => A e1 fun lo e2 => B e2 fun hi e3 => match d with
  | .list ds => P (.ob (.lst (cutD ds lo hi))) e3
  | _ => False
theorem se_slL {tl th : TO} {A B : WO} (h : SE f te E) (hl : SO f tl A) (hh : SO f th B) : SE f (tSl (rSlL f.K) te tl th) (wSlL E A B) := ⟨fun {L W e σ Hz H Post Q} w y k =>
  fz_run h w y fun d e1 v Hz1 H1 w1 s1 y1 d1 => hl.run w1 y1 fun lo e2 Hz2 H2 w2 s2 y2 => hh.run w2 y2 fun hi e3 Hz3 H3 w3 s3 y3 => by
    split at w3
    · cases dp_mono (same_trans s2 s3) _ _ d1 with
      | lst q1 q2 => exact ⟨_, _, rfl, sqL y3.sm q1, fun p hp => k _ _ _ _ _ w3 (same_trans s1 (same_trans s2 s3)) (y3.newO (o := .lst _) hp ⟨_, upd_same, dps_cut lo hi q2⟩) trivial⟩
    · exact w3.elim⟩
end
/-! ### the operations on data, for simp -/
theorem eI0 {g : Int → Int → V} {i j : Int} {P : Vl → Prop} : gI0 g (.int i) (.int j) P = (P (.dat (vD (g i j)))) := rfl
theorem eI {C : Int → Int → Prop} {g : Int → Int → V} {i j : Int} {P : Vl → Prop} : gI C g (.int i) (.int j) P = (C i j ∧ P (.dat (vD (g i j)))) := rfl
theorem eInD {neg : Bool} {d1 : PyData} {ds : List PyData} {P : Vl → Prop} : gInD neg d1 (.list ds) P = (SeqAt.shaped d1 = true ∧ SeqAt.shaped (.list ds) = true ∧ P (.dat (.bool (if neg then !(ds.any fun z => PyData.eqv z d1) else ds.any fun z => PyData.eqv z d1)))) := rfl
theorem eInL {neg : Bool} {d1 : PyData} {ds : List PyData} {P : Vl → Prop} : gIn neg d1 (.list ds) P = (flatD d1 = true ∧ ds.all flatD = true ∧ P (.dat (.bool (if neg then !inV (dV d1) (ds.map dV) else inV (dV d1) (ds.map dV))))) := rfl
theorem eInT {neg : Bool} {d1 : PyData} {ds : List PyData} {P : Vl → Prop} : gIn neg d1 (.tuple ds) P = (flatD d1 = true ∧ ds.all flatD = true ∧ P (.dat (.bool (if neg then !inV (dV d1) (ds.map dV) else inV (dV d1) (ds.map dV))))) := rfl
theorem eIxL {ds : List PyData} {i : Int} {P : Vl → Prop} : gIxL (.list ds) (.int i) P = (ob1 (atI ds i) fun d => P (.dat d)) := rfl
theorem eIxT {ds : List PyData} {i : Int} {P : Vl → Prop} : gIxT (.tuple ds) (.int i) P = (ob1 (atI ds i) fun d => P (.dat d)) := rfl
theorem eIx1 {ds : List PyData} {i : Int} {P : Vl → Prop} : gIx (.list ds) (.int i) P = (ob1 (atI ds i) fun d => P (.dat d)) := rfl
theorem eIx2 {ds : List PyData} {i : Int} {P : Vl → Prop} : gIx (.tuple ds) (.int i) P = (ob1 (atI ds i) fun d => P (.dat d)) := rfl
theorem eIxS {z : Str} {i : Int} {P : Vl → Prop} : gIxS (.str z) (.int i) P = (z.length ≤ sizeLine ∧ ob1 (atI z.cps.toList i) fun c => P (.dat (.str ⟨#[c]⟩))) := rfl
theorem eIsN {neg : Bool} {d1 : PyData} {P : Vl → Prop} : gIsN neg d1 .none P = (P (.dat (.bool (if neg then !isNone d1 else isNone d1)))) := rfl
theorem eCat {ds es : List PyData} {P : Vl → Prop} : gCat (.list ds) (.list es) P = (ds.length + es.length ≤ sizeLine ∧ P (.ob (.lst (ds ++ es)))) := rfl
theorem eCatT {ds es : List PyData} {P : Vl → Prop} : gCatT (.tuple ds) (.tuple es) P = (ds.length + es.length ≤ sizeLine ∧ P (.dat (.tuple (ds ++ es)))) := rfl
theorem eLen_list {ds : List PyData} {P : Vl → Prop} : gLen (.list ds) P = (P (.dat (.int ds.length))) := rfl
theorem eTupOf_list {ds : List PyData} {P : Vl → Prop} : gTupOf (.list ds) P = (P (.dat (.tuple ds))) := rfl
theorem eListOf_list {ds : List PyData} {P : Vl → Prop} : gListOf (.list ds) P = (P (.ob (.lst ds))) := rfl
theorem eLen_tuple {ds : List PyData} {P : Vl → Prop} : gLen (.tuple ds) P = (P (.dat (.int ds.length))) := rfl
theorem eTupOf_tuple {ds : List PyData} {P : Vl → Prop} : gTupOf (.tuple ds) P = (P (.dat (.tuple ds))) := rfl
theorem eListOf_tuple {ds : List PyData} {P : Vl → Prop} : gListOf (.tuple ds) P = (P (.ob (.lst ds))) := rfl
theorem eSum {ds : List PyData} {P : Vl → Prop} : gSum (.list ds) P = (ob1 (intsD ds) fun ns => P (.dat (.int ns.sum))) := rfl
theorem eMax {ds : List PyData} {P : Vl → Prop} : gMax (.list ds) P = (ob1 (intsD ds) fun ns => 0 < ns.length ∧ ∀ m, m ∈ ns → (∀ y ∈ ns, y ≤ m) → P (.dat (.int m))) := rfl
theorem eMin {ds : List PyData} {P : Vl → Prop} : gMin (.list ds) P = (ob1 (intsD ds) fun ns => 0 < ns.length ∧ ∀ m, m ∈ ns → (∀ y ∈ ns, m ≤ y) → P (.dat (.int m))) := rfl
theorem eAll {ds : List PyData} {P : Vl → Prop} : gAll (.list ds) P = (ob1 (boolsD ds) fun ns => P (.dat (.bool (ns.all id)))) := rfl
theorem eAny {ds : List PyData} {P : Vl → Prop} : gAny (.list ds) P = (ob1 (boolsD ds) fun ns => P (.dat (.bool (ns.any id)))) := rfl
theorem eSorted {ds : List PyData} {P : Vl → Prop} : gSorted (.list ds) P = (ob1 (intsD ds) fun ns => ∀ ns' : List Int, ns'.Perm ns → ns'.Pairwise (· ≤ ·) → P (.ob (.lst (ns'.map PyData.int)))) := rfl
theorem eSortSet {ds : List PyData} {P : Vl → Prop} : gSortSet (.list ds) P = (ob1 (intsD ds) fun ns => ns.length < 64 ∧ ∀ ns' : List Int, ns'.Pairwise (· < ·) → (∀ k, k ∈ ns' ↔ k ∈ ns) → P (.ob (.lst (ns'.map PyData.int)))) := rfl
theorem eInt_int {i : Int} {P : Vl → Prop} : gInt (.int i) P = (P (.dat (.int i))) := rfl
theorem eInt_bool {b : Bool} {P : Vl → Prop} : gInt (.bool b) P = (P (.dat (.int (if b then 1 else 0)))) := rfl
theorem eAbs {i : Int} {P : Vl → Prop} : gAbs (.int i) P = (P (.dat (.int (if i < 0 then -i else i)))) := rfl
theorem ety_none  : tyD .none = ("NoneType") := rfl
theorem eno_none  : isNone .none = (true) := rfl
theorem efl_none  : flatD .none = (true) := rfl
theorem ety_bool {b : Bool} : tyD (.bool b) = ("bool") := rfl
theorem eno_bool {b : Bool} : isNone (.bool b) = (false) := rfl
theorem efl_bool {b : Bool} : flatD (.bool b) = (true) := rfl
theorem ety_int {i : Int} : tyD (.int i) = ("int") := rfl
theorem eno_int {i : Int} : isNone (.int i) = (false) := rfl
theorem efl_int {i : Int} : flatD (.int i) = (true) := rfl
theorem ety_str {x : Str} : tyD (.str x) = ("str") := rfl
theorem eno_str {x : Str} : isNone (.str x) = (false) := rfl
theorem efl_str {x : Str} : flatD (.str x) = (true) := rfl
theorem ety_list {ds : List PyData} : tyD (.list ds) = ("list") := rfl
theorem eno_list {ds : List PyData} : isNone (.list ds) = (false) := rfl
theorem efl_list {ds : List PyData} : flatD (.list ds) = (false) := rfl
theorem ety_tuple {ds : List PyData} : tyD (.tuple ds) = ("tuple") := rfl
theorem eno_tuple {ds : List PyData} : isNone (.tuple ds) = (false) := rfl
theorem efl_tuple {ds : List PyData} : flatD (.tuple ds) = (false) := rfl
theorem etr_none  : truD .none = (some false) := rfl
theorem etr_bool {b : Bool} : truD (.bool b) = (some b) := rfl
theorem etr_int {i : Int} : truD (.int i) = (some (i != 0)) := rfl
theorem etr_list {ds : List PyData} : truD (.list ds) = (some (!ds.isEmpty)) := rfl
theorem etr_tuple {ds : List PyData} : truD (.tuple ds) = (some (!ds.isEmpty)) := rfl
theorem evd_non  : vD .non = (.none) := rfl
theorem evd_bl {b : Bool} : vD (.bl b) = (.bool b) := rfl
theorem evd_int {i : Int} : vD (.int i) = (.int i) := rfl
theorem evd_str {x : Str} : vD (.str x) = (.str x) := rfl
theorem etk_ob {ds : List PyData} {e : En} : trk (.ob (.lst ds)) e = (some ds) := rfl
theorem cast_0 : ((0 : Nat) : Int) = 0 := rfl
theorem cast_1 : ((1 : Nat) : Int) = 1 := rfl
theorem cast_2 : ((2 : Nat) : Int) = 2 := rfl
theorem cast_3 : ((3 : Nat) : Int) = 3 := rfl
theorem cast_4 : ((4 : Nat) : Int) = 4 := rfl
theorem cast_5 : ((5 : Nat) : Int) = 5 := rfl
theorem cast_6 : ((6 : Nat) : Int) = 6 := rfl
theorem cast_7 : ((7 : Nat) : Int) = 7 := rfl
theorem cast_8 : ((8 : Nat) : Int) = 8 := rfl
theorem ix_1_0 : ixN 1 0 = some 0 := rfl
theorem ix_2_0 : ixN 2 0 = some 0 := rfl
theorem ix_2_1 : ixN 2 1 = some 1 := rfl
theorem ix_3_0 : ixN 3 0 = some 0 := rfl
theorem ix_3_1 : ixN 3 1 = some 1 := rfl
theorem ix_3_2 : ixN 3 2 = some 2 := rfl
theorem ix_4_0 : ixN 4 0 = some 0 := rfl
theorem ix_4_1 : ixN 4 1 = some 1 := rfl
theorem ix_4_2 : ixN 4 2 = some 2 := rfl
theorem ix_4_3 : ixN 4 3 = some 3 := rfl
theorem at_0 {α : Type} {x : α} {r : List α} : atI (x :: r) 0 = some x := atI_nat (j := 0) rfl
theorem at_1 {α : Type} {x y : α} {r : List α} : atI (x :: y :: r) 1 = some y := atI_nat (j := 1) rfl
theorem at_2 {α : Type} {x y z : α} {r : List α} : atI (x :: y :: z :: r) 2 = some z := atI_nat (j := 2) rfl
theorem at_3 {α : Type} {x y z u : α} {r : List α} : atI (x :: y :: z :: u :: r) 3 = some u := atI_nat (j := 3) rfl
/-! ### shape and equality of small data -/
theorem shaped_int (i : Int) : SeqAt.shaped (.int i) = true := by unfold SeqAt.shaped; simp [PyData.canLay0, PyData.depth]
theorem shaped_bool (b : Bool) : SeqAt.shaped (.bool b) = true := by unfold SeqAt.shaped; simp [PyData.canLay0, PyData.depth]
theorem shaped_none : SeqAt.shaped .none = true := by unfold SeqAt.shaped; simp [PyData.canLay0, PyData.depth]
theorem shaped_str (x : Str) : SeqAt.shaped (.str x) = PyData.strOk x := by unfold SeqAt.shaped; simp [PyData.canLay0, PyData.depth]
theorem eqv_int (i j : Int) : PyData.eqv (.int i) (.int j) = decide (i = j) := by rw [PyData.eqv]; exact (Bool.beq_eq_decide_eq i j)
theorem eqv_bool (i j : Bool) : PyData.eqv (.bool i) (.bool j) = decide (i = j) := by rw [PyData.eqv]; exact (Bool.beq_eq_decide_eq i j)
theorem eqv_str (i j : Str) : PyData.eqv (.str i) (.str j) = decide (i = j) := by
  rw [PyData.eqv]
  exact Bool.beq_eq_decide_eq i j
theorem eqv_nn : PyData.eqv .none .none = true := by rw [PyData.eqv]
theorem map_get {α β : Type} {l : List α} {g : α → β} {i : Nat} {d : β} (h : (l.map g)[i]? = some d) : ∃ x, l[i]? = some x ∧ g x = d := by
  rw [List.getElem?_map] at h
  cases c : l[i]? with
  | none => rw [c] at h; cases h
  | some x => rw [c] at h; exact ⟨x, rfl, Option.some.inj h⟩
theorem range_get {lo : Int} {n i : Nat} {d : PyData} (h : (rangeD lo n)[i]? = some d) : i < n ∧ d = .int (lo + i) := by
  obtain ⟨x, h1, rfl⟩ := map_get h
  have hi : i < n := by have := (List.getElem?_eq_some_iff.mp h1).1; simpa using this
  rw [List.getElem?_range hi] at h1
  cases h1
  exact ⟨hi, rfl⟩
theorem range_len {lo : Int} {n : Nat} : (rangeD lo n).length = n := by simp [rangeD]
theorem bools_rep (n : Nat) (b : Bool) : boolsD (List.replicate n (.bool b)) = some (List.replicate n b) := by
  have := boolsD_map (List.replicate n b)
  rwa [List.map_replicate] at this
theorem all_rep (n : Nat) : (List.replicate n true).all id = true := by simp
theorem rep_succ {α : Type} (n : Nat) (a : α) : List.replicate (n + 1) a = List.replicate n a ++ [a] := List.replicate_succ'
/-! ### loops over written things; comprehensions without a state -/
def runFor (Gt : WG) (S : WS) (P : Po) : List PyData → En → Prop
  | [], e => P.nx e
  | d :: ds, e => Gt (.dat d) e fun e3 => S { P with nx := runFor Gt S P ds, ct := runFor Gt S P ds, bk := P.nx } e3
theorem for_unroll {Gt : WG} {S : WS} {P : Po} {its : List PyData} {e1 : En} (h : runFor Gt S P its e1) : ForB Gt S P its e1 := by
  refine ⟨fun i e => runFor Gt S P (its.drop i) e, h, fun i d e2 hd hi => ?_, fun e2 hi => ?_⟩
  · have hl : i < its.length := (List.getElem?_eq_some_iff.mp hd).1
    have e := List.drop_eq_getElem_cons hl
    dsimp only at hi
    rw [e] at hi
    have : its[i] = d := by rw [List.getElem?_eq_getElem hl] at hd; exact Option.some.inj hd
    rw [this] at hi
    exact hi
  · dsimp only at hi
    rw [List.drop_length] at hi
    exact hi
theorem lc_acc {Gt : WG} {T : WT} {E : WE} {vs : List Nat} {its : List PyData} {e1 e0 : En} {P : Vl → En → Prop} (acc : Nat → List PyData) (h0 : acc 0 = []) (he : e0 = wipeE e1 vs) (hl : ∀ i, i < its.length → (acc i).length ≤ 100000)
    (hs : ∀ i d, its[i]? = some d → Gt (.dat d) e0 fun e3 => T e3 fun b e4 => if b = true then wFz E e4 fun y e5 => acc (i + 1) = acc i ++ [y] ∧ wipeE e5 vs = e0 else acc (i + 1) = acc i ∧ wipeE e4 vs = e0)
    (hP : P (.ob (.lst (acc its.length))) (back e1 vs (wipeE e0 vs))) : LcB Gt T E vs P its e1 := by
  refine ⟨fun i ac e => acc i = ac ∧ e = e0, ⟨h0, he.symm⟩, ?_, ?_⟩
  · rintro i d ac e2 hd ⟨rfl, rfl⟩
    exact ⟨hl i (List.getElem?_eq_some_iff.mp hd).1, hs i d hd⟩
  · rintro ac e2 ⟨rfl, rfl⟩
    exact ⟨by rw [he, wipeE_len], hP⟩
/-! ### data that are not too deep, not too wide -/
def Fine : Nat → PyData → Prop
  | _, .none => True
  | _, .bool _ => True
  | _, .int _ => True
  | _, .str x => PyData.strOk x = true
  | m + 1, .tuple ds => ds.length ≤ 40000 ∧ ∀ d ∈ ds, Fine m d
  | m + 1, .list ds => ds.length ≤ 40000 ∧ ∀ d ∈ ds, Fine m d
  | 0, .tuple _ => False
  | 0, .list _ => False
  | _, .dict _ => False
theorem Fine.small : ∀ {m : Nat} {d : PyData}, Fine m d → Small m d
  | m, .none, _ => ⟨by rw [PyData.canLay0], by rw [PyData.depth]; exact Nat.zero_le _⟩
  | m, .bool _, _ => ⟨by rw [PyData.canLay0], by rw [PyData.depth]; exact Nat.zero_le _⟩
  | m, .int _, _ => ⟨by rw [PyData.canLay0], by rw [PyData.depth]; exact Nat.zero_le _⟩
  | m, .str x, h => ⟨by rw [PyData.canLay0]; unfold Fine at h; exact h, by rw [PyData.depth]; exact Nat.zero_le _⟩
  | m + 1, .tuple ds, h => by
    unfold Fine at h
    exact Small.tuple fun d hd => Fine.small (h.2 d hd)
  | m + 1, .list ds, h => by
    unfold Fine at h
    exact Small.list fun d hd => Fine.small (h.2 d hd)
  | 0, .tuple _, h => by unfold Fine at h; exact h.elim
  | 0, .list _, h => by unfold Fine at h; exact h.elim
  | m, .dict _, h => by cases m <;> (unfold Fine at h; exact h.elim)
theorem Fine.ok {m : Nat} {d : PyData} (h : Fine m d) (hm : m ≤ 64) : SeqAt.shaped d = true := h.small.ok hm
theorem Fine.mono : ∀ {m n : Nat} {d : PyData}, Fine m d → m ≤ n → Fine n d
  | m, n, .none, _, _ => by cases n <;> (unfold Fine; trivial)
  | m, n, .bool _, _, _ => by cases n <;> (unfold Fine; trivial)
  | m, n, .int _, _, _ => by cases n <;> (unfold Fine; trivial)
  | m, n, .str x, h, _ => by cases n <;> (unfold Fine at h ⊢; exact h)
  | m + 1, 0, .tuple ds, h, hn => by omega
  | m + 1, n + 1, .tuple ds, h, hn => by
    unfold Fine at h ⊢
    exact ⟨h.1, fun d hd => Fine.mono (h.2 d hd) (by omega)⟩
  | m + 1, 0, .list ds, h, hn => by omega
  | m + 1, n + 1, .list ds, h, hn => by
    unfold Fine at h ⊢
    exact ⟨h.1, fun d hd => Fine.mono (h.2 d hd) (by omega)⟩
  | 0, n, .tuple _, h, _ => by unfold Fine at h; exact h.elim
  | 0, n, .list _, h, _ => by unfold Fine at h; exact h.elim
  | m, n, .dict _, h, _ => by cases m <;> (unfold Fine at h; exact h.elim)
theorem Fine.int {m : Nat} (i : Int) : Fine m (.int i) := by cases m <;> (unfold Fine; trivial)
theorem Fine.bool {m : Nat} (i : Bool) : Fine m (.bool i) := by cases m <;> (unfold Fine; trivial)
theorem Fine.non {m : Nat} : Fine m .none := by cases m <;> (unfold Fine; trivial)
theorem Fine.str {m : Nat} {x : Str} (h : PyData.strOk x = true) : Fine m (.str x) := by cases m <;> (unfold Fine; exact h)
theorem Fine.tup {m : Nat} {ds : List PyData} (h : ds.length ≤ 40000) (hd : ∀ d ∈ ds, Fine m d) : Fine (m + 1) (.tuple ds) := by
  unfold Fine
  exact ⟨h, hd⟩
theorem Fine.lst {m : Nat} {ds : List PyData} (h : ds.length ≤ 40000) (hd : ∀ d ∈ ds, Fine m d) : Fine (m + 1) (.list ds) := by
  unfold Fine
  exact ⟨h, hd⟩
theorem fine_row {ds : List Nat} (h : ds.length ≤ 40000) : Fine 1 (rowD ds) := Fine.tup (by rw [List.length_map]; exact h) fun d hd => by
  obtain ⟨n, _, rfl⟩ := List.mem_map.mp hd
  exact .int _
theorem fine_rows {rs : List (List Nat)} (h : rs.length ≤ 40000) (hr : ∀ r ∈ rs, r.length ≤ 40000) : Fine 2 (rowsD rs) := Fine.tup (by rw [List.length_map]; exact h) fun d hd => by
  obtain ⟨r, hm, rfl⟩ := List.mem_map.mp hd
  exact fine_row (hr r hm)
mutual
theorem eqv_self : ∀ {m : Nat} (d : PyData), Fine m d → PyData.eqv d d = true
  | m, .none, _ => eqv_nn
  | m, .bool b, _ => by rw [eqv_bool]; simp
  | m, .int b, _ => by rw [eqv_int]; simp
  | m, .str b, _ => by rw [eqv_str]; simp
  | m + 1, .tuple ds, h => by
    unfold Fine at h
    rw [PyData.eqv]
    exact eqvAll_self ds h.2
  | m + 1, .list ds, h => by
    unfold Fine at h
    rw [PyData.eqv]
    exact eqvAll_self ds h.2
  | 0, .tuple _, h => by unfold Fine at h; exact h.elim
  | 0, .list _, h => by unfold Fine at h; exact h.elim
  | m, .dict _, h => by cases m <;> (unfold Fine at h; exact h.elim)
theorem eqvAll_self : ∀ {m : Nat} (ds : List PyData), (∀ d ∈ ds, Fine m d) → PyData.eqvAll ds ds = true
  | m, [], _ => by rw [PyData.eqvAll]
  | m, d :: ds, h => by rw [PyData.eqvAll, eqv_self d (h d List.mem_cons_self), eqvAll_self ds fun x hx => h x (List.mem_cons_of_mem _ hx)]; rfl
end
theorem shaped_nil : SeqAt.shaped (.list []) = true := (Fine.lst (m := 0) (ds := []) (by simp) (by simp)).ok (by decide)
theorem shaped_nilT : SeqAt.shaped (.tuple []) = true := (Fine.tup (m := 0) (ds := []) (by simp) (by simp)).ok (by decide)
theorem eqv_lnil (ds : List PyData) : PyData.eqv (.list ds) (.list []) = ds.isEmpty := by
  rw [PyData.eqv]
  cases ds <;> simp [PyData.eqvAll]
theorem eqv_tnil (ds : List PyData) : PyData.eqv (.tuple ds) (.tuple []) = ds.isEmpty := by
  rw [PyData.eqv]
  cases ds <;> simp [PyData.eqvAll]
/-! ### defs -/
abbrev FSp := En → (Vl → En → Prop) → Prop
def spD (K : PySem.W.Frag) (F : FSp) : Sp := fun vs H Q _ => ∃ (args : En) (A : List Addr) (Hz : Hp) (P : Vl → En → Prop), Sy ⟨K, A, Hz, H⟩ [] [] args (vs.map some) Hz H ∧
  F args P ∧ ∀ b outs, P b outs → ∀ v Hz' H', Sy ⟨K, A, Hz, H⟩ (tmp b []) (tmv b v []) outs (vs.map some) Hz' H' → Val ⟨K, A, Hz, H⟩ b v [] Hz' → Q v H'
theorem spD_len {K : PySem.W.Frag} {F : FSp} {n : Nat} (hF : ∀ args P, F args P → args.length = n) {vs : List V} {H : Hp} {Q : VK} {E : XK} (h : spD K F vs H Q E) : vs.length = n := by
  obtain ⟨args, A, Hz, P, y, hf, _⟩ := h
  have := y.len
  rw [List.length_map] at this
  rw [← this]
  exact hF _ _ hf
/-- what has become of the objects that were given -/
def out1 : Option B → Option B → Option B
  | some (.ob (some j) _), some (.ob (some j') o) => if j = j' then some (.ob (some j) o) else none
  | _, _ => none
def outsOf : En → En → En
  | [], _ => []
  | _ :: as, [] => none :: outsOf as []
  | a :: as, x :: es => out1 a x :: outsOf as es
theorem outs_nil {e : En} : outsOf [] e = [] := by cases e <;> rfl
theorem outs_cons {a x : Option B} {as es : En} : outsOf (a :: as) (x :: es) = out1 a x :: outsOf as es := rfl
theorem out1_dat {d : PyData} {x : Option B} : out1 (some (.dat d)) x = none := by cases x <;> rfl
theorem out1_none {x : Option B} : out1 none x = none := by cases x <;> rfl
theorem out1_ob {j : Nat} {o o' : Ob} : out1 (some (.ob (some j) o)) (some (.ob (some j) o')) = some (.ob (some j) o') := by simp [out1]
section
variable {f : Fr} {Hz H Hz' H' : Hp}
theorem pr_outs : ∀ {args e : En} {W σ : St} {O0 O : List Addr}, Pr f Hz H args W O0 → Pr f Hz' H' e σ O → ∃ O', O'.Sublist O ∧ Pr f Hz' H' (outsOf args e) W O'
  | [], _, _, _, _, _, .nil, h => ⟨[], List.nil_sublist _, by unfold outsOf; exact .nil⟩
  | _ :: as, [], _, _, _, _, h0, .nil => by
    cases h0 with
    | skip p =>
      obtain ⟨O', h1, h2⟩ := pr_outs p .nil
      exact ⟨O', h1, by unfold outsOf; exact .skip h2⟩
    | dat _ p =>
      obtain ⟨O', h1, h2⟩ := pr_outs p .nil
      exact ⟨O', h1, by unfold outsOf; exact .skip h2⟩
    | ob _ _ _ p =>
      obtain ⟨O', h1, h2⟩ := pr_outs p .nil
      exact ⟨O', h1, by unfold outsOf; exact .skip h2⟩
  | a :: as, x :: es, _, _, _, _, h0, h => by
    have key : ∀ {w : Option V} {W σ' : St} {O0' O' : List Addr}, Pr f Hz H as W O0' → Pr f Hz' H' es σ' O' → ∃ O2, O2.Sublist O' ∧ Pr f Hz' H' (none :: outsOf as es) (w :: W) O2 := fun p p' => by
      obtain ⟨O2, h1, h2⟩ := pr_outs p p'
      exact ⟨O2, h1, .skip h2⟩
    cases h0 with
    | skip p =>
      have e1 : outsOf (none :: as) (x :: es) = none :: outsOf as es := by cases x <;> rfl
      rw [e1]
      cases h with
      | skip p' => exact key p p'
      | dat _ p' => exact key p p'
      | ob _ _ _ p' =>
        obtain ⟨O2, h1, h2⟩ := key (w := _) p p'
        exact ⟨O2, h1.cons _, h2⟩
    | dat _ p =>
      have e1 : ∀ d, outsOf (some (.dat d) :: as) (x :: es) = none :: outsOf as es := fun d => by cases x <;> rfl
      rw [e1]
      cases h with
      | skip p' => exact key p p'
      | dat _ p' => exact key p p'
      | ob _ _ _ p' =>
        obtain ⟨O2, h1, h2⟩ := key (w := _) p p'
        exact ⟨O2, h1.cons _, h2⟩
    | @ob a0 t0 o0 _ _ _ q1 q2 q3 p =>
      cases h with
      | skip p' =>
        have e1 : outsOf (some (.ob t0 o0) :: as) (none :: es) = none :: outsOf as es := by cases t0 <;> rfl
        rw [e1]
        exact key p p'
      | @dat v d _ _ _ _ p' =>
        have e1 : outsOf (some (.ob t0 o0) :: as) (some (.dat d) :: es) = none :: outsOf as es := by cases t0 <;> rfl
        rw [e1]
        exact key p p'
      | @ob a1 t1 o1 _ _ O1 g1 g2 g3 p' =>
        obtain ⟨O2, h1, h2⟩ := pr_outs p p'
        cases t0 with
        | none =>
          have e1 : outsOf (some (.ob none o0) :: as) (some (.ob t1 o1) :: es) = none :: outsOf as es := by cases t1 <;> rfl
          rw [e1]
          exact ⟨O2, h1.cons _, .skip h2⟩
        | some j =>
          cases t1 with
          | none => exact ⟨O2, h1.cons _, .skip h2⟩
          | some j' =>
            show ∃ O', O'.Sublist (a1 :: O1) ∧ Pr f Hz' H' ((if j = j' then some (.ob (some j) o1) else none) :: outsOf as es) _ O'
            by_cases c : j = j'
            · subst c
              rw [if_pos rfl]
              have h5 := q3 j rfl
              have h6 := g3 j rfl
              rw [h5] at h6
              cases h6
              exact ⟨a0 :: O2, h1.cons₂ _, .ob g1 g2 g3 h2⟩
            · rw [if_neg c]
              exact ⟨O2, h1.cons _, .skip h2⟩
theorem Sy.outs {L e args : En} {W σ W0 : St} (y : Sy f L W e σ Hz' H') {O0 : List Addr} (p0 : Pr f Hz H args W0 O0) : Sy f L W (outsOf args e) W0 Hz' H' := by
  obtain ⟨⟨O1, O2, p1, p2, nd, fr⟩, sm, tz, nw, kp, ka, az, tp⟩ := y
  obtain ⟨O', h1, h2⟩ := pr_outs p0 p2
  have sub : (O1 ++ O').Sublist (O1 ++ O2) := List.Sublist.append (List.Sublist.refl _) h1
  exact ⟨⟨O1, O', p1, h2, sub.nodup nd, fun a ha => fr a (sub.subset ha)⟩, sm, tz, nw, kp, ka, az, tp⟩
theorem pr_more {e : En} {σ : St} {O : List Addr} (h : Pr f Hz H e σ O) (n : Nat) : Pr f Hz H (e ++ List.replicate n none) (σ ++ List.replicate n none) O := by
  induction h with
  | nil =>
    rw [List.nil_append, List.nil_append]
    induction n with
    | zero => exact .nil
    | succ n ih => exact .skip ih
  | skip _ ih => exact .skip ih
  | dat d _ ih => exact .dat d ih
  | ob a b c _ ih => exact .ob a b c ih
theorem Sy.more {L e : En} {W σ : St} (y : Sy f L W e σ Hz H) (n : Nat) : Sy f L W (e ++ List.replicate n none) (σ ++ List.replicate n none) Hz H := by
  obtain ⟨⟨O1, O2, p1, p2, nd, fr⟩, sm, tz, nw, kp, ka, az, tp⟩ := y
  exact ⟨⟨O1, O2, p1, pr_more p2 n, nd, fr⟩, sm, tz, nw, kp, ka, az, tp⟩
end
def retP (args : En) (P : Vl → En → Prop) : Po := ⟨fun e => P (.dat .none) (outsOf args e), fun b e => notOwn b = true ∧ P b (outsOf args e), fun _ => False, fun _ => False⟩
theorem retP_nx {args : En} {P : Vl → En → Prop} {e : En} : (retP args P).nx e = P (.dat .none) (outsOf args e) := rfl
theorem retP_rtD {args : En} {P : Vl → En → Prop} {d : PyData} {e : En} : (retP args P).rt (.dat d) e = P (.dat d) (outsOf args e) := by simp [retP, notOwn]
theorem retP_rtO {args : En} {P : Vl → En → Prop} {o : Ob} {e : En} : (retP args P).rt (.ob o) e = P (.ob o) (outsOf args e) := by simp [retP, notOwn]
theorem notOwn_dat {d : PyData} : notOwn (.dat d) = true := rfl
theorem notOwn_ob {o : Ob} : notOwn (.ob o) = true := rfl
/-- a def's body -/
theorem fn_run {K : PySem.W.Frag} {F : FSp} {t : TS} {S : WS} {N : List Str} {vs : List V} {H : Hp} {Q : VK} {E : XK} (h : spD K F vs H Q E) (hs : ∀ A Hz, SS ⟨K, A, Hz, H⟩ t S)
    (hw : ∀ args P, args.length = vs.length → F args P → S (retP args P) (args ++ List.replicate (N.length - args.length) none)) : t { nx := fun _ H' => Q .non H', rt := Q } (start N vs) H := by
  obtain ⟨args, A, Hz, P, y, hF, hQ⟩ := h
  have hl : args.length = vs.length := by have := y.len; rw [List.length_map] at this; exact this
  obtain ⟨O1, O2, p1, p2, nd, fr⟩ := y.ex
  have hw' := hw args _ hl hF
  rw [hl] at hw'
  refine (hs A Hz).run hw' (y.more (N.length - vs.length)) ⟨?_, ?_, fun a => a.elim, fun a => a.elim⟩
  · intro e σ Hz' H' hP s1 y1
    exact hQ _ _ hP .non Hz' H' (Sy.outs y1 p2) Dp.non
  · intro b e σ v Hz' H' hP s1 y1 l1
    exact hQ _ _ hP.2 v Hz' H' (y1.outs p2) (val_not l1 hP.1)
/-! ### calls -/
section
variable {f : Fr} {ta : TA} {A : WA} {F : FSp} {E : XK}
def dats (ds : List PyData) : En := ds.map fun d => some (.dat d)
theorem pr_dats {f' : Fr} {Hz H : Hp} (hK : f'.K = f.K) : ∀ {ds : List PyData} {vs : List V}, DpAll f.K Hz vs ds → Pr f' Hz H (dats ds) (vs.map some) []
  | [], _, .nil => .nil
  | d :: ds, _, .cons h1 h2 => .dat (by rw [hK]; exact h1) (pr_dats hK h2)
/-- what a call keeps of the caller's state -/
theorem Sy.called {L e : En} {W σ : St} {Hz H Hz' H' : Hp} {A' : List Addr} {b : Vl} {v : V} {outs : En} {W0 : St} (y : Sy f L W e σ Hz H) (y' : Sy ⟨f.K, A', Hz, H⟩ (tmp b []) (tmv b v []) outs W0 Hz' H')
    {O1 O2 : List Addr} (p1 : Pr f Hz H L W O1) (p2 : Pr f Hz H e σ O2) (nd : (O1 ++ O2).Nodup) (fr : ∀ a ∈ O1 ++ O2, Hz a = none) (dj : ∀ a ∈ O1 ++ O2, a ∉ A') (hA : ∀ a ∈ A', a ∉ f.A → f.H0 a = none) (hb : notOwn b = true) :
    Sy f (tmp b L) (tmv b v W) e σ Hz' H' ∧ Same Hz Hz' ∧ ∃ O1', Pr f Hz' H' (tmp b L) (tmv b v W) O1' ∧ Pr f Hz' H' e σ O2 ∧ (O1' ++ O2).Nodup ∧ (∀ a ∈ O1' ++ O2, Hz' a = none ∧ (a ∈ O1 ++ O2 ∨ H a = none)) := by
  have s1 : Same Hz Hz' := y'.tz
  have keep : ∀ a ∈ O1 ++ O2, H' a = H a := fun a ha => by
    have h1 : H a ≠ none := by
      rcases List.mem_append.mp ha with q | q
      · exact p1.there a q
      · exact p2.there a q
    cases c : H a with
    | none => exact absurd c h1
    | some u => exact y'.kp a u (dj a ha) c
  have hz : ∀ a ∈ O1 ++ O2, Hz' a = none := fun a ha => by
    cases c : Hz' a with
    | none => rfl
    | some u =>
      rcases y'.nw a (by rw [c]; exact Option.some_ne_none _) with q | q
      · exact absurd (fr a ha) q
      · rcases List.mem_append.mp ha with r | r
        · exact absurd q (p1.there a r)
        · exact absurd q (p2.there a r)
  have k1 := p1.keep s1 (fun a ha => keep a (List.mem_append_left _ ha))
  have k2 := p2.keep s1 (fun a ha => keep a (List.mem_append_right _ ha))
  have base : ∀ {L1 : En} {W1 : St} {O : List Addr}, Pr f Hz' H' L1 W1 O → (O ++ O2).Nodup → (∀ a ∈ O ++ O2, Hz' a = none) → Sy f L1 W1 e σ Hz' H' := fun q1 q2 q3 =>
    ⟨⟨_, O2, q1, k2, q2, q3⟩, y'.sm, same_trans y.tz s1, fun a h => by
      rcases y'.nw a h with q | q
      · exact y.nw a q
      · right
        cases c : f.H0 a with
        | none => rfl
        | some u => exact absurd q (y.ka a (by rw [c]; exact Option.some_ne_none _)), fun a u h1 h2 => by
      by_cases c : a ∈ A'
      · rw [hA a c h1] at h2
        cases h2
      · exact y'.kp a u c (y.kp a u h1 h2), fun a h => y'.ka a (y.ka a h), fun a h => by
      obtain ⟨q1, q2⟩ := y.az a h
      refine ⟨q1, ?_⟩
      cases c : Hz' a with
      | none => rfl
      | some u =>
        rcases y'.nw a (by rw [c]; exact Option.some_ne_none _) with r | r
        · exact absurd q2 r
        · exact absurd r (y.ka a q1), y'.tp⟩
  cases b with
  | own i => cases hb
  | dat d => exact ⟨base k1 nd hz, s1, O1, k1, k2, nd, fun a ha => ⟨hz a ha, .inl ha⟩⟩
  | ob o =>
    obtain ⟨R1, R2, r1, r2, rd, rf⟩ := y'.ex
    cases r1 with
    | @ob ra _ _ _ _ Rr q1 q2 q3 q4 =>
      have hn : H ra = none := q2 rfl
      have h0 : f.H0 ra = none := by
        cases c : f.H0 ra with
        | none => rfl
        | some u => exact absurd hn (y.ka ra (by rw [c]; exact Option.some_ne_none _))
      have pn : Pr f Hz' H' (some (.ob none o) :: L) (some (.ref ra) :: W) (ra :: O1) := .ob q1 (fun _ => h0) (fun j z => by cases z) k1
      have nin : ra ∉ O1 ++ O2 := fun c => by
        rcases List.mem_append.mp c with r | r
        · exact p1.there ra r hn
        · exact p2.there ra r hn
      have nd2 : ((ra :: O1) ++ O2).Nodup := List.nodup_cons.mpr ⟨nin, nd⟩
      have hz2 : ∀ a ∈ (ra :: O1) ++ O2, Hz' a = none := fun a ha => by
        rcases List.mem_cons.mp ha with rfl | ha
        · exact rf a List.mem_cons_self
        · exact hz a ha
      refine ⟨base pn nd2 hz2, s1, ra :: O1, pn, k2, nd2, fun a ha => ⟨hz2 a ha, ?_⟩⟩
      rcases List.mem_cons.mp ha with rfl | ha
      · exact .inr hn
      · exact .inl ha
/-- f(data, ..) -/
def wCall (F : FSp) (A : WA) (e : En) (P : Vl → En → Prop) : Prop := A e fun ds e1 => F (dats ds) fun b _ => notOwn b = true ∧ P b e1
theorem se_call (h : SA f ta A) : SE f (tCall (spD f.K F) [] E ta) (wCall F A) := ⟨fun {L W e σ Hz H Post Q} w y k => h.run w y fun ds e1 vs Hz1 H1 w1 s1 y1 d1 => by
  rw [List.append_nil]
  have yc : Sy ⟨f.K, [], Hz1, H1⟩ [] [] (dats ds) (vs.map some) Hz1 H1 := ⟨⟨[], [], .nil, pr_dats rfl d1, List.nodup_nil, fun a ha => by cases ha⟩, y1.sm, same_refl, fun b h => .inl h, fun b u _ h => h, fun b h => h, (fun a ha => by cases ha), y1.tp⟩
  refine ⟨dats ds, [], Hz1, _, yc, w1, fun b o hb v Hz' H' y' l' => ?_⟩
  obtain ⟨O1, O2, p1, p2, nd, fr⟩ := y1.ex
  obtain ⟨y2, s2, _⟩ := y1.called y' p1 p2 nd fr (fun a _ c => by cases c) (fun a c => by cases c) hb.1
  exact k _ _ _ _ _ hb.2 (same_trans s1 s2) y2 (by
    cases b with
    | dat d => exact l'
    | ob o => trivial
    | own i => cases hb.1)⟩
def out0 : En → Option Ob
  | some (.ob (some 0) o) :: _ => some o
  | _ => none
theorem out0_get {outs : En} {o : Ob} (h : out0 outs = some o) : outs[0]? = some (some (.ob (some 0) o)) := by
  unfold out0 at h
  split at h
  · cases h
    rfl
  · cases h
/-- f(x, data, ..), x an object of a slot that the call may change -/
def wCallO (F : FSp) (i : Nat) (A : WA) (e : En) (P : Vl → En → Prop) : Prop := match e[i]? with
  | some (some (.ob _ _)) => A e fun ds e1 => match e1[i]? with
    | some (some (.ob t o)) => F (some (.ob (some 0) o) :: dats ds) fun b outs => notOwn b = true ∧ ob1 (out0 outs) fun o' => P b (e1.set i (some (.ob t o')))
    | _ => False
  | _ => False
theorem se_callO {i : Nat} (h : SA f ta A) : SE f (tCall (spD f.K F) [] E (tCons (tVar i) ta)) (wCallO F i A) := ⟨fun {L W e σ Hz H Post Q} w y k => by
  unfold wCallO at w
  split at w
  · rename_i t0 o0 q0
    obtain ⟨a, ha, _, _⟩ := y.ob q0
    refine ⟨_, ha, h.run w y fun ds e1 vs Hz1 H1 w1 s1 y1 d1 => ?_⟩
    split at w1
    · rename_i t o q
      rw [List.append_nil]
      obtain ⟨O1, O2, p1, p2, nd, fr⟩ := y1.ex
      obtain ⟨a', O', h1, h2, h3, h4, h5, h6⟩ := p2.take q
      rw [ha] at h1
      cases h1
      have hz : Hz1 a = none := fr a (List.mem_append_right _ (h5.mem_iff.mpr List.mem_cons_self))
      have yc : Sy ⟨f.K, [a], Hz1, H1⟩ [] [] (some (.ob (some 0) o) :: dats ds) ((V.ref a :: vs).map some) Hz1 H1 :=
        ⟨⟨[], [a], .nil, .ob h2 (fun z => by cases z) (fun j z => by cases z; rfl) (pr_dats rfl d1), by simp, fun b hb => by
          rw [List.nil_append, List.mem_singleton] at hb
          rw [hb]
          exact hz⟩, y1.sm, same_refl, fun b h => .inl h, fun b u _ h => h, fun b h => h, fun b hb => by
          rw [List.mem_singleton] at hb
          rw [hb]
          exact ⟨h2.there, hz⟩, y1.tp⟩
      refine ⟨_, [a], Hz1, _, yc, w1, fun b outs hb v Hz' H' y' l' => ?_⟩
      obtain ⟨hb1, hb2⟩ := hb
      obtain ⟨o', qo, hb2⟩ := ob1_ex hb2
      replace qo := out0_get qo
      · have nd1 := perm_nodup nd h5
        have pm : (O1 ++ (a :: O')).Perm (a :: (O1 ++ O')) := List.perm_middle
        have nd2 := pm.nodup_iff.mp nd1
        have ndx := List.nodup_cons.mp nd2
        have yx : Sy f L W (e1.set i none) σ Hz1 H1 := ⟨⟨O1, O', p1, h6, ndx.2, fun b hb => fr b (by
          rcases List.mem_append.mp hb with r | r
          · exact List.mem_append_left _ r
          · exact List.mem_append_right _ (h5.mem_iff.mpr (List.mem_cons_of_mem _ r)))⟩, y1.sm, y1.tz, y1.nw, y1.kp, y1.ka, y1.az, y1.tp⟩
        obtain ⟨y2, s2, O1', g1, g2, g3, g4⟩ := yx.called y' p1 h6 ndx.2 (fun b hb => fr b (by
          rcases List.mem_append.mp hb with r | r
          · exact List.mem_append_left _ r
          · exact List.mem_append_right _ (h5.mem_iff.mpr (List.mem_cons_of_mem _ r)))) (fun b hb c => by
            rw [List.mem_singleton] at c
            exact ndx.1 (c ▸ hb)) (fun b hb c => by
            rw [List.mem_singleton] at hb
            rw [hb] at c ⊢
            cases t with
            | none => exact h3 rfl
            | some j => exact absurd (List.mem_of_getElem? (h4 j rfl)) c) hb1
        obtain ⟨ax, x1, x2, x3⟩ := y'.ob qo
        have ea : ax = a := by
          have z : ((V.ref a :: vs).map some)[0]? = some (some (V.ref a)) := rfl
          rw [z] at x1
          cases x1
          rfl
        subst ea
        have hi : i < (e1.set i none).length := by rw [List.length_set]; exact (List.getElem?_eq_some_iff.mp q).1
        obtain ⟨O3, c1, c2⟩ := g2.putO (i := i) x2 h3 h4 (by rw [List.getElem?_set_self (by rw [List.length_set] at hi; exact hi)])
        rw [List.set_set, set_self_some ha] at c2
        have na : ax ∉ O1' ++ O' := fun c => by
          rcases (g4 ax c).2 with r | r
          · exact ndx.1 r
          · exact h2.there r
        have pm2 : (O1' ++ O3).Perm (ax :: (O1' ++ O')) := (c1.append_left O1').trans List.perm_middle
        have y3 : Sy f (tmp b L) (tmv b v W) (e1.set i (some (.ob t o'))) σ Hz' H' := ⟨⟨O1', O3, g1, c2, pm2.nodup_iff.mpr (List.nodup_cons.mpr ⟨na, g3⟩), fun z hz => by
          rcases List.mem_cons.mp (pm2.mem_iff.mp hz) with rfl | r
          · exact x3
          · exact (g4 z r).1⟩, y2.sm, y2.tz, y2.nw, y2.kp, y2.ka, y2.az, y2.tp⟩
        exact k _ _ _ _ _ hb2 (same_trans s1 s2) y3 (by
          cases b with
          | dat d => exact l'
          | ob o => trivial
          | own i => cases hb1)
    · exact w1.elim
  · exact w.elim⟩
end
end DL


set_option Elab.async false
set_option linter.all false
set_option maxRecDepth 100000
set_option maxHeartbeats 4000000
/-! From promises by hand to promises over the layer. -/
namespace DL
open PySem L2 TG
open Classical in
noncomputable def grown (Hz H H' : Hp) : Hp := fun b => if H b = none then H' b else Hz b
section
variable {K : PySem.W.Frag} {A : List Addr} {Hz H H' : Hp} {args : En} {W : St}
theorem pr_nones {f : Fr} {Hz H Hz' H' : Hp} {e : En} {σ : St} {O : List Addr} (h : Pr f Hz H e σ O) : Pr f Hz' H' (e.map fun _ => none) σ [] := by
  induction h with
  | nil => exact .nil
  | skip _ ih => exact .skip ih
  | dat d _ ih => exact .skip ih
  | ob a b c _ ih => exact .skip ih
theorem Sy.grow (y : Sy ⟨K, A, Hz, H⟩ [] [] args W Hz H) (s : Same H H') : Sy ⟨K, A, Hz, H⟩ [] [] (args.map fun _ => none) W (grown Hz H H') H' ∧ Same Hz (grown Hz H H') := by
  have s1 : Same Hz (grown Hz H H') := fun b o q => by
    unfold grown
    rw [if_neg (by rw [y.sm b o q]; exact Option.some_ne_none _)]
    exact q
  obtain ⟨O1, O2, p1, p2, nd, fr⟩ := y.ex
  refine ⟨⟨⟨[], [], .nil, pr_nones p2, List.nodup_nil, fun a ha => by cases ha⟩, ?_, s1, ?_, fun b u _ h => s b u h, ?_, ?_, ?_⟩, s1⟩
  · intro b o q
    unfold grown at q
    by_cases c : H b = none
    · rw [if_pos c] at q
      exact q
    · rw [if_neg c] at q
      exact s b o (y.sm b o q)
  · intro b q
    by_cases c : H b = none
    · exact .inr c
    · unfold grown at q
      rw [if_neg c] at q
      exact .inl q
  · intro b q
    cases c : H b with
    | none => exact absurd c q
    | some u => rw [s b u c]; exact Option.some_ne_none _
  · intro a ha
    obtain ⟨q1, q2⟩ := y.az a ha
    refine ⟨q1, ?_⟩
    unfold grown
    rw [if_neg q1]
    exact q2
  · intro b u q c
    unfold grown
    cases e : H b with
    | none => rw [if_pos rfl]; exact q
    | some u' =>
      rw [if_neg (Option.some_ne_none _)]
      rw [s b u' e] at q
      cases q
      exact y.tp b u e c
/-- a def that keeps the heap and gives data of tuples -/
theorem hand_dat {args : En} {vs : List V} {P : Vl → En → Prop} {Q : VK} {d' : PyData} {v' : V} (y : Sy ⟨K, A, Hz, H⟩ [] [] args (vs.map some) Hz H)
    (hQ : ∀ b outs, P b outs → ∀ v Hz' H', Sy ⟨K, A, Hz, H⟩ (tmp b []) (tmv b v []) outs (vs.map some) Hz' H' → Val ⟨K, A, Hz, H⟩ b v [] Hz' → Q v H')
    (hP : P (.dat d') (args.map fun _ => none)) (s : Same H H') (h : Dp K H' v' d') (p : pT d' = true) : Q v' H' := by
  obtain ⟨y1, s1⟩ := y.grow s
  exact hQ _ _ hP v' _ H' y1 (y1.dpz p h)
theorem sy_dat {args : En} {vs : List V} {i : Nat} {d : PyData} (y : Sy ⟨K, A, Hz, H⟩ [] [] args (vs.map some) Hz H) (h : args[i]? = some (some (.dat d))) : ∃ v, vs[i]? = some v ∧ Dp K H v d := by
  obtain ⟨v, h1, h2⟩ := y.get h
  rw [List.getElem?_map] at h1
  cases c : vs[i]? with
  | none => rw [c] at h1; cases h1
  | some x =>
    rw [c] at h1
    cases h1
    exact ⟨v, rfl, dp_mono y.sm _ _ h2⟩
/-- one argument -/
theorem sy_one {vs : List V} {d : PyData} (y : Sy ⟨K, A, Hz, H⟩ [] [] [some (.dat d)] (vs.map some) Hz H) : ∃ v, vs = [v] ∧ Dp K H v d := by
  obtain ⟨v, h1, h2⟩ := sy_dat (i := 0) y rfl
  have hl := y.len
  rw [List.length_map] at hl
  match vs, hl, h1 with
  | [x], _, h1 => cases h1; exact ⟨v, rfl, h2⟩
end
/-! ### the row of draws -/
def rowL (ns : List Int) (i s t : Int) : List PyData := [.list (ns.map PyData.int), .int i, .int s, .int t]
def IsRow (o : Ob) : Prop := ∃ (ns : List Int) (i s t : Int), o = .lst (rowL ns i s t) ∧ ns.length ≤ 63 ∧ 0 ≤ i
def F_law_taken : FSp := fun args P => ∃ (o : Ob) (m : Int), args = [some (.ob (some 0) o), some (.dat (.int m))] ∧ IsRow o ∧ (0 < m ∧ m < 1073741824) ∧ ∀ (d : Int) (o' : Ob), IsRow o' → 0 ≤ d → d < m → P (.dat (.int d)) [some (.ob (some 0) o'), none]
theorem rowL_eq (ns : List Int) (i s t : Int) : rowL ns i s t = [.list (ns.map PyData.int), .int i, .int s, .int t] := rfl
def F_law_pick : FSp := fun args P => ∃ (o : Ob) (ds : List PyData), args = [some (.ob (some 0) o), some (.dat (.list ds))] ∧ IsRow o ∧ (0 < ds.length ∧ ds.length < 1000) ∧ ∀ (d : PyData) (o' : Ob), IsRow o' → d ∈ ds → P (.dat d) [some (.ob (some 0) o'), none]
end DL


set_option Elab.async false
set_option linter.all false
set_option maxRecDepth 100000
set_option maxHeartbeats 4000000
/-! Dicts with keys ints and texts over the layer of values. -/
namespace DL
open PySem L2 TG
def valD {κ : Type} [DecidableEq κ] (kvs : List (κ × PyData)) (k : κ) : Option PyData := (kvs.find? fun kv => decide (kv.1 = k)).map (·.2)
def putD {κ : Type} [DecidableEq κ] (kvs : List (κ × PyData)) (k : κ) (d : PyData) : List (κ × PyData) :=
  if (kvs.any fun kv => decide (kv.1 = k)) = true then kvs.map (fun kv => if kv.1 = k then (kv.1, d) else kv) else kvs ++ [(k, d)]
def mergeD (kvs more : List (Key × PyData)) : List (Key × PyData) := more.foldl (fun acc kv => putD acc kv.1 kv.2) kvs
section
variable {κ : Type} [DecidableEq κ] {K : PySem.W.Frag} {Hz : Hp}
theorem KvR.nil : KvR K Hz ([] : List (κ × V)) [] := ⟨rfl, .nil⟩
theorem kv_cons {p : κ × V} {q : κ × PyData} {ks : List (κ × V)} {kvs : List (κ × PyData)} (h : KvR K Hz (p :: ks) (q :: kvs)) : p.1 = q.1 ∧ Dp K Hz p.2 q.2 ∧ KvR K Hz ks kvs := by
  obtain ⟨h1, h2⟩ := h
  simp only [List.map_cons, List.cons.injEq] at h1
  simp only [List.map_cons] at h2
  cases h2 with
  | cons a b => exact ⟨h1.1, a, h1.2, b⟩
theorem KvR.cons {p : κ × V} {q : κ × PyData} {ks : List (κ × V)} {kvs : List (κ × PyData)} (h1 : p.1 = q.1) (h2 : Dp K Hz p.2 q.2) (h : KvR K Hz ks kvs) : KvR K Hz (p :: ks) (q :: kvs) :=
  ⟨by simp only [List.map_cons, h1, h.1], .cons h2 h.2⟩
theorem KvR.val : ∀ {ks : List (κ × V)} {kvs : List (κ × PyData)} (h : KvR K Hz ks kvs) (k : κ), (valD kvs k = none ∧ valV ks k = none) ∨ ∃ v d, valD kvs k = some d ∧ valV ks k = some v ∧ Dp K Hz v d
  | [], [], h, k => .inl ⟨rfl, rfl⟩
  | [], _ :: _, h, k => by cases h.1
  | _ :: _, [], h, k => by cases h.1
  | p :: ks, q :: kvs, h, k => by
    obtain ⟨h1, h2, h3⟩ := kv_cons h
    by_cases c : p.1 = k
    · have c' : q.1 = k := by rw [← h1]; exact c
      refine .inr ⟨p.2, q.2, ?_, ?_, h2⟩
      · unfold valD
        rw [List.find?_cons_of_pos (by simpa using c')]
        rfl
      · unfold valV
        rw [List.find?_cons_of_pos (by simpa using c)]
        rfl
    · have c' : ¬ q.1 = k := by rw [← h1]; exact c
      have e1 : valD (q :: kvs) k = valD kvs k := by unfold valD; rw [List.find?_cons_of_neg (by simpa using c')]
      have e2 : valV (p :: ks) k = valV ks k := by unfold valV; rw [List.find?_cons_of_neg (by simpa using c)]
      rw [e1, e2]
      exact KvR.val h3 k
theorem KvR.any : ∀ {ks : List (κ × V)} {kvs : List (κ × PyData)} (h : KvR K Hz ks kvs) (k : κ), (ks.any fun kv => decide (kv.1 = k)) = kvs.any fun kv => decide (kv.1 = k)
  | [], [], h, k => rfl
  | [], _ :: _, h, k => by cases h.1
  | _ :: _, [], h, k => by cases h.1
  | p :: ks, q :: kvs, h, k => by
    obtain ⟨h1, h2, h3⟩ := kv_cons h
    rw [List.any_cons, List.any_cons, h1, KvR.any h3 k]
theorem KvR.map : ∀ {ks : List (κ × V)} {kvs : List (κ × PyData)} (h : KvR K Hz ks kvs) {k : κ} {v : V} {d : PyData}, Dp K Hz v d →
    KvR K Hz (ks.map fun kv => if kv.1 = k then (kv.1, v) else kv) (kvs.map fun kv => if kv.1 = k then (kv.1, d) else kv)
  | [], [], h, k, v, d, hd => .nil
  | [], _ :: _, h, k, v, d, hd => by cases h.1
  | _ :: _, [], h, k, v, d, hd => by cases h.1
  | p :: ks, q :: kvs, h, k, v, d, hd => by
    obtain ⟨h1, h2, h3⟩ := kv_cons h
    have ih := KvR.map h3 (k := k) hd
    rw [List.map_cons, List.map_cons]
    by_cases c : p.1 = k
    · rw [if_pos c, if_pos (h1 ▸ c)]
      exact .cons h1 hd ih
    · rw [if_neg c, if_neg (h1 ▸ c)]
      exact .cons h1 h2 ih
theorem KvR.app {ks ks' : List (κ × V)} {kvs kvs' : List (κ × PyData)} (h : KvR K Hz ks kvs) (h' : KvR K Hz ks' kvs') : KvR K Hz (ks ++ ks') (kvs ++ kvs') :=
  ⟨by rw [List.map_append, List.map_append, h.1, h'.1], by rw [List.map_append, List.map_append]; exact dps_app h.2 h'.2⟩
theorem KvR.put {ks : List (κ × V)} {kvs : List (κ × PyData)} (h : KvR K Hz ks kvs) (k : κ) {v : V} {d : PyData} (hd : Dp K Hz v d) : KvR K Hz (putK ks k v) (putD kvs k d) := by
  unfold putK putD
  rw [h.any k]
  split
  · exact h.map hd
  · exact h.app (.cons rfl hd .nil)
theorem KvR.len {ks : List (κ × V)} {kvs : List (κ × PyData)} (h : KvR K Hz ks kvs) : ks.length = kvs.length := by
  have := congrArg List.length h.1
  rwa [List.length_map, List.length_map] at this
theorem KvR.mono {Hz' : Hp} {ks : List (κ × V)} {kvs : List (κ × PyData)} (h : KvR K Hz ks kvs) (s : Same Hz Hz') : KvR K Hz' ks kvs := ⟨h.1, dps_mono s _ _ h.2⟩
end
theorem KvR.merge {K : PySem.W.Frag} {Hz : Hp} : ∀ {ms : List (Key × V)} {mds : List (Key × PyData)} {ks : List (Key × V)} {kvs : List (Key × PyData)}, KvR K Hz ms mds → KvR K Hz ks kvs → KvR K Hz (mergeK ks ms) (mergeD kvs mds)
  | [], [], _, _, _, h => h
  | [], _ :: _, _, _, h, _ => by cases h.1
  | _ :: _, [], _, _, h, _ => by cases h.1
  | p :: ms, q :: mds, ks, kvs, h, g => by
    obtain ⟨h1, h2, h3⟩ := kv_cons h
    show KvR K Hz (mergeK (putK ks p.1 p.2) ms) (mergeD (putD kvs q.1 q.2) mds)
    rw [h1]
    exact KvR.merge h3 (g.put _ h2)
/-- a key as data -/
def keyD : PyData → Option Key
  | .int i => some (.inl i)
  | .str x => some (.inr x)
  | _ => none
theorem key_dp {K : PySem.W.Frag} {Hz : Hp} {v : V} {d : PyData} {k : Key} (h : Dp K Hz v d) (e : keyD d = some k) : v = kV k := by
  cases h with
  | int i => cases e; rfl
  | str x => cases e; rfl
  | _ => cases e
theorem keyD_int {i : Int} : keyD (.int i) = some (.inl i) := rfl
theorem keyD_str {x : Str} : keyD (.str x) = some (.inr x) := rfl
/-- the dict of a value -/
def dkOf : Vl → En → Option (List (Key × PyData))
  | .ob (.dK kvs), _ => some kvs
  | .own i, e => match e[i]? with
    | some (some (.ob _ (.dK kvs))) => some kvs
    | _ => none
  | _, _ => none
def dkS : Option (Option B) → Option (List (Key × PyData))
  | some (some (.ob _ (.dK kvs))) => some kvs
  | _ => none
theorem dk_ob {kvs : List (Key × PyData)} {e : En} : dkOf (.ob (.dK kvs)) e = some kvs := rfl
theorem dk_own {i : Nat} {e : En} : dkOf (.own i) e = dkS e[i]? := by unfold dkOf dkS; rfl
theorem dkS_ob {t : Option Nat} {kvs : List (Key × PyData)} : dkS (some (some (.ob t (.dK kvs)))) = some kvs := rfl
section
variable {f : Fr} {td ty te : TE} {Ed Ey E : WE}
theorem Sy.dk {L e : En} {W σ : St} {Hz H : Hp} {b : Vl} {v : V} {kvs : List (Key × PyData)} (y : Sy f (tmp b L) (tmv b v W) e σ Hz H) (hv : Val f b v σ Hz) (h : dkOf b e = some kvs) : ∃ a ks, v = .ref a ∧ H a = some (.dK ks) ∧ KvR f.K Hz ks kvs := by
  cases b with
  | dat d' => cases h
  | ob o =>
    cases o with
    | dK ds =>
      cases h
      obtain ⟨a, ea, ⟨xs, h1, h2⟩, _⟩ := Sy.top y
      cases ea
      exact ⟨a, xs, rfl, h1, h2⟩
    | _ => cases h
  | own i =>
    rw [dk_own] at h
    generalize q : e[i]? = x at h
    unfold dkS at h
    split at h
    · cases h
      obtain ⟨a, e1, ⟨xs, h1, h2⟩, _⟩ := y.ob q
      have hv' : σ[i]? = some (some v) := hv
      rw [hv'] at e1
      cases e1
      exact ⟨a, xs, rfl, h1, h2⟩
    · cases h
def wDNewK (e : En) (P : Vl → En → Prop) : Prop := P (.ob (.dK [])) e
theorem se_dnewK : SE f tDNewK wDNewK := ⟨fun {L W e σ Hz H Post Q} w y k p hp => k _ _ _ _ _ w same_refl (y.newO (o := .dK []) hp ⟨[], upd_same, .nil⟩) trivial⟩
/-- d[k] -/
def wDGet (Ed Ey : WE) (e : En) (P : Vl → En → Prop) : Prop := Ed e fun b e1 => wFz Ey e1 fun d e2 => ob1 (keyD d) fun k => ob1 (dkOf b e2) fun kvs => ob1 (valD kvs k) fun d => P (.dat d) e2
theorem se_dget (hd : SE f td Ed) (hy : SE f ty Ey) : SE f (tDGet td ty) (wDGet Ed Ey) := ⟨fun {L W e σ Hz H Post Q} w y k => hd.run w y fun b e1 v Hz1 H1 w1 s1 y1 l1 => fz_run hy w1 y1 fun d e2 v2 Hz2 H2 w2 s2 y2 d2 => by
  obtain ⟨ky, c1, w2⟩ := ob1_ex w2
  obtain ⟨kvs, c2, w2⟩ := ob1_ex w2
  obtain ⟨dv, c3, w2⟩ := ob1_ex w2
  obtain ⟨a, ks, rfl, h1, h2⟩ := y2.dk (l1.mono s2) c2
  rcases h2.val ky with ⟨q1, q2⟩ | ⟨v', d', q1, q2, q3⟩
  · rw [q1] at c3; cases c3
  · rw [q1] at c3
    cases c3
    rw [key_dp d2 c1]
    exact ⟨a, v', rfl, by rw [← q2]; exact DGet.k h1, k _ _ _ _ _ w2 (same_trans s1 s2) y2.un q3⟩⟩
/-- k in d, k not in d -/
def wDIn (neg : Bool) (Ey Ed : WE) (e : En) (P : Vl → En → Prop) : Prop := wFz Ey e fun d e1 => Ed e1 fun b e2 => ob1 (keyD d) fun k => ob1 (dkOf b e2) fun kvs => P (.dat (.bool (if neg then !(valD kvs k).isSome else (valD kvs k).isSome))) e2
theorem val_isSome {κ : Type} [DecidableEq κ] {K : PySem.W.Frag} {Hz : Hp} {ks : List (κ × V)} {kvs : List (κ × PyData)} (h : KvR K Hz ks kvs) (k : κ) : (valV ks k).isSome = (valD kvs k).isSome := by
  rcases h.val k with ⟨q1, q2⟩ | ⟨v', d', q1, q2, q3⟩
  · rw [q1, q2]; rfl
  · rw [q1, q2]; rfl
theorem se_din (hy : SE f ty Ey) (hd : SE f td Ed) : SE f (tDIn ty td) (wDIn false Ey Ed) := ⟨fun {L W e σ Hz H Post Q} w y k => fz_run hy w y fun d e1 v Hz1 H1 w1 s1 y1 d1 => hd.run w1 y1 fun b e2 v2 Hz2 H2 w2 s2 y2 l2 => by
  obtain ⟨ky, c1, w2⟩ := ob1_ex w2
  obtain ⟨kvs, c2, w2⟩ := ob1_ex w2
  obtain ⟨a, ks, rfl, h1, h2⟩ := y2.dk l2 c2
  rw [key_dp d1 c1]
  refine ⟨a, _, rfl, DGet.k h1, ?_⟩
  rw [val_isSome h2]
  exact k _ _ _ _ _ w2 (same_trans s1 s2) y2.un (Dp.bl _)⟩
theorem se_dnotin (hy : SE f ty Ey) (hd : SE f td Ed) : SE f (tDNotIn ty td) (wDIn true Ey Ed) := ⟨fun {L W e σ Hz H Post Q} w y k => fz_run hy w y fun d e1 v Hz1 H1 w1 s1 y1 d1 => hd.run w1 y1 fun b e2 v2 Hz2 H2 w2 s2 y2 l2 => by
  obtain ⟨ky, c1, w2⟩ := ob1_ex w2
  obtain ⟨kvs, c2, w2⟩ := ob1_ex w2
  obtain ⟨a, ks, rfl, h1, h2⟩ := y2.dk l2 c2
  rw [key_dp d1 c1]
  refine ⟨a, _, rfl, DGet.k h1, ?_⟩
  rw [val_isSome h2]
  exact k _ _ _ _ _ w2 (same_trans s1 s2) y2.un (Dp.bl _)⟩
/-- d[k] = v, d the dict of a slot -/
def putS (P : Po) (j : Nat) (k : Key) (d : PyData) (e : En) : Option (Option B) → Prop
  | some (some (.ob t (.dK kvs))) => kvs.length ≤ 100000 ∧ P.nx (e.set j (some (.ob t (.dK (putD kvs k d)))))
  | _ => False
theorem putS_ob {P : Po} {j : Nat} {k : Key} {d : PyData} {e : En} {t : Option Nat} {kvs : List (Key × PyData)} : putS P j k d e (some (some (.ob t (.dK kvs)))) = (kvs.length ≤ 100000 ∧ P.nx (e.set j (some (.ob t (.dK (putD kvs k d)))))) := rfl
theorem var_run {L e : En} {W σ : St} {Hz H : Hp} {j : Nat} {P : Vl → En → Prop} (w : wVar j e P) (y : Sy f L W e σ Hz H) : ∃ v b, σ[j]? = some (some v) ∧ P b e := by
  unfold wVar at w
  generalize q : e[j]? = x at w
  unfold vrS at w
  split at w
  · obtain ⟨v', e1', e2⟩ := y.get q
    exact ⟨v', _, e1', w⟩
  · obtain ⟨v', e1', e2⟩ := y.ob q
    exact ⟨_, _, e1', w⟩
  · exact w.elim
def wDPut (j : Nat) (Ey Ev : WE) (P : Po) (e : En) : Prop := wFz Ev e fun d e1 => wVar j e1 fun _ e1 => wFz Ey e1 fun dk e2 => ob1 (keyD dk) fun k => putS P j k d e2 e2[j]?
theorem ss_dput {j : Nat} (hy : SE f ty Ey) (hv : SE f te E) : SS f (sDPut (tVar j) ty te) (wDPut j Ey E) := ⟨fun {D P e σ Hz H} w y o => fz_run hv w y fun d e1 v Hz1 H1 w1 s1 y1 d1 => by
  obtain ⟨vd, b, hvd, w1⟩ := var_run w1 y1
  refine ⟨vd, hvd, fz_run hy w1 y1 fun dk e2 v2 Hz2 H2 w2 s2 y2 d2 => ?_⟩
  obtain ⟨ky, c1, w2⟩ := ob1_ex w2
  generalize q : e2[j]? = x at w2
  unfold putS at w2
  split at w2
  · obtain ⟨a, h1, ⟨ks, h2, h3⟩, h4⟩ := y2.ob q
    rw [hvd] at h1
    cases h1
    rw [key_dp d2 c1]
    exact ⟨a, _, rfl, DPut.k h2 (line_lt (by rw [h3.len]; exact w2.1)), o.nx w2.2 (same_trans s1 s2) (y2.wr q hvd ⟨_, upd_same, h3.put _ (dp_mono s2 _ _ d1)⟩)⟩
  · exact w2.elim⟩
/-- d.get(k), d.get(k, x), d the dict of a slot -/
def get1S (P : Vl → En → Prop) (k : Key) (e : En) : Option (Option B) → Prop
  | some (some (.ob _ (.dK kvs))) => P (.dat ((valD kvs k).getD .none)) e
  | _ => False
theorem get1S_ob {P : Vl → En → Prop} {k : Key} {e : En} {t : Option Nat} {kvs : List (Key × PyData)} : get1S P k e (some (some (.ob t (.dK kvs)))) = P (.dat ((valD kvs k).getD .none)) e := rfl
/-- {k: v, ..} -/
def wPairs : List (WE × WE) → En → (List (PyData × PyData) → En → Prop) → Prop
  | [], e, P => P [] e
  | (Ek, Ev) :: r, e, P => wFz Ek e fun k e1 => wFz Ev e1 fun v e2 => wPairs r e2 fun ps e3 => P ((k, v) :: ps) e3
inductive SP (f : Fr) : List (TE × TE) → List (WE × WE) → Prop
  | nil : SP f [] []
  | cons {tk tv : TE} {Ek Ev : WE} {trs : List (TE × TE)} {Es : List (WE × WE)} : SE f tk Ek → SE f tv Ev → SP f trs Es → SP f ((tk, tv) :: trs) ((Ek, Ev) :: Es)
theorem SP.run {trs : List (TE × TE)} {Es : List (WE × WE)} (h : SP f trs Es) : ∀ {L W e σ Hz H Post Q}, wPairs Es e Post → Sy f L W e σ Hz H →
    (∀ ps e' vs Hz' H', Post ps e' → Same Hz Hz' → Sy f L W e' σ Hz' H' → DpAll f.K Hz' (vs.map (·.1)) (ps.map (·.1)) → DpAll f.K Hz' (vs.map (·.2)) (ps.map (·.2)) → Q vs H') → tPairs trs σ H Q := by
  induction h with
  | nil => intro L W e σ Hz H Post Q w y k; exact k _ _ _ _ _ w same_refl y .nil .nil
  | cons h1 h2 _ ih =>
    intro L W e σ Hz H Post Q w y k
    exact fz_run h1 w y fun d1 e1 v1 Hz1 H1 w1 s1 y1 q1 => fz_run h2 w1 y1 fun d2 e2 v2 Hz2 H2 w2 s2 y2 q2 => ih w2 y2 fun ps e3 vs Hz3 H3 w3 s3 y3 q3 q4 =>
      k _ _ _ _ _ w3 (same_trans s1 (same_trans s2 s3)) y3 (.cons (dp_mono (same_trans s2 s3) _ _ q1) q3) (.cons (dp_mono s3 _ _ q2) q4)
def keysD : List (PyData × PyData) → Option (List (Key × PyData))
  | [] => some []
  | (k, v) :: r => match keyD k, keysD r with
    | some k, some r => some ((k, v) :: r)
    | _, _ => none
theorem keys_dp {K : PySem.W.Frag} {Hz : Hp} : ∀ {ps : List (PyData × PyData)} {vs : List (V × V)} {kvs : List (Key × PyData)}, DpAll K Hz (vs.map (·.1)) (ps.map (·.1)) → DpAll K Hz (vs.map (·.2)) (ps.map (·.2)) → keysD ps = some kvs →
    ∃ ks : List (Key × V), vs = ks.map (fun kv => (kV kv.1, kv.2)) ∧ KvR K Hz ks kvs ∧ ks.length = ps.length
  | [], [], kvs, _, _, e => by cases e; exact ⟨[], rfl, .nil, rfl⟩
  | [], _ :: _, kvs, h, _, e => by cases h
  | _ :: _, [], kvs, h, _, e => by cases h
  | (k, v) :: ps, (x, y) :: vs, kvs, h1, h2, e => by
    simp only [List.map_cons] at h1 h2
    cases h1 with
    | cons a1 a2 =>
      cases h2 with
      | cons b1 b2 =>
        unfold keysD at e
        cases c : keyD k with
        | none => rw [c] at e; simp at e
        | some ky =>
          cases c2 : keysD ps with
          | none => rw [c, c2] at e; simp at e
          | some r =>
            rw [c, c2] at e
            cases e
            obtain ⟨ks, e1, e2, e3⟩ := keys_dp a2 b2 c2
            refine ⟨(ky, y) :: ks, ?_, .cons rfl b1 e2, by simp [e3]⟩
            rw [e1, key_dp a1 c]
            rfl
def wDisp (Es : List (WE × WE)) (e : En) (P : Vl → En → Prop) : Prop := wPairs Es e fun ps e1 => ob1 (keysD ps) fun kvs => ps.length ≤ 15 ∧ P (.ob (.dK (mergeD [] kvs))) e1
theorem se_disp {trs : List (TE × TE)} {Es : List (WE × WE)} (h : SP f trs Es) : SE f (tDisp trs) (wDisp Es) := ⟨fun {L W e σ Hz H Post Q} w y k p hp => by
  have y0 := y.newO (o := .dK []) (u := .dK []) hp ⟨[], upd_same, .nil⟩
  refine h.run w y0 fun ps e1 vs Hz1 H1 w1 s1 y1 q1 q2 => ?_
  obtain ⟨kvs, c, w1⟩ := ob1_ex w1
  obtain ⟨ks, e2, e3, e4⟩ := keys_dp q1 q2 c
  obtain ⟨a, ea, ⟨xs, h1, h2⟩, _⟩ := y1.top
  cases ea
  have hx : xs = [] := by
    have := h2.len
    cases xs with
    | nil => rfl
    | cons _ _ => simp at this
  rw [hx] at h1
  exact ⟨h1, ks, e2, by rw [e4]; exact w1.1, k _ _ _ _ _ w1.2 s1 (y1.wrT (o' := .dK (mergeD [] kvs)) ⟨_, upd_same, e3.merge .nil⟩) trivial⟩⟩
end
/-! ### dicts with tuple keys -/
def keyT : PyData → Option NestedKey
  | .tuple ds => (keysN ds).map NestedKey.tup
  | _ => none
theorem keyT_ref {K : PySem.W.Frag} {Hz : Hp} {v : V} {d : PyData} {k : NestedKey} (h : Dp K Hz v d) (e : keyT d = some k) (hk : k.depth ≤ 8) : ∃ b, v = .ref b ∧ KeyAt K Hz b k := by
  cases d with
  | tuple ds =>
    obtain ⟨a, xs, rfl, h1, h2⟩ := dp_tup h
    exact ⟨a, rfl, _, by unfold keyN; exact e, .tup h1 h2, hk⟩
  | _ => cases e
abbrev nk (a b : Int) : NestedKey := .tup [.num a, .num b]
theorem keyT_2 (a b : Int) : keyT (.tuple [.int a, .int b]) = some (nk a b) := by simp [keyT, keysN, keyN]
theorem nk_depth (a b : Int) : (nk a b).depth ≤ 8 := by simp [NestedKey.depth, NestedKey.depthAll]
theorem nk_inj {a b c d : Int} : nk a b = nk c d ↔ a = c ∧ b = d := by simp
/-- the dict of a value -/
def dnS (P : Program) (w : World) (x : Option (Option B)) (g : List (NestedKey × PyData) → Prop) : Prop := ∃ t kvs, x = some (some (.ob t (.dN P w kvs))) ∧ g kvs
theorem dnS_ob {P : Program} {w : World} {t : Option Nat} {kvs : List (NestedKey × PyData)} {g : List (NestedKey × PyData) → Prop} : dnS P w (some (some (.ob t (.dN P w kvs)))) g = g kvs := by
  unfold dnS
  apply propext
  constructor
  · rintro ⟨t', kvs', e, h⟩
    cases e
    exact h
  · intro h
    exact ⟨t, kvs, rfl, h⟩
section
variable {f : Fr} {P : Program} {w : World} {td ty te tx : TE} {Ed Ey E Ex : WE}
def wNNew (P : Program) (w : World) (e : En) (Q : Vl → En → Prop) : Prop := Q (.ob (.dN P w [])) e
theorem se_nnew : SE f (tNNew P w) (wNNew P w) := ⟨fun {L W e σ Hz H Post Q} wp y k p hp => k _ _ _ _ _ wp same_refl (y.newO (o := .dN P w []) hp ⟨[], upd_same, (fun _ h => by cases h), .nil⟩) trivial⟩
theorem kn_val {K : PySem.W.Frag} {Hz : Hp} {ks : NEs} {kvs : List (NestedKey × PyData)} (h : KvR K Hz (ks.map fun e => (e.1, e.2.2)) kvs) (k : NestedKey) : (valD kvs k = none ∧ valN ks k = none) ∨ ∃ v d, valD kvs k = some d ∧ valN ks k = some v ∧ Dp K Hz v d := by
  have e : valV (ks.map fun e => (e.1, e.2.2)) k = valN ks k := by
    unfold valV valN
    rw [List.find?_map, Option.map_map]
    rfl
  rcases h.val k with ⟨q1, q2⟩ | ⟨v, d, q1, q2, q3⟩
  · exact .inl ⟨q1, by rw [← e]; exact q2⟩
  · exact .inr ⟨v, d, q1, by rw [← e]; exact q2, q3⟩
theorem keys_same {K : PySem.W.Frag} {Hz H : Hp} {ks : NEs} (h : KeysAt K Hz ks) (s : Same Hz H) : KeysAt K H ks := fun e he => (h e he).mono s
/-- d[k], d of slot j -/
def wNGet (P : Program) (w : World) (j : Nat) (Ey : WE) (e : En) (Q : Vl → En → Prop) : Prop := wVar j e fun _ e => wFz Ey e fun d e2 => ob1 (keyT d) fun k => k.depth ≤ 8 ∧ dnS P w e2[j]? fun kvs => ob1 (valD kvs k) fun d => Q (.dat d) e2
theorem se_nget {j : Nat} (hy : SE f ty Ey) : SE f (tNGet f.K P w (tVar j) ty) (wNGet P w j Ey) := ⟨fun {L W e σ Hz H Post Q} wp y k => by
  obtain ⟨vd, b0, hvd, w1⟩ := var_run wp y
  refine ⟨vd, hvd, fz_run hy w1 y fun d e2 v2 Hz2 H2 w2 s2 y2 d2 => ?_⟩
  obtain ⟨ky, c1, hk, t, kvs, q, w2⟩ := ob1_ex w2
  obtain ⟨dv, c3, w2⟩ := ob1_ex w2
  obtain ⟨a, h1, ⟨ks, h2, h3, h4⟩, _⟩ := y2.ob q
  rw [hvd] at h1
  cases h1
  obtain ⟨b, rfl, hb⟩ := keyT_ref d2 c1 hk
  rcases kn_val h4 ky with ⟨q1, q2⟩ | ⟨v', d', q1, q2, q3⟩
  · rw [q1] at c3; cases c3
  · rw [q1] at c3
    cases c3
    exact ⟨a, ks, b, ky, v', rfl, ⟨rfl, h2, keys_same h3 y2.sm, hb.mono y2.sm⟩, q2, k _ _ _ _ _ w2 s2 y2 q3⟩⟩
/-- k in d, k not in d -/
def wNIn (P : Program) (w : World) (neg : Bool) (Ey : WE) (j : Nat) (e : En) (Q : Vl → En → Prop) : Prop := wFz Ey e fun d e1 => wVar j e1 fun _ e2 => ob1 (keyT d) fun k => k.depth ≤ 8 ∧ dnS P w e2[j]? fun kvs => Q (.dat (.bool (if neg then !(valD kvs k).isSome else (valD kvs k).isSome))) e2
theorem kn_some {K : PySem.W.Frag} {Hz : Hp} {ks : NEs} {kvs : List (NestedKey × PyData)} (h : KvR K Hz (ks.map fun e => (e.1, e.2.2)) kvs) (k : NestedKey) : (valN ks k).isSome = (valD kvs k).isSome := by
  rcases kn_val h k with ⟨q1, q2⟩ | ⟨v, d, q1, q2, q3⟩
  · rw [q1, q2]; rfl
  · rw [q1, q2]; rfl
theorem se_nin {j : Nat} (hy : SE f ty Ey) : SE f (tNIn f.K P w ty (tVar j)) (wNIn P w false Ey j) := ⟨fun {L W e σ Hz H Post Q} wp y k => fz_run hy wp y fun d e1 v Hz1 H1 w1 s1 y1 d1 => by
  obtain ⟨vd, b0, hvd, w1⟩ := var_run w1 y1
  refine ⟨vd, hvd, ?_⟩
  obtain ⟨ky, c1, hk, t, kvs, q, w2⟩ := ob1_ex w1
  obtain ⟨a, h1, ⟨ks, h2, h3, h4⟩, _⟩ := y1.ob q
  rw [hvd] at h1
  cases h1
  obtain ⟨b, rfl, hb⟩ := keyT_ref d1 c1 hk
  refine ⟨a, ks, b, ky, rfl, ⟨rfl, h2, keys_same h3 y1.sm, hb.mono y1.sm⟩, ?_⟩
  rw [kn_some h4]
  exact k _ _ _ _ _ w2 s1 y1 (Dp.bl _)⟩
theorem se_nnotin {j : Nat} (hy : SE f ty Ey) : SE f (tNNotIn f.K P w ty (tVar j)) (wNIn P w true Ey j) := ⟨fun {L W e σ Hz H Post Q} wp y k => fz_run hy wp y fun d e1 v Hz1 H1 w1 s1 y1 d1 => by
  obtain ⟨vd, b0, hvd, w1⟩ := var_run w1 y1
  refine ⟨vd, hvd, ?_⟩
  obtain ⟨ky, c1, hk, t, kvs, q, w2⟩ := ob1_ex w1
  obtain ⟨a, h1, ⟨ks, h2, h3, h4⟩, _⟩ := y1.ob q
  rw [hvd] at h1
  cases h1
  obtain ⟨b, rfl, hb⟩ := keyT_ref d1 c1 hk
  refine ⟨a, ks, b, ky, rfl, ⟨rfl, h2, keys_same h3 y1.sm, hb.mono y1.sm⟩, ?_⟩
  rw [kn_some h4]
  exact k _ _ _ _ _ w2 s1 y1 (Dp.bl _)⟩
/-- d[k] = v -/
def wNPut (P : Program) (w : World) (j : Nat) (Ey Ev : WE) (Q : Po) (e : En) : Prop := wFz Ev e fun d e1 => wVar j e1 fun _ e1 => wFz Ey e1 fun dk e2 => ob1 (keyT dk) fun k => k.depth ≤ 8 ∧ ∃ t kvs, e2[j]? = some (some (.ob t (.dN P w kvs))) ∧ kvs.length ≤ 100000 ∧ Q.nx (e2.set j (some (.ob t (.dN P w (putD kvs k d)))))
theorem putN_map (ks : NEs) (k : NestedKey) (b : Addr) (v : V) : (putN ks k b v).map (fun e => (e.1, e.2.2)) = putK (ks.map fun e => (e.1, e.2.2)) k v := by
  unfold putN putK
  have e : ((ks.map fun e => (e.1, e.2.2)).any fun kv => decide (kv.1 = k)) = ks.any fun e => decide (e.1 = k) := by rw [List.any_map]; rfl
  rw [e]
  split
  · rw [List.map_map, List.map_map]
    refine List.map_congr_left fun x _ => ?_
    show (fun e : NestedKey × Addr × V => (e.1, e.2.2)) (if x.1 = k then (x.1, x.2.1, v) else x) = if x.1 = k then (x.1, v) else (x.1, x.2.2)
    split <;> rfl
  · rw [List.map_append]
    rfl
theorem putN_keys {K : PySem.W.Frag} {Hz : Hp} {ks : NEs} {k : NestedKey} {b : Addr} {v : V} (h : KeysAt K Hz ks) (hk : KeyAt K Hz b k) : KeysAt K Hz (putN ks k b v) := by
  unfold putN
  split
  · intro e he
    obtain ⟨x, hx, rfl⟩ := List.mem_map.mp he
    have := h x hx
    split
    · exact this
    · exact this
  · intro e he
    rcases List.mem_append.mp he with q | q
    · exact h e q
    · rw [List.mem_singleton] at q
      rw [q]
      exact hk
theorem ss_nput {j : Nat} (hy : SE f ty Ey) (hv : SE f te E) : SS f (sNPut f.K P w (tVar j) ty te) (wNPut P w j Ey E) := ⟨fun {D Q e σ Hz H} wp y o => fz_run hv wp y fun d e1 v Hz1 H1 w1 s1 y1 d1 => by
  obtain ⟨vd, b, hvd, w1⟩ := var_run w1 y1
  refine ⟨vd, hvd, fz_run hy w1 y1 fun dk e2 v2 Hz2 H2 w2 s2 y2 d2 => ?_⟩
  obtain ⟨ky, c1, hk, t, kvs, q, hl, w2⟩ := ob1_ex w2
  obtain ⟨a, h1, ⟨ks, h2, h3, h4⟩, _⟩ := y2.ob q
  rw [hvd] at h1
  cases h1
  obtain ⟨b', rfl, hb⟩ := keyT_ref d2 c1 hk
  have hlen := h4.len
  rw [List.length_map] at hlen
  refine ⟨a, ks, b', ky, rfl, ⟨rfl, h2, keys_same h3 y2.sm, hb.mono y2.sm⟩, line_lt (by omega), o.nx w2 (same_trans s1 s2) (y2.wr q hvd ⟨_, upd_same, putN_keys h3 hb, ?_⟩)⟩
  rw [putN_map]
  exact h4.put _ (dp_mono s2 _ _ d1)⟩
/-- d.get(k, x) -/
def wNGet2 (P : Program) (w : World) (j : Nat) (Ey Ex : WE) (e : En) (Q : Vl → En → Prop) : Prop := dnS P w e[j]? fun _ => wFz Ey e fun d e2 => wFz Ex e2 fun dx e3 => ob1 (keyT d) fun k => k.depth ≤ 8 ∧ dnS P w e3[j]? fun kvs => Q (.dat ((valD kvs k).getD dx)) e3
theorem se_nget2 {j : Nat} (hy : SE f ty Ey) (hx : SE f tx Ex) : SE f (tNGet2 f.K P w (tVar j) ty tx) (wNGet2 P w j Ey Ex) := ⟨fun {L W e σ Hz H Post Q} wp y k => by
  obtain ⟨t, kvs0, q0, w1⟩ := wp
  obtain ⟨a, h1, ⟨ks0, h2, h3, h4⟩, _⟩ := y.ob q0
  refine ⟨_, h1, a, ks0, rfl, ⟨h2, keys_same h3 y.sm⟩, fz_run hy w1 y fun d e2 v2 Hz2 H2 w2 s2 y2 d2 => fz_run hx w2 y2 fun dx e3 v3 Hz3 H3 w3 s3 y3 d3 => ?_⟩
  obtain ⟨ky, c1, hk, t, kvs, q, w3⟩ := ob1_ex w3
  obtain ⟨a', g1, ⟨ks, g2, g3, g4⟩, _⟩ := y3.ob q
  rw [h1] at g1
  cases g1
  obtain ⟨b, rfl, hb⟩ := keyT_ref (dp_mono s3 _ _ d2) c1 hk
  refine ⟨ks, b, ky, ⟨rfl, g2, keys_same g3 y3.sm, hb.mono y3.sm⟩, ?_⟩
  rcases kn_val g4 ky with ⟨q1, q2⟩ | ⟨v', d', q1, q2, q3⟩
  · rw [q1] at w3
    rw [q2]
    exact k _ _ _ _ _ w3 (same_trans s2 s3) y3 d3
  · rw [q1] at w3
    rw [q2]
    exact k _ _ _ _ _ w3 (same_trans s2 s3) y3 q3⟩
end
/-! ### the law -/
def spLaw (K : PySem.W.Frag) : Sp := fun vs H Q _ => ∃ (a : Addr) (ns : List Int), vs = [.ref a] ∧ SqL K H a (ns.map V.int) ∧ ns.length ≤ 63 ∧ ∀ H', Q (.bl true) H'
def F_law : FSp := fun args P => ∃ ns : List Int, args = [some (.dat (.list (ns.map PyData.int)))] ∧ ns.length ≤ 63 ∧ P (.dat (.bool true)) [none]
theorem law_imp {K : PySem.W.Frag} (vs : List V) (H : Hp) (Q : VK) (E : XK) (h : spLaw K vs H Q E) : spD K F_law vs H Q E := by
  obtain ⟨a, ns, rfl, hS, hl, q⟩ := h
  refine ⟨[some (.dat (.list (ns.map PyData.int)))], [], H, fun b outs => b = .dat (.bool true) ∧ outs = [none], ⟨⟨[], [], .nil, .dat (.lst hS (ints_dps ns)) .nil, List.nodup_nil, fun a ha => by cases ha⟩, same_refl, same_refl, fun b h => .inl h, fun b u _ h => h, fun b h => h, (fun a ha => by cases ha), fun b u h _ => h⟩, ⟨ns, rfl, hl, rfl, rfl⟩, ?_⟩
  rintro b outs ⟨rfl, rfl⟩ v Hz' H' y' l'
  obtain rfl := val_bool l'
  exact q H'
theorem isRow_new {ns : List Int} {s : Int} (h : ns.length ≤ 63) : IsRow (.lst [.list (ns.map PyData.int), .int 0, .int s, .int 0]) := ⟨ns, 0, s, 0, rfl, h, Int.le_refl 0⟩
end DL


set_option Elab.async false
set_option linter.all false
set_option maxRecDepth 100000
set_option maxHeartbeats 4000000
/-! Comprehensions with two fors, lists times an int, over the layer of values. -/
namespace DL
open PySem L2 TG
theorem wipe_sub {σ : L2.St} {vs vs1 : List Nat} (h : ∀ i ∈ vs1, i ∈ vs) : wipe (wipe σ vs1) vs = wipe σ vs := by
  refine wipe_congr (wipe_length _ _) fun n hn => ?_
  rw [wipe_get, if_neg (fun c => hn (h n c.1))]
/-- the inner turns -/
def Lc2I (Gt1 : WG) (T1 : WT) (E : WE) (vs1 : List Nat) (acc : List PyData) (out : List PyData → En → Prop) (its1 : List PyData) (e5 : En) : Prop := ∃ Inv1 : Nat → List PyData → En → Prop, Inv1 0 acc (wipeE e5 vs1) ∧
  (∀ j d1 acc1 e6, its1[j]? = some d1 → Inv1 j acc1 e6 → acc1.length ≤ 100000 ∧ Gt1 (.dat d1) e6 fun e7 => T1 e7 fun b e8 => if b = true then wFz E e8 fun y e9 => Inv1 (j + 1) (acc1 ++ [y]) (wipeE e9 vs1) else Inv1 (j + 1) acc1 (wipeE e8 vs1)) ∧
  ∀ acc1 e6, Inv1 its1.length acc1 e6 → out acc1 e6
def Lc2B (Gt : WG) (T : WT) (G1 : WI) (Gt1 : WG) (T1 : WT) (E : WE) (vs vs1 : List Nat) (P : Vl → En → Prop) (its : List PyData) (e1 : En) : Prop := ∃ Inv : Nat → List PyData → En → Prop, Inv 0 [] (wipeE e1 vs) ∧
  (∀ i d acc e2, its[i]? = some d → Inv i acc e2 → Gt (.dat d) e2 fun e3 => T e3 fun b e4 => if b = true then G1 e4 (Lc2I Gt1 T1 E vs1 acc fun acc1 e6 => Inv (i + 1) acc1 (wipeE e6 vs)) else Inv (i + 1) acc (wipeE e4 vs)) ∧
  ∀ acc e2, Inv its.length acc e2 → e2.length = e1.length ∧ P (.ob (.lst acc)) (back e1 vs (wipeE e2 vs))
def wLc2 (G : WI) (Gt : WG) (T : WT) (G1 : WI) (Gt1 : WG) (T1 : WT) (E : WE) (vs vs1 : List Nat) (e : En) (P : Vl → En → Prop) : Prop := G e (Lc2B Gt T G1 Gt1 T1 E vs vs1 P)
theorem lc2_use {G : WI} {Gt : WG} {T : WT} {G1 : WI} {Gt1 : WG} {T1 : WT} {E : WE} {vs vs1 : List Nat} {e : En} {P : Vl → En → Prop} (h : G e (Lc2B Gt T G1 Gt1 T1 E vs vs1 P)) : wLc2 G Gt T G1 Gt1 T1 E vs vs1 e P := h
section
variable {f : Fr} {te : TE} {E : WE} {tt tt1 : TT} {T T1 : WT} {wi wi1 : TI} {G G1 : WI} {g g1 : TG} {Gt Gt1 : WG} {sl sl1 : List Nat}
theorem se_lc2 {vs vs1 : List Nat} (hi : SI f wi G) (hg : SG f g Gt sl) (ht : ST f tt T) (hi1 : SI f wi1 G1) (hg1 : SG f g1 Gt1 sl1) (ht1 : ST f tt1 T1) (he : SE f te E) (hv : ∀ i ∈ sl, i ∈ vs) (hv1 : ∀ i ∈ sl1, i ∈ vs1) (hvv : ∀ i ∈ vs1, i ∈ vs) :
    SE f (tLc2 wi g tt wi1 g1 tt1 te vs vs1) (wLc2 G Gt T G1 Gt1 T1 E vs vs1) := ⟨fun {L W e σ Hz H Post Q} w y k => hi.run w y fun J its e1 Hz1 H1 w1 s1 y1 hw D hD => by
  obtain ⟨Inv, i0, step, fin⟩ := w1
  have ys : Sy f (some (.ob none (.lst [])) :: L) (some (.ref D) :: W) (wipeE e1 vs) (wipe σ vs) Hz1 (upd H1 D (.lst [])) := (y1.newO (o := .lst []) hD ⟨[], upd_same, .nil⟩).wiped vs
  refine ⟨fun i m H => m = its.length - i ∧ i ≤ its.length ∧ ∃ acc e Hz, Inv i acc e ∧ Same Hz1 Hz ∧ Sy f (some (.ob none (.lst acc)) :: L) (some (.ref D) :: W) e (wipe σ vs) Hz H,
    ⟨its.length, rfl, Nat.zero_le _, [], _, Hz1, i0, same_refl, ys⟩, ?_⟩
  rintro i m H ⟨rfl, hi', acc, e2, Hz2, i2, s2, y2⟩
  by_cases hlt : i < its.length
  · refine .inr ⟨hw.go i H hlt (same_trans s2 y2.sm), fun H' => ∃ acc e Hz, Inv (i + 1) acc e ∧ Same Hz1 Hz ∧ Sy f (some (.ob none (.lst acc)) :: L) (some (.ref D) :: W) e (wipe σ vs) Hz H',
      fun H' ⟨acc, e, Hz, a, b, c⟩ => ⟨its.length - (i + 1), by omega, rfl, hlt, acc, e, Hz, a, b, c⟩, fun x H' hy => ?_⟩
    have st := step i _ acc e2 (List.getElem?_eq_getElem hlt) i2
    refine step_item hw s2 y2 hy (List.getElem?_eq_getElem hlt) hg st fun e3 σ3 Hz3 H3 w3 s3 y3 c3 => ?_
    have cw : wipe σ3 vs = wipe σ vs := by rw [c3 vs hv, wipe_wipe]
    refine ⟨cw, ht.run w3 y3 fun b e4 Hz4 H4 w4 s4 y4 => ?_⟩
    by_cases c : b = true
    · rw [if_pos c] at w4 ⊢
      refine hi1.run w4 y4 fun J1 its1 e5 Hz5 H5 w5 s5 y5 hw1 => ?_
      obtain ⟨Inv1, j0, step1, fin1⟩ := w5
      refine ⟨fun j m H => m = its1.length - j ∧ j ≤ its1.length ∧ ∃ acc e Hz, Inv1 j acc e ∧ Same Hz5 Hz ∧ Sy f (some (.ob none (.lst acc)) :: L) (some (.ref D) :: W) e (wipe σ3 vs1) Hz H,
        ⟨its1.length, rfl, Nat.zero_le _, acc, _, Hz5, j0, same_refl, y5.wiped vs1⟩, ?_⟩
      rintro j m H ⟨rfl, hj', acc1, e6, Hz6, j6, s6, y6⟩
      by_cases hlt1 : j < its1.length
      · refine .inr ⟨hw1.go j H hlt1 (same_trans s6 y6.sm), fun H' => ∃ acc e Hz, Inv1 (j + 1) acc e ∧ Same Hz5 Hz ∧ Sy f (some (.ob none (.lst acc)) :: L) (some (.ref D) :: W) e (wipe σ3 vs1) Hz H',
          fun H' ⟨acc, e, Hz, a, b, c⟩ => ⟨its1.length - (j + 1), by omega, rfl, hlt1, acc, e, Hz, a, b, c⟩, fun x H' hy => ?_⟩
        obtain ⟨hl, st1⟩ := step1 j _ acc1 e6 (List.getElem?_eq_getElem hlt1) j6
        refine step_item hw1 s6 y6 hy (List.getElem?_eq_getElem hlt1) hg1 st1 fun e7 σ7 Hz7 H7 w7 s7 y7 c7 => ?_
        have cw1 : wipe σ7 vs1 = wipe σ3 vs1 := by rw [c7 vs1 hv1, wipe_wipe]
        refine ⟨cw1, ht1.run w7 y7 fun b e8 Hz8 H8 w8 s8 y8 => ?_⟩
        by_cases c : b = true
        · rw [if_pos c] at w8 ⊢
          refine fz_run he w8 y8 fun d e9 v Hz9 H9 w9 s9 y9 d9 => ?_
          obtain ⟨a, ea, ⟨xs, hx, hd⟩, _⟩ := y9.top
          cases ea
          refine ⟨xs, hx, line_lt (by rw [dps_len hd]; exact hl), acc1 ++ [d], wipeE e9 vs1, Hz9, w9, same_trans s6 (same_trans s7 (same_trans s8 s9)), ?_⟩
          have y10 := (y9.wrT (u := .lst (xs ++ [v])) (o' := .lst (acc1 ++ [d])) ⟨_, upd_same, dps_snoc hd d9⟩).wiped vs1
          rw [cw1] at y10
          exact y10
        · rw [if_neg c] at w8 ⊢
          have y10 := y8.wiped vs1
          rw [cw1] at y10
          exact ⟨acc1, wipeE e8 vs1, Hz8, w8, same_trans s6 (same_trans s7 s8), y10⟩
      · have : j = its1.length := by omega
        subst this
        have y7 := y6.wiped vs
        rw [wipe_sub hvv, cw] at y7
        exact .inl ⟨hw1.stop H (same_trans s6 y6.sm), acc1, wipeE e6 vs, Hz6, fin1 acc1 e6 j6, same_trans s2 (same_trans s3 (same_trans s4 (same_trans s5 s6))), y7⟩
    · rw [if_neg c] at w4 ⊢
      have y6 := y4.wiped vs
      rw [cw] at y6
      exact ⟨acc, wipeE e4 vs, Hz4, w4, same_trans s2 (same_trans s3 s4), y6⟩
  · have : i = its.length := by omega
    subst this
    obtain ⟨hl, hf⟩ := fin acc e2 i2
    refine .inl ⟨hw.stop H (same_trans s2 y2.sm), k _ _ _ _ _ hf (same_trans s1 s2) (Sy.back y1 s2 y2.unwipe (by rw [wipeE_len, hl]) vs) trivial⟩⟩
/-- xs * n -/
def wRep (Ea Eb : WE) (e : En) (P : Vl → En → Prop) : Prop := Ea e fun b1 e1 => wFz Eb e1 fun d e2 => ob1 (trk b1 e2) fun ds => match d with
  | .int k => (-(2 ^ 63) ≤ k ∧ k < 2 ^ 63) ∧ ds.length * k.toNat ≤ 100000 ∧ P (.ob (.lst (List.replicate k.toNat ds).flatten)) e2
  | _ => False
theorem dps_rep2 {K : PySem.W.Frag} {Hz : Hp} {xs : List V} {ds : List PyData} (h : DpAll K Hz xs ds) : ∀ n : Nat, DpAll K Hz (List.replicate n xs).flatten (List.replicate n ds).flatten
  | 0 => .nil
  | n + 1 => by
    rw [List.replicate_succ, List.replicate_succ, List.flatten_cons, List.flatten_cons]
    exact dps_app h (dps_rep2 h n)
theorem se_rep {ta tb : TE} {Ea Eb : WE} (ha : SE f ta Ea) (hb : SE f tb Eb) : SE f (tOp rRep ta tb) (wRep Ea Eb) := ⟨fun {L W e σ Hz H Post Q} w y k => ha.run w y fun b1 e1 v1 Hz1 H1 w1 s1 y1 l1 => fz_run hb w1 y1 fun d e2 v2 Hz2 H2 w2 s2 y2 d2 => by
  obtain ⟨ds, c, w2⟩ := ob1_ex w2
  obtain ⟨a, xs, rfl, h1, h2⟩ := y2.trk (l1.mono s2) c
  split at w2
  · cases d2
    obtain ⟨⟨w3, w4⟩, w5, w6⟩ := w2
    refine ⟨a, _, xs, rfl, rfl, h1, w3, w4, Evl.sz_of (by rw [dps_len h2]; exact w5), fun p hp => ?_⟩
    exact k _ _ _ _ _ w6 (same_trans s1 s2) (y2.un.newO (o := .lst _) hp ⟨_, upd_same, dps_rep2 h2 _⟩) trivial
  · exact w2.elim⟩
end
end DL


set_option Elab.async false
set_option linter.all false
set_option maxRecDepth 100000
set_option maxHeartbeats 4000000
/-! Dicts with keys of tuples of ints and strings (the hand layer's kind) as objects of the layer; promises by hand that give a new one. -/
namespace DL
open PySem L2 TG
def keysL : List PyData → Option (List Key)
  | [] => some []
  | d :: r => match keyD d, keysL r with
    | some k, some ks => some (k :: ks)
    | _, _ => none
theorem keysL_dp {K : PySem.W.Frag} {Hz : Hp} : ∀ {ds : List PyData} {vs : List V} {ks : List Key}, DpAll K Hz vs ds → keysL ds = some ks → vs = ks.map kV
  | [], _, _, .nil, e => by cases e; rfl
  | d :: r, _, ks, .cons h1 h2, e => by
    unfold keysL at e
    split at e
    · rename_i k ks' e1 e2
      cases e
      rw [key_dp h1 e1, keysL_dp h2 e2]
      rfl
    · cases e
theorem keysL_2 (a b : Int) : keysL [.int a, .int b] = some [.inl a, .inl b] := rfl
def dtOf : Vl → En → Option (List (List Key × PyData))
  | .ob (.dT kvs), _ => some kvs
  | .own i, e => match e[i]? with
    | some (some (.ob _ (.dT kvs))) => some kvs
    | _ => none
  | _, _ => none
def dtS : Option (Option B) → Option (List (List Key × PyData))
  | some (some (.ob _ (.dT kvs))) => some kvs
  | _ => none
theorem dt_own {i : Nat} {e : En} : dtOf (.own i) e = dtS e[i]? := by unfold dtOf dtS; rfl
theorem dt_ob {kvs : List (List Key × PyData)} {e : En} : dtOf (.ob (.dT kvs)) e = some kvs := rfl
theorem dtS_ob {t : Option Nat} {kvs : List (List Key × PyData)} : dtS (some (some (.ob t (.dT kvs)))) = some kvs := rfl
section
variable {f : Fr} {td tx : TE} {ta : TA} {Ed Ex : WE} {A : WA}
theorem Sy.dt {L e : En} {W σ : St} {Hz H : Hp} {b : Vl} {v : V} {kvs : List (List Key × PyData)} (y : Sy f (tmp b L) (tmv b v W) e σ Hz H) (hv : Val f b v σ Hz) (h : dtOf b e = some kvs) : ∃ a ks, v = .ref a ∧ H a = some (.dT ks) ∧ KvR f.K Hz ks kvs := by
  cases b with
  | dat d' => cases h
  | ob o =>
    cases o with
    | dT ds =>
      cases h
      obtain ⟨a, ea, ⟨xs, h1, h2⟩, _⟩ := Sy.top y
      cases ea
      exact ⟨a, xs, rfl, h1, h2⟩
    | _ => cases h
  | own i =>
    rw [dt_own] at h
    generalize q : e[i]? = x at h
    unfold dtS at h
    split at h
    · cases h
      obtain ⟨a, e1, ⟨xs, h1, h2⟩, _⟩ := y.ob q
      have hv' : σ[i]? = some (some v) := hv
      rw [hv'] at e1
      cases e1
      exact ⟨a, xs, rfl, h1, h2⟩
    · cases h
/-- d.get((..), x) -/
def wTGet2 (Ed : WE) (A : WA) (Ex : WE) (e : En) (P : Vl → En → Prop) : Prop := Ed e fun b e1 => ob1 (dtOf b e1) fun _ => A e1 fun ds e2 => ds.length ≤ 100000 ∧ wFz Ex e2 fun dx e3 => ob1 (keysL ds) fun k => ob1 (dtOf b e3) fun kvs => P (.dat ((valD kvs k).getD dx)) e3
theorem se_tget2 (hd : SE f td Ed) (ha : SA f ta A) (hx : SE f tx Ex) : SE f (tDGet2 td (tTup ta) tx) (wTGet2 Ed A Ex) := ⟨fun {L W e σ Hz H Post Q} w y k => hd.run w y fun b e1 v Hz1 H1 w1 s1 y1 l1 => by
  obtain ⟨kvs0, c0, w1⟩ := ob1_ex w1
  obtain ⟨a, ks0, rfl, g1, g2⟩ := y1.dt l1 c0
  refine ⟨a, rfl, .inr ⟨ks0, .inl g1⟩, ha.run w1 y1 fun ds e2 vs Hz2 H2 w2 s2 y2 d2 => ⟨Evl.sz_of (by rw [dps_len d2]; exact w2.1), fun p hp => ?_⟩⟩
  have s3 := same_new (y2.hz hp) (.tup vs)
  refine fz_run hx w2.2 (y2.newT (u := .tup vs) hp) fun dx e3 v3 Hz3 H3 w3 s4 y4 d4 => ?_
  obtain ⟨ky, c1, w3⟩ := ob1_ex w3
  obtain ⟨kvs, c2, w3⟩ := ob1_ex w3
  obtain ⟨a', ks, ea, h1, h2⟩ := y4.dt (l1.mono (same_trans s2 (same_trans s3 s4))) c2
  cases ea
  have hb : H3 p = some (.tup (ky.map kV)) := by
    rw [← keysL_dp d2 c1]
    exact y4.sm _ _ (s4 _ _ upd_same)
  refine ⟨valV ks ky, .inr ⟨ks, ky, p, .inl h1, rfl, hb, rfl⟩, ?_⟩
  rcases h2.val ky with ⟨q1, q2⟩ | ⟨v', d', q1, q2, q3⟩
  · rw [q1] at w3
    rw [q2]
    exact k _ _ _ _ _ w3 (same_trans s1 (same_trans s2 (same_trans s3 s4))) y4.un d4
  · rw [q1] at w3
    rw [q2]
    exact k _ _ _ _ _ w3 (same_trans s1 (same_trans s2 (same_trans s3 s4))) y4.un q3⟩
end
/-! ### a new object of a promise by hand -/
open Classical in
noncomputable def grownO (p : Addr) (Hz H H' : Hp) : Hp := fun b => if b = p then none else grown Hz H H' b
section
variable {K : PySem.W.Frag} {A : List Addr} {Hz H H' : Hp} {args : En} {W : St} {p : Addr} {u : HO}
theorem grownO_tp (y : Sy ⟨K, A, Hz, H⟩ [] [] args W Hz H) (s : Same H H') (hu : H' p = some u) (nt : tupO u = false) : ∀ b o, H' b = some o → tupO o = true → grownO p Hz H H' b = some o := fun b o q c => by
  unfold grownO
  rw [if_neg (fun e => by rw [e, hu] at q; cases q; rw [nt] at c; cases c)]
  exact (y.grow s).1.tp b o q c
theorem grownO_kpT (y : Sy ⟨K, A, Hz, H⟩ [] [] args W Hz H) (s : Same H H') (hu : H' p = some u) (nt : tupO u = false) : KpT H' (grownO p Hz H H') := fun K a xs h => by
  rcases h with (h | ⟨o, h⟩) | h
  · exact .inl (.inl (grownO_tp y s hu nt _ _ h rfl))
  · exact .inl (.inr ⟨o, grownO_tp y s hu nt _ _ h rfl⟩)
  · exact .inr h
theorem Sy.growO (y : Sy ⟨K, A, Hz, H⟩ [] [] args W Hz H) (s : Same H H') (hp : H p = none) (hu : H' p = some u) (nt : tupO u = false) {o : Ob} (ho : OkOb K (grownO p Hz H H') H' p o) :
    Sy ⟨K, A, Hz, H⟩ [some (.ob none o)] [some (.ref p)] (args.map fun _ => none) W (grownO p Hz H H') H' := by
  have tp := grownO_tp y s hu nt
  obtain ⟨O1, O2, p1, p2, nd, fr⟩ := y.ex
  have yg := (y.grow s).1
  have zp : grownO p Hz H H' p = none := by unfold grownO; rw [if_pos rfl]
  have zn : ∀ b, b ≠ p → grownO p Hz H H' b = grown Hz H H' b := fun b h => by unfold grownO; rw [if_neg h]
  refine ⟨⟨[p], [], .ob ho (fun _ => hp) (fun j e => by cases e) .nil, pr_nones p2, by simp, fun a ha => ?_⟩, ?_, ?_, ?_, fun b w _ h => s b w h, ?_, ?_, tp⟩
  · simp at ha
    rw [ha]
    exact zp
  · intro b w q
    by_cases c : b = p
    · rw [c, zp] at q; cases q
    · rw [zn b c] at q
      exact yg.sm b w q
  · intro b w q
    have c : b ≠ p := fun c => by
      have := y.sm b w q
      rw [c, hp] at this
      cases this
    rw [zn b c]
    exact (y.grow s).2 b w q
  · intro b q
    by_cases c : b = p
    · exact absurd (by rw [c]; exact zp) q
    · rw [zn b c] at q
      exact yg.nw b q
  · exact yg.ka
  · intro a ha
    obtain ⟨q1, q2⟩ := yg.az a ha
    refine ⟨q1, ?_⟩
    by_cases c : a = p
    · rw [c]; exact zp
    · rw [zn a c]; exact q2
theorem dps_map {K : PySem.W.Frag} {Hz : Hp} {α : Type} {g : α → V} {d : α → PyData} : ∀ {l : List α}, (∀ e ∈ l, Dp K Hz (g e) (d e)) → DpAll K Hz (l.map g) (l.map d)
  | [], _ => .nil
  | a :: r, h => .cons (h a List.mem_cons_self) (dps_map fun e he => h e (List.mem_cons_of_mem _ he))
theorem val_of_mem {κ : Type} [DecidableEq κ] : ∀ {ks : List (κ × V)} {e : κ × V}, (ks.map (·.1)).Nodup → e ∈ ks → valV ks e.1 = some e.2
  | [], _, _, h => by cases h
  | x :: r, e, nd, h => by
    unfold valV
    rw [List.find?_cons]
    rw [List.map_cons, List.nodup_cons] at nd
    rcases List.mem_cons.mp h with rfl | h
    · simp
    · have : x.1 ≠ e.1 := fun c => nd.1 (by rw [c]; exact List.mem_map.mpr ⟨e, h, rfl⟩)
      rw [decide_eq_false this]
      exact val_of_mem nd.2 h
theorem val_map {κ : Type} [DecidableEq κ] (dt : κ → PyData) (k : κ) : ∀ ks : List (κ × V), valD (ks.map fun e => (e.1, dt e.1)) k = (valV ks k).map fun _ => dt k
  | [] => rfl
  | x :: r => by
    have ih := val_map dt k r
    unfold valD valV at ih ⊢
    rw [List.map_cons, List.find?_cons, List.find?_cons]
    by_cases c : x.1 = k
    · rw [decide_eq_true c]
      simp [c]
    · rw [decide_eq_false c]
      exact ih
end
/-! ### is True, is not True -/
def gIsB (neg : Bool) (d1 d2 : PyData) (P : Vl → Prop) : Prop := match d1, d2 with
  | .bool a, .bool b => P (.dat (.bool (if neg then !decide (a = b) else decide (a = b))))
  | _, _ => False
theorem sr_isB {f : Fr} : SR f rIsB (gIsB false) := ⟨fun {L W e σ Hz H x y d1 d2 Post Q} r1 r2 s h k => by
  unfold gIsB at h
  split at h
  · cases r1
    cases r2
    exact ⟨_, _, rfl, rfl, k _ _ _ _ h same_refl s (Dp.bl _)⟩
  · exact h.elim⟩
theorem sr_notB {f : Fr} : SR f rNotB (gIsB true) := ⟨fun {L W e σ Hz H x y d1 d2 Post Q} r1 r2 s h k => by
  unfold gIsB at h
  split at h
  · cases r1
    cases r2
    exact ⟨_, _, rfl, rfl, k _ _ _ _ h same_refl s (Dp.bl _)⟩
  · exact h.elim⟩
theorem eIsB (neg a b : Bool) (P : Vl → Prop) : gIsB neg (.bool a) (.bool b) P = P (.dat (.bool (if neg then !decide (a = b) else decide (a = b)))) := rfl
end DL


set_option Elab.async false
set_option linter.all false
set_option maxRecDepth 100000
set_option maxHeartbeats 4000000
/-! {e for x in it}, e an int: as the hand layer's own for truth values -/
namespace TG
open PySem PySem.Spec PyProof.Rows L2
/-- what a turn does to the new set -/
abbrev AddI (w : World) (B : Addr) (Nx : Hp → Prop) : V → Hp → Prop := fun y G => ∃ (c : Int) (S : Int → Bool) (n : Nat), y = .int c ∧ G B = some (SetO w B S n) ∧ n + 1 < scanBound ∧ Nx (upd G B (SetO w B (fun j => S j || decide (j = c)) (if S c = true then n else n + 1)))
abbrev emptyI (w : World) (B : Addr) : HO := SetO w B (fun _ => false) 0
def tSI (w : World) (wi : TI) (g : TG) (tt : TT) (te : TE) (vs : List Nat) : TE := fun σ G Q => wi σ G fun J G1 => ∀ B, G1 B = none →
  ∃ Z : Nat → Nat → Hp → Prop, (∃ m, Z 0 m (upd G1 B (emptyI w B))) ∧ ∀ i m G, Z i m G → (J.stop i G ∧ Q (.ref B) G) ∨ (J.go i G ∧ ∃ Nx : Hp → Prop, (∀ G', Nx G' → ∃ k, k < m ∧ Z (i + 1) k G') ∧
    ∀ x G', J.yld i G x G' → g x (wipe σ vs) G' fun τ G2 => wipe τ vs = wipe σ vs ∧ tt τ G2 fun b G3 => if b = true then te τ G3 (AddI w B Nx) else Nx G3)
section
variable {X : Cx}
theorem addI_ok {pins : List (Addr × Obj)} {τ : L2.St} {G : Hp} {s : Shared} {B : Addr} {S : Int → Bool} {n : Nat} {y : Int} {tk : Tok} {Er Q : Value → Shared → Prop} (I : Inv X pins τ G s) (hB : G B = some (SetO X.w B S n)) (hr : n + 1 < scanBound)
    (k : ∀ s', Inv X pins τ (upd G B (SetO X.w B (fun j => S j || decide (j = y)) (if S y = true then n else n + 1))) s' → Q .none s') :
    wpAny (model X.prog X.w) X.A (call (.builtin "set.add") [.ref B, .int y tk]) Q Er s := setR_add (setO_get I hB) hr fun h1 same new => by
  obtain ⟨o, _, _, _, ho, _⟩ := id new
  exact k _ (I.write (t' := s.toks + 1) (e := B) (by rw [hB]; trivial) (.inl rfl) (fun c v hc hv => (same.2 c hc).trans hv) ⟨o, ho⟩ (setO_new new))
abbrev BlkG (X : Cx) (scope : Scope) (J : Cx → Prop) : Prop := ∀ (s : Shared) (G : Hp) (C : Addr) (cl : List (PySem.Str × Addr)) (fp : List Addr), J (X.blk s G scope (compEnvC scope cl C X.env) fp)
theorem setcomp_core {pins : List (Addr × Obj)} {s : Shared} {σ : L2.St} {G : Hp} {Q : VK} {el tgt src : Expr} {fs : List Expr} {scope : Scope} {own : List (PySem.Str × Nat)} {p p' : Pos} {wi : TI} {g : TG} {tt : TT} {te : TE} {Qf : Value → Shared → Prop} {use : Option (Value → Sem Unit)}
    (calm : X.calm = true) (nd : X.N.Nodup) (I : Inv X pins σ G s) (wI : PI X tgt src wi) (blk : BlkOk X.N X.env.scope scope own) (wG : BlkG X scope fun Y => PG Y tgt g) (wT : BlkG X scope fun Y => PTs Y fs tt) (wE : BlkG X scope fun Y => PE Y el te)
    (plain : ∀ x, foldedSetIterable src X.env x = pure x) (h : tSI X.w wi g tt te (own.map (·.2)) σ G Q)
    (fin : ∀ B C s' m G', Inv X pins σ G' s' → Q (.ref B) G' → s'.heap.Ns C m → FpOk X pins G' C → compPost (model X.prog X.w) X.A X.xe use Qf (.ref B) C (.ok .next) s') :
    wpAny (model X.prog X.w) X.A (comprehension (.SetComp el [⟨tgt, src, fs, 0⟩] scope p) scope X.env p' (newSet (.type "set")) false (eval src X.env) use) Qf X.xe s := by
  have free : ∀ y ∈ scope.names, y.2 = .free → ∃ c, X.env.cells.lookup y.1 = some c := fun y hy e => by rcases blk.free y hy e with q | q <;> first | exact I.ok.has _ (.inl q) | exact I.ok.has _ (.inr q)
  refine wpAny_comprehension_free (use := use) rfl plain (closure_ok free) blk.kind (fun y hy e => by rw [blk.uniq y hy, e]) (thn (wI.run pins s σ G _ I h) fun _ _ hx => thn hx fun itv s2 hx2 => ?_)
  obtain ⟨it, fp, tn, J, G2, e0, I2, T, at2, fr2, rest⟩ := hx2
  subst e0
  refine PpSet.newSet_ok (newEnv_comp ?_)
  obtain ⟨B, hB⟩ : ∃ B, s2.heap.objs.size = B := ⟨_, rfl⟩
  have B0 : G2 B = none := I2.hok.fresh (Nat.le_of_eq hB)
  obtain ⟨Z, ⟨m0, z0⟩, turn⟩ := rest B B0
  obtain ⟨s3, e3⟩ : ∃ s3 : Shared, { s2 with heap := s2.heap.push (s0 X.w) } = s3 := ⟨_, rfl⟩
  have hp3 : s3.heap = s2.heap.push (s0 X.w) := by rw [← e3]
  have I3 : Inv X pins σ (upd G2 B (emptyI X.w B)) s3 := by
    subst hB e3
    exact I2.laid (t' := s2.toks) (fun c v q => Heap.get?_push_of_some _ q) (Nat.le_refl _) (setO_new (setR_fresh X.w))
  have fr3 : ∀ c ∈ fp, FpOk X pins (upd G2 B (emptyI X.w B)) c ∧ c < s3.heap.objs.size := fun c hc => by
    obtain ⟨o, q, _⟩ := T.obj _ _ at2 c hc
    have lt := Heap.lt_size q
    refine ⟨⟨?_, (fr2 c hc).2⟩, by rw [hp3, Heap.size_push]; exact Nat.lt_succ_of_lt lt⟩
    rw [upd_ne (by rw [← hB]; exact Nat.ne_of_lt lt)]
    exact (fr2 c hc).1
  have at3 : tn 0 s3.heap := T.keep _ _ _ at2 fun c _ o q => by rw [hp3]; exact Heap.get?_push_of_some _ q
  obtain ⟨cl, hcl⟩ : ∃ cl, cellsFrom (s3.heap.objs.size + 1) scope.names (cloFrom X.env.cells scope.names []) = cl := ⟨_, rfl⟩
  have I4 := block_start I3 blk nd fr3
  have dG := wG s3 (upd G2 B (emptyI X.w B)) s3.heap.objs.size cl fp
  have dT := wT s3 (upd G2 B (emptyI X.w B)) s3.heap.objs.size cl fp
  have dE := wE s3 (upd G2 B (emptyI X.w B)) s3.heap.objs.size cl fp
  have none3 : ∀ c ∈ fp, (upd G2 B (emptyI X.w B)) c = none := fun c hc => (fr3 c hc).1.1
  rw [hcl] at I4
  obtain ⟨s4, e4⟩ : ∃ s4 : Shared, { s3 with heap := pushCells (s3.heap.push { cls := .type "dict", data := .dict #[] }) scope.names } = s4 := ⟨_, rfl⟩
  rw [e4] at I4
  have at4 : tn 0 s4.heap := T.keep _ _ _ at3 fun c _ o q => by rw [← e4]; exact pushCells_keeps _ _ _ _ (Heap.get?_push_of_some _ q)
  have nC3 : ∀ G', Inv X pins σ G' s3 → True := fun _ _ => trivial
  obtain ⟨ce, hce⟩ : ∃ ce, compEnvC scope cl s3.heap.objs.size X.env = ce := ⟨_, rfl⟩
  have ceL : ce.locals = s3.heap.objs.size := by subst hce; rfl
  rw [hce] at I4 dG dT dE
  obtain ⟨G3, hG3⟩ : ∃ G3, upd G2 B (emptyI X.w B) = G3 := ⟨_, rfl⟩
  rw [hG3] at I3 I4 dG dT dE z0 none3 fr3
  have ok4 : ∀ {τ : L2.St} {G' : Hp} {s' : Shared}, Inv (X.blk s3 G3 scope ce fp) [] τ G' s' → (∀ c ∈ fp, G' c = none) → ∀ c ∈ fp, FpOk (X.blk s3 G3 scope ce fp) [] G' c := fun I' hn c hc =>
    ⟨hn c hc, (I'.ok.exf c hc).1, I'.ok.exfs c hc, .inl hc, fun x d q => (I'.ok.exf c hc).2 x d q, fun z hz => (List.not_mem_nil hz).elim⟩
  have loop : codeAny (model X.prog X.w) X.A (.compLoop (.SetComp el [⟨tgt, src, fs, 0⟩] scope p) 0 (.ref it) (.ref B) ce) (compPost (model X.prog X.w) X.A X.xe use Qf (.ref B) s3.heap.objs.size) s4 := by
    refine PpSet.compLoopS_any (fun n s' => ∃ i G', Inv (X.blk s3 G3 scope ce fp) [] (wipe σ (own.map (·.2))) G' s' ∧ tn i s'.heap ∧ (∀ c ∈ fp, G' c = none) ∧ Z i n G') (fun n s5 hI => ?_) m0 ⟨0, G3, I4, at4, none3, z0⟩
    obtain ⟨i, G5, I5, at5, none5, z5⟩ := hI
    rcases turn i n G5 z5 with ⟨stop, out⟩ | ⟨go, Nx, next, step⟩
    · refine thnF (T.done (X.blk s3 G3 scope ce fp) rfl rfl rfl calm i [] s5 _ G5 (fun _ _ => False) I5 (ok4 I5 none5) at5 stop) fun r s6 ⟨hr, I6⟩ => ?_
      subst hr
      have free6 : G5 s3.heap.objs.size = none := by
        have z : G5 ce.locals = none := I6.free
        rwa [ceL] at z
      obtain ⟨m, ns, _⟩ := I6.loc
      have ns : s6.heap.Ns ce.locals m := ns
      rw [ceL] at ns
      refine fin B s3.heap.objs.size s6 m G5 (I3.call' (ch := fp) I6.os I6.base I6.hok I6.bare fun c hc => ?_) out ns (I3.fpOk (Nat.le_refl _) free6)
      obtain ⟨a1, a2, a3, a4, a5, a6⟩ := (fr3 c hc).1
      exact ⟨a4, a2, a5, a6⟩
    · refine thnF (T.item (X.blk s3 G3 scope ce fp) rfl rfl rfl calm i [] s5 _ G5 (fun _ _ => False) I5 (ok4 I5 none5) at5 go) fun r s6 ⟨u, hr, h6⟩ => ?_
      subst hr
      refine thnF h6 fun _ s7 ⟨x, G7, I7, r7, y7, at7, none7⟩ => ?_
      refine thnF (dG.run _ s7 _ G7 x u _ (I7.pinned (ok4 I7 none7) (T.obj _ _ at7)) r7 (step x G7 y7)) fun _ s8 ⟨τ8, G8, I8, w8, q8⟩ => ?_
      have back : ∀ {s' : Shared} {G' : Hp}, Inv (X.blk s3 G3 scope ce fp) ([] ++ pinsAt fp s7.heap) τ8 G' s' → Nx G' → ∃ m, m < n ∧ ∃ i G', Inv (X.blk s3 G3 scope ce fp) [] (wipe σ (own.map (·.2))) G' s' ∧ tn i s'.heap ∧ (∀ c ∈ fp, G' c = none) ∧ Z i m G' := fun {s' G'} I' nx => by
        obtain ⟨k, hk, zk⟩ := next G' nx
        have pinned : ∀ c ∈ fp, ∀ o, s7.heap.get? c = some o → s'.heap.get? c = some o ∧ G' c = none := fun c hc o q => by
          have z := I'.pin (c, o) (List.mem_append_right _ (List.mem_append_right _ (mem_pinsAt hc q)))
          exact ⟨z.1, z.2.1⟩
        refine ⟨k, hk, i + 1, G', (I'.unpinned (pins := [])).weak (by rw [← w8, wipe_length]) (fun j v q => ?_), T.keep _ _ _ at7 fun c hc o q => (pinned c hc o q).1, fun c hc => ?_, zk⟩
        · rw [← w8] at q
          exact (wipe_some q).1
        · obtain ⟨o, q, _⟩ := T.obj _ _ at7 c hc
          exact (pinned c hc o q).2
      refine thnF (dT.run _ s8 τ8 G8 _ I8 q8) fun b s9 ⟨G9, I9, q9⟩ => ?_
      cases b with
      | false => exact back I9 q9
      | true =>
        refine thnF (dE.run _ s9 τ8 G9 _ I9 q9) fun z s10 ⟨y, G10, I10, r10, c, S, n', ey, hB10, room, nx⟩ => ?_
        subst ey
        obtain ⟨tk, rfl⟩ : ∃ t, z = Value.int c t := r10
        exact addI_ok (X := X.blk s3 G3 scope ce fp) I10 hB10 room fun s11 I11 => back I11 nx
  have := PpSet.codeAny_compStart_set loop (T.self X.A 0 _ _ _ at4 loop)
  subst e4
  subst hce
  subst hcl
  subst e3
  subst hB
  exact this
theorem pe_setI {el tgt src : Expr} {fs : List Expr} {scope : Scope} {own : List (PySem.Str × Nat)} {p : Pos} {wi : TI} {g : TG} {tt : TT} {te : TE} (calm : X.calm = true) (nd : X.N.Nodup) (wI : PI X tgt src wi) (blk : BlkOk X.N X.env.scope scope own)
    (wG : BlkG X scope fun Y => PG Y tgt g) (wT : BlkG X scope fun Y => PTs Y fs tt) (wE : BlkG X scope fun Y => PE Y el te) (plain : ∀ x, foldedSetIterable src X.env x = pure x := by intro _; rfl) : PE X (.SetComp el [⟨tgt, src, fs, 0⟩] scope p) (tSI X.w wi g tt te (own.map (·.2))) := ⟨fun pins s σ G Q I h => by
  rw [PpSet.eval_SetComp]
  refine setcomp_core calm nd I wI blk wG wT wE plain h fun B C s' m G' I' q ns f => ⟨m, ns, fun h2 sb => ?_⟩
  obtain ⟨f0, f1, f2, f3, f4, f5⟩ := f
  exact ⟨.ref B, G', I'.turned (t' := s'.toks) (fun c o hc e => (sb.2 c hc).trans e) f0 f1 f3 f4 f5, rfl, q⟩⟩
theorem pe_setIK {w : World} (hw : X.w = w) {el tgt src : Expr} {fs : List Expr} {scope : Scope} {own : List (PySem.Str × Nat)} {p : Pos} {wi : TI} {g : TG} {tt : TT} {te : TE} (calm : X.calm = true) (nd : X.N.Nodup) (wI : PI X tgt src wi) (blk : BlkOk X.N X.env.scope scope own)
    (wG : BlkG X scope fun Y => PG Y tgt g) (wT : BlkG X scope fun Y => PTs Y fs tt) (wE : BlkG X scope fun Y => PE Y el te) (plain : ∀ x, foldedSetIterable src X.env x = pure x := by intro _; rfl) : PE X (.SetComp el [⟨tgt, src, fs, 0⟩] scope p) (tSI w wi g tt te (own.map (·.2))) := by
  subst hw
  exact pe_setI calm nd wI blk wG wT wE plain
/-- a if t else b as a test -/
def tIfT (t a b : TT) : TT := fun σ H Q => t σ H fun c H1 => if c = true then a σ H1 Q else b σ H1 Q
theorem pt_ifExp {c a b : Expr} {p : Pos} {tc ta tb : TT} (hc : PT X c tc) (ha : PT X a ta) (hb : PT X b tb) : PT X (.IfExp c a b p) (tIfT tc ta tb) := ⟨fun pins s σ H Q I h => by
  show wpAny (model X.prog X.w) X.A (PySem.isTrue c X.env (eval c X.env) >>= fun k => if k = true then PySem.isTrue a X.env (eval a X.env) else PySem.isTrue b X.env (eval b X.env)) _ _ s
  refine wpAny_bind (thn (hc.run pins s σ H _ I h) fun d s1 ⟨H1, I1, q1⟩ => ?_)
  cases d with
  | true => exact ha.run pins s1 σ H1 Q I1 q1
  | false => exact hb.run pins s1 σ H1 Q I1 q1⟩
end
end TG


set_option Elab.async false
set_option linter.all false
set_option maxRecDepth 100000
set_option maxHeartbeats 4000000
/-! sorted(t), t a tuple of ints -/
namespace TG
open PySem PySem.Spec PyProof.Rows L2 SrtO
section
variable {P : Program} {w : World} {A : Around} {E : Value → Shared → Prop} {s : Shared}
theorem gather_tup {t : Addr} {us : List Value} {Q : List Value → Shared → Prop} (ht : IsTup s.heap t us.toArray) (hz : us.length ≤ sizeLine)
    (k : Q us { s with heap := (s.heap.push (seqObj "list" #[] 0)).update s.heap.objs.size (Obj.mapSeq (· ++ us.toArray)) }) : wpAny (model P w) A (collect (.ref t)) Q E s := by
  obtain ⟨o, ho, hcls, n, hdat⟩ := ht
  have ho2 : (s.heap.push (seqObj "list" #[] 0)).get? t = some o := Heap.get?_push_of_some _ ho
  have hnew : (s.heap.push (seqObj "list" #[] 0)).get? s.heap.objs.size = some (seqObj "list" #[] 0) := Heap.get?_push_size _ rfl
  unfold collect
  refine wpAny_bind (wpAny_runValue (codeAny_builtin entry_proto_collect' ?_))
  refine wpAny_bind (m := newList []) (wpAny_newList (wpAny_pure ⟨Code.quiet_builtin _ (by decide +kernel), codeAny_builtin entry_list_iadd' ?_⟩))
  change wpAny (model P w) _ (Builtin.List.listExtendWith (.ref s.heap.objs.size) (.ref t) (.ref s.heap.objs.size)) _ _ { s with heap := s.heap.push (seqObj "list" #[] 0) }
  unfold Builtin.List.listExtendWith
  refine wpAny_bind (wpAny_typeOf (T := "tuple") ⟨o, ho2, hcls⟩ ?_)
  rw [if_pos (by rw [show (Value.type "tuple" == Value.type "tuple") = true by rfl]; simp)]
  refine wpAny_bind (listItems_at ho2 hdat (wpAny_bind (listItems_at (xs := #[]) (n := 0) hnew rfl ?_)))
  rw [if_neg (by simp)]
  refine wpAny_bind (listUpdate_at (xs := #[]) (n := 0) hnew rfl ?_ (Nat.zero_le _) (by show (#[] ++ us.toArray).size ≤ sizeLine + 1; simp only [Array.size_append, List.size_toArray, List.length_nil]; omega))
  refine wpAny_pure (wpAny_bind (m := load s.heap.objs.size) (wpAny_load (get?_update_seq hnew _) ?_))
  change wpAny (model P w) A (pure ((#[] : Array Value) ++ us.toArray).toList) Q E _
  refine wpAny_pure ?_
  simpa using k
theorem sorted_tup {t : Addr} {us : List Value} {lt : Value → Value → Bool} {Q : Value → Shared → Prop} (O : Swo lt) (ht : IsTup s.heap t us.toArray) (hz : us.length ≤ sizeLine)
    (able : 2 ≤ us.length → ∀ (h₁ : Heap) (a : Addr), h₁.get? a = some (seqObj "list" us.toArray 0) → (∀ b o, s.heap.get? b = some o → b ≠ a ∧ h₁.get? b = some o) → SortableO P w ((A.in1).in1) { s with heap := h₁ } a us lt)
    (k : ∀ out : List Value, Srtd lt out → Stb lt out us → Q (.ref (s.heap.objs.size + 1)) { s with heap := sortedAll s.heap us out.toArray }) : wpAny (model P w) A (call (.builtin "sorted") [.ref t]) Q E s := by
  refine Calls.call_function_entry kind_sorted plain_sorted entry_sorted (args_sorted1 _) ?_
  unfold Builtin.«sorted»
  refine wpAny_bind (m := checkCount "sorted" 1 1 _) (wpAny_pure (wpAny_bind (gather_tup ht hz (wpAny_bind (wpAny_newList ?_ hz)))))
  obtain ⟨Z, hZ⟩ : ∃ Z, (s.heap.push (seqObj "list" #[] 0)).update s.heap.objs.size (Obj.mapSeq (· ++ us.toArray)) = Z := ⟨_, rfl⟩
  have zs : Z.objs.size = s.heap.objs.size + 1 := by rw [← hZ, Heap.size_update, size_push']
  have znew : (Z.push (seqObj "list" us.toArray 0)).get? (s.heap.objs.size + 1) = some (seqObj "list" us.toArray 0) := by
    rw [← zs]
    exact Heap.get?_push_size _ rfl
  have old : ∀ b o, s.heap.get? b = some o → b ≠ s.heap.objs.size + 1 ∧ (Z.push (seqObj "list" us.toArray 0)).get? b = some o := fun b o q => by
    have lt := Heap.lt_size q
    refine ⟨Nat.ne_of_lt (Nat.lt_succ_of_lt lt), Heap.get?_push_of_some _ ?_⟩
    rw [← hZ, Heap.get?_update_ne _ _ _ _ (Nat.ne_of_lt lt)]
    exact Heap.get?_push_of_some _ q
  have k2 : ∀ out : List Value, Srtd lt out → Stb lt out us → Q (.ref (s.heap.objs.size + 1)) { s with heap := sortedHeap (Z.push (seqObj "list" us.toArray 0)) (s.heap.objs.size + 1) us out.toArray } := by
    rw [← hZ]
    exact k
  rw [hZ]
  change wpAny (model P w) _ _ _ _ { s with heap := Z.push (seqObj "list" us.toArray 0) }
  rw [zs]
  refine wpAny_bind (wpAny_holding (wpAny_call_entry slot_list_sort ⟨_, znew, rfl⟩ entry_list_sort (list_sort_ord O znew hz (fun h2 => able h2 _ _ znew old) fun out h1 h2 => ⟨_, rfl, ?_⟩) (args_list_sort _)))
  exact wpAny_pure ⟨_, rfl, k2 out h1 h2⟩
end
def rSortIT (K : PySem.W.Frag) : List V → Hp → VK → Prop := fun vs H Q => ∃ (a : Addr) (ns : List Int), vs = [V.ref a] ∧ SqT K H a (ns.map V.int) ∧ ∀ (ns' : List Int) (p : Addr), ns'.Perm ns → ns'.Pairwise (· ≤ ·) → H p = none → Q (.ref p) (upd H p (.lst (ns'.map V.int)))
theorem cr_sortIT {X : Cx} {K : PySem.W.Frag} (hK : X.K = K) : CallR X (.builtin "sorted") (rSortIT K) := by
  subst hK
  intro pins s σ H vs us Q I r h
  obtain ⟨a, ns, rfl, ha, q⟩ := h
  obtain ⟨its, rv, tp, hz⟩ := I.tuple ha
  rw [Vals.ref1 r]
  refine sorted_tup swo_int tp (by rw [← rv.length]; exact hz) (fun h2 _ _ _ _ => ints_sortable rv.ints h2) fun out h1 h2 => ?_
  obtain ⟨b1, b2, b3⟩ := ints_out rv.ints h1 h2
  obtain ⟨ep, at'⟩ := sortedAll_at s.heap its out.toArray
  refine ⟨.ref _, upd H (s.heap.objs.size + 1) (.lst ((out.map iv).map V.int)), I.laid (t' := s.toks) (fun _ _ => sortedAll_old) (Nat.le_succ _) ⟨?_, out, ep, vals_of_ints b1, at'⟩, rfl, q _ _ b2 b3 (I.hok.fresh (Nat.le_succ _))⟩
  rw [List.length_map, b2.length_eq]
  rwa [List.length_map] at hz
end TG


set_option Elab.async false
set_option linter.all false
set_option maxRecDepth 100000
set_option maxHeartbeats 4000000
/-! A middle predicate between two statements. -/
namespace DL
open PySem L2 TG
def wCut (S U : WS) (P : Po) (e : En) : Prop := ∃ M : En → Prop, S { P with nx := M } e ∧ ∀ e', M e' → U P e'
theorem cut_use {S U : WS} {P : Po} {e : En} (M : En → Prop) (h : S { P with nx := M } e) (h' : ∀ e', M e' → U P e') : wCut S U P e := ⟨M, h, h'⟩
theorem ss_cut {f : Fr} {t u : TS} {S U : WS} (h1 : SS f t S) (h2 : SS f u U) : SS f (tSeq t u) (wCut S U) := ⟨fun {D P e σ Hz H} w y o => by
  obtain ⟨M, a, b⟩ := w
  exact h1.run a y ⟨fun p s1 y1 => h2.run (b _ p) y1 (o.mono s1), o.rt, o.bk, o.ct⟩⟩
/-! sorted(t), t a tuple of ints -/
def gSortT (d : PyData) (P : Vl → Prop) : Prop := match d with
  | .tuple ds => ob1 (intsD ds) fun ns => ∀ ns' : List Int, ns'.Perm ns → ns'.Pairwise (· ≤ ·) → P (.ob (.lst (ns'.map PyData.int)))
  | _ => False
theorem eSortT {ds : List PyData} {P : Vl → Prop} : gSortT (.tuple ds) P = ob1 (intsD ds) fun ns => ∀ ns' : List Int, ns'.Perm ns → ns'.Pairwise (· ≤ ·) → P (.ob (.lst (ns'.map PyData.int))) := rfl
theorem sc_sortT {f : Fr} : SC f (rSortIT f.K) gSortT := ⟨fun {L W e σ Hz H x d Post Q} r s h k => by
  unfold gSortT at h
  split at h
  · obtain ⟨ns, c, h⟩ := ob1_ex h
    obtain ⟨a, xs, rfl, q1, q2⟩ := rep_tup s.sm r
    rw [intsD_eq c] at q2
    rw [dps_ints q2] at q1
    exact ⟨a, ns, rfl, q1, fun ns' p h1 h2 hp => k _ _ _ _ (h ns' h1 h2) same_refl (s.newO (o := .lst _) hp ⟨_, upd_same, ints_dps ns'⟩) trivial⟩
  · exact h.elim⟩
/-! list(range(n)) -/
def wListRg (E : WE) (e : En) (P : Vl → En → Prop) : Prop := wFz E e fun d e1 => match d with
  | .int n => (0 ≤ n ∧ n ≤ 100000) ∧ P (.ob (.lst (rangeD 0 n.toNat))) e1
  | _ => False
theorem se_listRg {f : Fr} {te : TE} {E : WE} (h : SE f te E) : SE f (tLstRg (tRg1 te)) (wListRg E) := ⟨fun {L W e σ Hz H Post Q} w y k => fz_run h w y fun d e1 v Hz1 H1 h1 s1 y1 d1 => by
  split at h1
  · rename_i n
    cases d1
    obtain ⟨⟨n0, n1⟩, h1⟩ := h1
    refine ⟨n, rfl, RgOk.of_le (Int.le_refl 0) (by omega) (by omega) n0, fun p hp => k _ _ _ _ _ h1 s1 (y1.newO (o := .lst _) hp ⟨_, upd_same, ?_⟩) trivial⟩
    unfold rgV rangeD
    rw [Int.sub_zero]
    exact dps_map fun e _ => .int _
  · exact h1.elim⟩
/-! a if t else b as a test -/
def wIfT (T A B : WT) (e : En) (P : Bool → En → Prop) : Prop := T e fun c e1 => if c = true then A e1 P else B e1 P
theorem st_ifT {f : Fr} {t a b : TT} {T A B : WT} (ht : ST f t T) (ha : ST f a A) (hb : ST f b B) : ST f (tIfT t a b) (wIfT T A B) := ⟨fun {L W e σ Hz H Post Q} w y k => ht.run w y fun c e1 Hz1 H1 w1 s1 y1 => by
  by_cases h : c = true
  · rw [if_pos h] at w1 ⊢
    exact ha.run w1 y1 fun b2 e2 Hz2 H2 w2 s2 y2 => k _ _ _ _ w2 (same_trans s1 s2) y2
  · rw [if_neg h] at w1 ⊢
    exact hb.run w1 y1 fun b2 e2 Hz2 H2 w2 s2 y2 => k _ _ _ _ w2 (same_trans s1 s2) y2⟩
/-! sorted({e for x in it}), e an int -/
def setOb (w : World) (B : Addr) (S : Int → Bool) (n : Nat) : Ob := .ext fun _ _ u => u = some (SetO w B S n)
theorem setOb_ok {K : PySem.W.Frag} {Hz H : Hp} {w : World} {B : Addr} {S : Int → Bool} {n : Nat} (h : H B = some (SetO w B S n)) : OkOb K Hz H B (setOb w B S n) :=
  ⟨by rw [h]; exact Option.some_ne_none _, fun u hu => by rw [h] at hu; cases hu; rfl, h, fun _ _ => h⟩
def ScB (Gt : WG) (T : WT) (E : WE) (vs : List Nat) (P : Vl → En → Prop) (its : List PyData) (e1 : En) : Prop := ∃ Inv : Nat → List Int → En → Prop, Inv 0 [] (wipeE e1 vs) ∧
  (∀ i d acc e2, its[i]? = some d → Inv i acc e2 → acc.length ≤ 62 ∧ Gt (.dat d) e2 fun e3 => T e3 fun b e4 => if b = true then wFz E e4 fun y e5 => ∃ k : Int, y = .int k ∧ Inv (i + 1) (acc ++ [k]) (wipeE e5 vs) else Inv (i + 1) acc (wipeE e4 vs)) ∧
  ∀ acc e2, Inv its.length acc e2 → e2.length = e1.length ∧ acc.length < 64 ∧ ∀ ns' : List Int, ns'.Pairwise (· < ·) → (∀ k, k ∈ ns' ↔ k ∈ acc) → P (.ob (.lst (ns'.map PyData.int))) (back e1 vs (wipeE e2 vs))
def wSc (G : WI) (Gt : WG) (T : WT) (E : WE) (vs : List Nat) (e : En) (P : Vl → En → Prop) : Prop := G e (ScB Gt T E vs P)
theorem sc_use {G : WI} {Gt : WG} {T : WT} {E : WE} {vs : List Nat} {e : En} {P : Vl → En → Prop} (h : G e (ScB Gt T E vs P)) : wSc G Gt T E vs e P := h
theorem sc_acc {Gt : WG} {T : WT} {E : WE} {vs : List Nat} {its : List PyData} {e1 e0 : En} {P : Vl → En → Prop} (acc : Nat → List Int) (h0 : acc 0 = []) (he : e0 = wipeE e1 vs) (hl : ∀ i, i < its.length → (acc i).length ≤ 62)
    (hs : ∀ i d, its[i]? = some d → Gt (.dat d) e0 fun e3 => T e3 fun b e4 => if b = true then wFz E e4 fun y e5 => ∃ k : Int, y = .int k ∧ acc (i + 1) = acc i ++ [k] ∧ wipeE e5 vs = e0 else acc (i + 1) = acc i ∧ wipeE e4 vs = e0)
    (h64 : (acc its.length).length < 64) (hP : ∀ ns' : List Int, ns'.Pairwise (· < ·) → (∀ k, k ∈ ns' ↔ k ∈ acc its.length) → P (.ob (.lst (ns'.map PyData.int))) (back e1 vs (wipeE e0 vs))) : ScB Gt T E vs P its e1 := by
  refine ⟨fun i ac e => acc i = ac ∧ e = e0, ⟨h0, he.symm⟩, ?_, ?_⟩
  · rintro i d ac e2 hd ⟨rfl, rfl⟩
    exact ⟨hl i (List.getElem?_eq_some_iff.mp hd).1, hs i d hd⟩
  · rintro ac e2 ⟨rfl, rfl⟩
    exact ⟨by rw [he, wipeE_len], h64, hP⟩
section
variable {f : Fr} {te : TE} {E : WE} {tt : TT} {T : WT} {wi : TI} {G : WI} {g : TG} {Gt : WG} {sl : List Nat}
theorem se_sortC {w : World} {vs : List Nat} (hi : SI f wi G) (hg : SG f g Gt sl) (ht : ST f tt T) (he : SE f te E) (hv : ∀ i ∈ sl, i ∈ vs) : SE f (tCB (rSortedSet w) (tCons (tSI w wi g tt te vs) tNil)) (wSc G Gt T E vs) := ⟨fun {L W e σ Hz H Post Q} wp y k => hi.run wp y fun J its e1 Hz1 H1 w1 s1 y1 hw B hB => by
  obtain ⟨Inv, i0, step, fin⟩ := w1
  have ys : Sy f (some (.ob none (setOb w B (fun _ => false) 0)) :: L) (some (.ref B) :: W) (wipeE e1 vs) (wipe σ vs) Hz1 (upd H1 B (emptyI w B)) := (y1.newO (o := setOb w B (fun _ => false) 0) hB (setOb_ok upd_same)).wiped vs
  refine ⟨fun i m H => m = its.length - i ∧ i ≤ its.length ∧ ∃ acc S n e Hz, Inv i acc e ∧ n ≤ acc.length ∧ (∀ k, S k = decide (k ∈ acc)) ∧ Same Hz1 Hz ∧ Sy f (some (.ob none (setOb w B S n)) :: L) (some (.ref B) :: W) e (wipe σ vs) Hz H,
    ⟨its.length, rfl, Nat.zero_le _, [], _, _, _, Hz1, i0, Nat.le_refl _, fun k => by simp, same_refl, ys⟩, ?_⟩
  rintro i m H ⟨rfl, hi', acc, S, n, e2, Hz2, i2, hn, hS, s2, y2⟩
  by_cases hlt : i < its.length
  · refine .inr ⟨hw.go i H hlt (same_trans s2 y2.sm), fun H' => ∃ acc S n e Hz, Inv (i + 1) acc e ∧ n ≤ acc.length ∧ (∀ k, S k = decide (k ∈ acc)) ∧ Same Hz1 Hz ∧ Sy f (some (.ob none (setOb w B S n)) :: L) (some (.ref B) :: W) e (wipe σ vs) Hz H',
      fun H' ⟨acc, S, n, e, Hz, a, a2, a3, b, c⟩ => ⟨its.length - (i + 1), by omega, rfl, hlt, acc, S, n, e, Hz, a, a2, a3, b, c⟩, fun x H' hy => ?_⟩
    obtain ⟨hl, st⟩ := step i _ acc e2 (List.getElem?_eq_getElem hlt) i2
    refine step_item hw s2 y2 hy (List.getElem?_eq_getElem hlt) hg st fun e3 σ3 Hz3 H3 w3 s3 y3 c3 => ?_
    have cw : wipe σ3 vs = wipe σ vs := by rw [c3 vs hv, wipe_wipe]
    refine ⟨cw, ht.run w3 y3 fun b e4 Hz4 H4 w4 s4 y4 => ?_⟩
    by_cases c : b = true
    · rw [if_pos c] at w4 ⊢
      refine fz_run he w4 y4 fun d e5 v Hz5 H5 w5 s5 y5 d5 => ?_
      obtain ⟨kk, rfl, w5⟩ := w5
      cases d5
      obtain ⟨a, ea, ho, _⟩ := y5.top
      cases ea
      refine ⟨kk, S, n, rfl, ho.2.2.1, by unfold scanBound; omega, acc ++ [kk], (fun j => S j || decide (j = kk)), (if S kk = true then n else n + 1), wipeE e5 vs, Hz5, w5, ?_, fun j => ?_, same_trans s2 (same_trans s3 (same_trans s4 s5)), ?_⟩
      · rw [List.length_append, List.length_singleton]
        split <;> omega
      · show (S j || decide (j = kk)) = _
        rw [hS j, Bool.eq_iff_iff]
        simp
      · have y6 := (y5.wrT (u := SetO w B (fun j => S j || decide (j = kk)) (if S kk = true then n else n + 1)) (setOb_ok upd_same)).wiped vs
        rw [cw] at y6
        exact y6
    · rw [if_neg c] at w4 ⊢
      have y6 := y4.wiped vs
      rw [cw] at y6
      exact ⟨acc, S, n, wipeE e4 vs, Hz4, w4, hn, hS, same_trans s2 (same_trans s3 s4), y6⟩
  · have : i = its.length := by omega
    subst this
    obtain ⟨hl, h64, hf⟩ := fin acc e2 i2
    obtain ⟨a, ea, ho, _⟩ := y2.top
    cases ea
    refine .inl ⟨hw.stop H (same_trans s2 y2.sm), B, S, n, rfl, ho.2.2.1, by omega, fun ns' q h3 h4 h5 hq => ?_⟩
    have y7 := Sy.back y1 s2 y2.unwipe (by rw [wipeE_len, hl]) vs
    exact k _ _ _ _ _ (hf ns' h3 fun kk => by rw [h4 kk, hS kk, decide_eq_true_iff]) (same_trans s1 s2) (y7.pop.newO (o := .lst _) hq ⟨_, upd_same, ints_dps ns'⟩) trivial⟩
end
/-! slices -/
theorem cut_to (xs : List PyData) (n : Nat) : cutD xs none (some (n : Int)) = xs.take n := by
  show (xs.drop 0).take (HT.sIx xs.length xs.length (some (n : Int)) - 0) = xs.take n
  rw [HT.sIx_nat, List.drop_zero, Nat.sub_zero, ← List.take_eq_take_min]
theorem cut_from (xs : List PyData) (n : Nat) : cutD xs (some (n : Int)) none = xs.drop n := by
  show (xs.drop (HT.sIx xs.length 0 (some (n : Int)))).take (xs.length - HT.sIx xs.length 0 (some (n : Int))) = xs.drop n
  rw [HT.sIx_nat]
  by_cases c : n ≤ xs.length
  · rw [Nat.min_eq_left c, List.take_of_length_le (by rw [List.length_drop]; omega)]
  · rw [Nat.min_eq_right (by omega), List.drop_eq_nil_of_le (Nat.le_refl _), List.drop_eq_nil_of_le (by omega), List.take_nil]
theorem cut_from1 (xs : List PyData) : cutD xs (some 1) none = xs.drop 1 := cut_from xs 1
theorem cut_initial (xs : List PyData) : cutD xs none (some (-1)) = xs.dropLast := by
  show (xs.drop 0).take ((if (-1 : Int) < 0 then ((-1 : Int) + (xs.length : Int)).toNat else 0) - 0) = xs.dropLast
  rw [List.drop_zero, Nat.sub_zero, if_pos (by decide), List.dropLast_eq_take]
  congr 1
  omega
end DL


set_option Elab.async false
set_option linter.all false
/-! A tuple of the top. -/
namespace TG
open PySem L2
theorem kt_tup {K : PySem.W.Frag} {H : Hp} {a : Addr} {od : Option Addr} {its : Array Value} {n : Nat} {sl : Array (Option Value)} {xs : List V} {ds : List PyData} (q : K.lookup a = some ⟨.type "tuple", od, .seq its n, sl⟩) (hv : Vals xs its.toList) (hd : DpAll K H xs ds) (hz : its.size ≤ 100000 := by simp) : Dp K H (.ref a) (.tuple ds) :=
  .tup (.inr ⟨_, its, n, q, rfl, rfl, Evl.sz_of hz, hv⟩) hd
end TG


set_option Elab.async false
set_option linter.all false
set_option maxRecDepth 100000
set_option maxHeartbeats 4000000
namespace K06
open PySem L2 TG
def top (i : Nat) : Stmt := PySem.Challenge.pw_thermogames_k06_whole_texts.main.body.getD i (.Pass ⟨0, 0, 0, 0⟩)
abbrev s_TooLarge___init__ : Stmt := inClass (top 3) 0
abbrev s_InvalidText___init__ : Stmt := inClass (top 5) 0
abbrev s_is_game : Stmt := top 9
abbrev s_need_game : Stmt := top 10
abbrev s_integer_form : Stmt := top 22
abbrev s_number_form : Stmt := top 23
abbrev s_nimber_form : Stmt := top 24
abbrev s_integer_of : Stmt := top 25
abbrev s_named : Stmt := top 26
abbrev s_fraction_of : Stmt := top 27
abbrev s_fraction_name : Stmt := top 28
abbrev s_text_of : Stmt := top 29
abbrev s_write : Stmt := top 30
abbrev s_digits_from : Stmt := top 31
abbrev s_read_whole : Stmt := top 32
abbrev s_read_number : Stmt := top 33
abbrev s_read_star : Stmt := top 34
abbrev s_read_side : Stmt := top 35
abbrev s_read_from : Stmt := top 36
abbrev s_too_deep : Stmt := top 37
abbrev s_read : Stmt := top 38
abbrev s_law_taken : Stmt := top 40
abbrev s_law_pick : Stmt := top 41
abbrev s_law_zero : Stmt := top 42
abbrev s_law_star : Stmt := top 43
abbrev s_law_whole : Stmt := top 44
abbrev s_law_number : Stmt := top 45
abbrev s_law_nimber : Stmt := top 46
abbrev s_law_back : Stmt := top 47
abbrev s_law_nodes : Stmt := top 48
abbrev s_law_named : Stmt := top 49
abbrev s_law_game : Stmt := top 50
abbrev s_law_some : Stmt := top 51
abbrev s_law_name : Stmt := top 52
abbrev s_law_told : Stmt := top 53
abbrev s_law : Stmt := top 54
theorem sc_TooLarge___init__ : FnScope ["self", "most"] ["self", "most"] (defScope s_TooLarge___init__) := ⟨rfl, rfl, rfl, by decide +kernel, rfl, by decide +kernel, by decide +kernel⟩
theorem sc_InvalidText___init__ : FnScope ["self", "place"] ["self", "place"] (defScope s_InvalidText___init__) := ⟨rfl, rfl, rfl, by decide +kernel, rfl, by decide +kernel, by decide +kernel⟩
theorem sc_is_game : FnScope ["value", "pending", "many", "told", "depth", "side", "option"] ["value"] (defScope s_is_game) := ⟨rfl, rfl, rfl, by decide +kernel, rfl, by decide +kernel, by decide +kernel⟩
theorem sc_need_game : FnScope ["value"] ["value"] (defScope s_need_game) := ⟨rfl, rfl, rfl, by decide +kernel, rfl, by decide +kernel, by decide +kernel⟩
theorem sc_integer_form : FnScope ["number", "found", "at"] ["number"] (defScope s_integer_form) := ⟨rfl, rfl, rfl, by decide +kernel, rfl, by decide +kernel, by decide +kernel⟩
theorem sc_number_form : FnScope ["top", "bottom", "sides", "near", "parts"] ["top", "bottom"] (defScope s_number_form) := ⟨rfl, rfl, rfl, by decide +kernel, rfl, by decide +kernel, by decide +kernel⟩
theorem sc_nimber_form : FnScope ["size", "rows", "at"] ["size"] (defScope s_nimber_form) := ⟨rfl, rfl, rfl, by decide +kernel, rfl, by decide +kernel, by decide +kernel⟩
theorem sc_integer_of : FnScope ["game", "found", "lefts", "rights", "step"] ["game"] (defScope s_integer_of) := ⟨rfl, rfl, rfl, by decide +kernel, rfl, by decide +kernel, by decide +kernel⟩
theorem sc_named : FnScope ["game", "whole", "told", "name", "size"] ["game"] (defScope s_named) := ⟨rfl, rfl, rfl, by decide +kernel, rfl, by decide +kernel, by decide +kernel⟩
theorem sc_fraction_of : FnScope ["game", "whole", "low", "high", "bottom", "top"] ["game"] (defScope s_fraction_of) := ⟨rfl, rfl, rfl, by decide +kernel, rfl, by decide +kernel, by decide +kernel⟩
theorem sc_fraction_name : FnScope ["game", "found"] ["game"] (defScope s_fraction_name) := ⟨rfl, rfl, rfl, by decide +kernel, rfl, by decide +kernel, by decide +kernel⟩
theorem sc_text_of : FnScope ["game", "name", "lefts", "rights", "option"] ["game"] (defScope s_text_of) := ⟨rfl, rfl, rfl, by decide +kernel, rfl, by decide +kernel, by decide +kernel⟩
theorem sc_write : FnScope ["game"] ["game"] (defScope s_write) := ⟨rfl, rfl, rfl, by decide +kernel, rfl, by decide +kernel, by decide +kernel⟩
theorem sc_digits_from : FnScope ["text", "at"] ["text", "at"] (defScope s_digits_from) := ⟨rfl, rfl, rfl, by decide +kernel, rfl, by decide +kernel, by decide +kernel⟩
theorem sc_read_whole : FnScope ["text", "at", "start", "end"] ["text", "at", "start"] (defScope s_read_whole) := ⟨rfl, rfl, rfl, by decide +kernel, rfl, by decide +kernel, by decide +kernel⟩
theorem sc_read_number : FnScope ["text", "start", "minus", "top", "at", "bottom"] ["text", "start"] (defScope s_read_number) := ⟨rfl, rfl, rfl, by decide +kernel, rfl, by decide +kernel, by decide +kernel⟩
theorem sc_read_star : FnScope ["text", "start", "end"] ["text", "start"] (defScope s_read_star) := ⟨rfl, rfl, rfl, by decide +kernel, rfl, by decide +kernel, by decide +kernel⟩
theorem sc_read_side : FnScope ["text", "at", "last", "found", "game"] ["text", "at", "last"] (defScope s_read_side) := ⟨rfl, rfl, rfl, by decide +kernel, rfl, by decide +kernel, by decide +kernel⟩
theorem sc_read_from : FnScope ["text", "at", "sign", "lefts", "rights"] ["text", "at"] (defScope s_read_from) := ⟨rfl, rfl, rfl, by decide +kernel, rfl, by decide +kernel, by decide +kernel⟩
theorem sc_too_deep : FnScope ["text", "depth", "at", "sign"] ["text"] (defScope s_too_deep) := ⟨rfl, rfl, rfl, by decide +kernel, rfl, by decide +kernel, by decide +kernel⟩
theorem sc_read : FnScope ["text", "deep", "game", "at"] ["text"] (defScope s_read) := ⟨rfl, rfl, rfl, by decide +kernel, rfl, by decide +kernel, by decide +kernel⟩
theorem sc_law_taken : FnScope ["_law_row", "_law_many", "_law_found", "_law_cell"] ["_law_row", "_law_many"] (defScope s_law_taken) := ⟨rfl, rfl, rfl, by decide +kernel, rfl, by decide +kernel, by decide +kernel⟩
theorem sc_law_pick : FnScope ["_law_row", "_law_things"] ["_law_row", "_law_things"] (defScope s_law_pick) := ⟨rfl, rfl, rfl, by decide +kernel, rfl, by decide +kernel, by decide +kernel⟩
theorem sc_law_zero : FnScope [] [] (defScope s_law_zero) := ⟨rfl, rfl, rfl, by decide +kernel, rfl, by decide +kernel, by decide +kernel⟩
theorem sc_law_star : FnScope [] [] (defScope s_law_star) := ⟨rfl, rfl, rfl, by decide +kernel, rfl, by decide +kernel, by decide +kernel⟩
theorem sc_law_whole : FnScope ["_law_number_here", "_law_found", "_law_at"] ["_law_number_here"] (defScope s_law_whole) := ⟨rfl, rfl, rfl, by decide +kernel, rfl, by decide +kernel, by decide +kernel⟩
theorem sc_law_number : FnScope ["_law_top", "_law_bottom", "_law_turn"] ["_law_top", "_law_bottom"] (defScope s_law_number) := ⟨rfl, rfl, rfl, by decide +kernel, rfl, by decide +kernel, by decide +kernel⟩
theorem sc_law_nimber : FnScope ["_law_size", "_law_rows", "_law_at"] ["_law_size"] (defScope s_law_nimber) := ⟨rfl, rfl, rfl, by decide +kernel, rfl, by decide +kernel, by decide +kernel⟩
theorem sc_law_back : FnScope ["_law_game_here", "_law_one"] ["_law_game_here"] (defScope s_law_back) := ⟨rfl, rfl, rfl, by decide +kernel, rfl, by decide +kernel, by decide +kernel⟩
theorem sc_law_nodes : FnScope ["_law_game_here", "_law_one"] ["_law_game_here"] (defScope s_law_nodes) := ⟨rfl, rfl, rfl, by decide +kernel, rfl, by decide +kernel, by decide +kernel⟩
theorem sc_law_named : FnScope ["_law_row", "_law_way", "_law_up", "_law_high", "_law_low", "_law_inner"] ["_law_row"] (defScope s_law_named) := ⟨rfl, rfl, rfl, by decide +kernel, rfl, by decide +kernel, by decide +kernel⟩
theorem sc_law_game : FnScope ["_law_row", "_law_deep", "_law_sides", "_law_side", "_law_at"] ["_law_row", "_law_deep"] (defScope s_law_game) := ⟨rfl, rfl, rfl, by decide +kernel, rfl, by decide +kernel, by decide +kernel⟩
theorem sc_law_some : FnScope ["_law_row", "_law_deep", "_law_most", "_law_game_here"] ["_law_row", "_law_deep", "_law_most"] (defScope s_law_some) := ⟨rfl, rfl, rfl, by decide +kernel, rfl, by decide +kernel, by decide +kernel⟩
theorem sc_law_name : FnScope ["_law_row", "_law_way", "_law_number_here", "_law_bottom", "_law_top", "_law_zero_here", "_law_star_here", "_law_size", "_law_some_here"] ["_law_row"] (defScope s_law_name) := ⟨rfl, rfl, rfl, by decide +kernel, rfl, by decide +kernel, by decide +kernel⟩
theorem sc_law_told : FnScope ["_law_row", "_law_deep", "_law_texts", "_law_sides", "_law_side", "_law_some_here", "_law_at", "_law_told_here"] ["_law_row", "_law_deep"] (defScope s_law_told) := ⟨rfl, rfl, rfl, by decide +kernel, rfl, by decide +kernel, by decide +kernel⟩
theorem sc_law : FnScope ["_law_script", "_law_row", "_law_text", "_law_game_here", "_law_told_here", "_law_name_here", "_law_known", "_law_other", "_law_plain", "_law_due"] ["_law_script"] (defScope s_law) := ⟨rfl, rfl, rfl, by decide +kernel, rfl, by decide +kernel, by decide +kernel⟩
structure Txt (K : PySem.W.Frag) (mg : Str → Option Value) where
  a_is_game : Addr
  d_is_game : FuncData
  F_is_game : Fun K "is_game" "is_game" s_is_game a_is_game d_is_game
  b_is_game : Binds K d_is_game ["value"] []
  g_is_game : mg "is_game" = some (.ref a_is_game)
  a_need_game : Addr
  d_need_game : FuncData
  F_need_game : Fun K "need_game" "need_game" s_need_game a_need_game d_need_game
  b_need_game : Binds K d_need_game ["value"] []
  g_need_game : mg "need_game" = some (.ref a_need_game)
  a_integer_form : Addr
  d_integer_form : FuncData
  F_integer_form : Fun K "integer_form" "integer_form" s_integer_form a_integer_form d_integer_form
  b_integer_form : Binds K d_integer_form ["number"] []
  g_integer_form : mg "integer_form" = some (.ref a_integer_form)
  a_number_form : Addr
  d_number_form : FuncData
  F_number_form : Fun K "number_form" "number_form" s_number_form a_number_form d_number_form
  b_number_form : Binds K d_number_form ["top", "bottom"] []
  g_number_form : mg "number_form" = some (.ref a_number_form)
  a_nimber_form : Addr
  d_nimber_form : FuncData
  F_nimber_form : Fun K "nimber_form" "nimber_form" s_nimber_form a_nimber_form d_nimber_form
  b_nimber_form : Binds K d_nimber_form ["size"] []
  g_nimber_form : mg "nimber_form" = some (.ref a_nimber_form)
  a_integer_of : Addr
  d_integer_of : FuncData
  F_integer_of : Fun K "integer_of" "integer_of" s_integer_of a_integer_of d_integer_of
  b_integer_of : Binds K d_integer_of ["game"] []
  g_integer_of : mg "integer_of" = some (.ref a_integer_of)
  a_named : Addr
  d_named : FuncData
  F_named : Fun K "named" "named" s_named a_named d_named
  b_named : Binds K d_named ["game"] []
  g_named : mg "named" = some (.ref a_named)
  a_fraction_of : Addr
  d_fraction_of : FuncData
  F_fraction_of : Fun K "fraction_of" "fraction_of" s_fraction_of a_fraction_of d_fraction_of
  b_fraction_of : Binds K d_fraction_of ["game"] []
  g_fraction_of : mg "fraction_of" = some (.ref a_fraction_of)
  a_fraction_name : Addr
  d_fraction_name : FuncData
  F_fraction_name : Fun K "fraction_name" "fraction_name" s_fraction_name a_fraction_name d_fraction_name
  b_fraction_name : Binds K d_fraction_name ["game"] []
  g_fraction_name : mg "fraction_name" = some (.ref a_fraction_name)
  a_text_of : Addr
  d_text_of : FuncData
  F_text_of : Fun K "text_of" "text_of" s_text_of a_text_of d_text_of
  b_text_of : Binds K d_text_of ["game"] []
  g_text_of : mg "text_of" = some (.ref a_text_of)
  a_write : Addr
  d_write : FuncData
  F_write : Fun K "write" "write" s_write a_write d_write
  b_write : Binds K d_write ["game"] []
  g_write : mg "write" = some (.ref a_write)
  a_digits_from : Addr
  d_digits_from : FuncData
  F_digits_from : Fun K "digits_from" "digits_from" s_digits_from a_digits_from d_digits_from
  b_digits_from : Binds K d_digits_from ["text", "at"] []
  g_digits_from : mg "digits_from" = some (.ref a_digits_from)
  a_read_whole : Addr
  d_read_whole : FuncData
  F_read_whole : Fun K "read_whole" "read_whole" s_read_whole a_read_whole d_read_whole
  b_read_whole : Binds K d_read_whole ["text", "at", "start"] []
  g_read_whole : mg "read_whole" = some (.ref a_read_whole)
  a_read_number : Addr
  d_read_number : FuncData
  F_read_number : Fun K "read_number" "read_number" s_read_number a_read_number d_read_number
  b_read_number : Binds K d_read_number ["text", "start"] []
  g_read_number : mg "read_number" = some (.ref a_read_number)
  a_read_star : Addr
  d_read_star : FuncData
  F_read_star : Fun K "read_star" "read_star" s_read_star a_read_star d_read_star
  b_read_star : Binds K d_read_star ["text", "start"] []
  g_read_star : mg "read_star" = some (.ref a_read_star)
  a_read_side : Addr
  d_read_side : FuncData
  F_read_side : Fun K "read_side" "read_side" s_read_side a_read_side d_read_side
  b_read_side : Binds K d_read_side ["text", "at", "last"] []
  g_read_side : mg "read_side" = some (.ref a_read_side)
  a_read_from : Addr
  d_read_from : FuncData
  F_read_from : Fun K "read_from" "read_from" s_read_from a_read_from d_read_from
  b_read_from : Binds K d_read_from ["text", "at"] []
  g_read_from : mg "read_from" = some (.ref a_read_from)
  a_too_deep : Addr
  d_too_deep : FuncData
  F_too_deep : Fun K "too_deep" "too_deep" s_too_deep a_too_deep d_too_deep
  b_too_deep : Binds K d_too_deep ["text"] []
  g_too_deep : mg "too_deep" = some (.ref a_too_deep)
  a_read : Addr
  d_read : FuncData
  F_read : Fun K "read" "read" s_read a_read d_read
  b_read : Binds K d_read ["text"] []
  g_read : mg "read" = some (.ref a_read)
  a_law_taken : Addr
  d_law_taken : FuncData
  F_law_taken : Fun K "_law_taken" "_law_taken" s_law_taken a_law_taken d_law_taken
  b_law_taken : Binds K d_law_taken ["_law_row", "_law_many"] []
  g_law_taken : mg "_law_taken" = some (.ref a_law_taken)
  a_law_pick : Addr
  d_law_pick : FuncData
  F_law_pick : Fun K "_law_pick" "_law_pick" s_law_pick a_law_pick d_law_pick
  b_law_pick : Binds K d_law_pick ["_law_row", "_law_things"] []
  g_law_pick : mg "_law_pick" = some (.ref a_law_pick)
  a_law_zero : Addr
  d_law_zero : FuncData
  F_law_zero : Fun K "_law_zero" "_law_zero" s_law_zero a_law_zero d_law_zero
  b_law_zero : Binds K d_law_zero [] []
  g_law_zero : mg "_law_zero" = some (.ref a_law_zero)
  a_law_star : Addr
  d_law_star : FuncData
  F_law_star : Fun K "_law_star" "_law_star" s_law_star a_law_star d_law_star
  b_law_star : Binds K d_law_star [] []
  g_law_star : mg "_law_star" = some (.ref a_law_star)
  a_law_whole : Addr
  d_law_whole : FuncData
  F_law_whole : Fun K "_law_whole" "_law_whole" s_law_whole a_law_whole d_law_whole
  b_law_whole : Binds K d_law_whole ["_law_number_here"] []
  g_law_whole : mg "_law_whole" = some (.ref a_law_whole)
  a_law_number : Addr
  d_law_number : FuncData
  F_law_number : Fun K "_law_number" "_law_number" s_law_number a_law_number d_law_number
  b_law_number : Binds K d_law_number ["_law_top", "_law_bottom"] []
  g_law_number : mg "_law_number" = some (.ref a_law_number)
  a_law_nimber : Addr
  d_law_nimber : FuncData
  F_law_nimber : Fun K "_law_nimber" "_law_nimber" s_law_nimber a_law_nimber d_law_nimber
  b_law_nimber : Binds K d_law_nimber ["_law_size"] []
  g_law_nimber : mg "_law_nimber" = some (.ref a_law_nimber)
  a_law_back : Addr
  d_law_back : FuncData
  F_law_back : Fun K "_law_back" "_law_back" s_law_back a_law_back d_law_back
  b_law_back : Binds K d_law_back ["_law_game_here"] []
  g_law_back : mg "_law_back" = some (.ref a_law_back)
  a_law_nodes : Addr
  d_law_nodes : FuncData
  F_law_nodes : Fun K "_law_nodes" "_law_nodes" s_law_nodes a_law_nodes d_law_nodes
  b_law_nodes : Binds K d_law_nodes ["_law_game_here"] []
  g_law_nodes : mg "_law_nodes" = some (.ref a_law_nodes)
  a_law_named : Addr
  d_law_named : FuncData
  F_law_named : Fun K "_law_named" "_law_named" s_law_named a_law_named d_law_named
  b_law_named : Binds K d_law_named ["_law_row"] []
  g_law_named : mg "_law_named" = some (.ref a_law_named)
  a_law_game : Addr
  d_law_game : FuncData
  F_law_game : Fun K "_law_game" "_law_game" s_law_game a_law_game d_law_game
  b_law_game : Binds K d_law_game ["_law_row", "_law_deep"] []
  g_law_game : mg "_law_game" = some (.ref a_law_game)
  a_law_some : Addr
  d_law_some : FuncData
  F_law_some : Fun K "_law_some" "_law_some" s_law_some a_law_some d_law_some
  b_law_some : Binds K d_law_some ["_law_row", "_law_deep", "_law_most"] []
  g_law_some : mg "_law_some" = some (.ref a_law_some)
  a_law_name : Addr
  d_law_name : FuncData
  F_law_name : Fun K "_law_name" "_law_name" s_law_name a_law_name d_law_name
  b_law_name : Binds K d_law_name ["_law_row"] []
  g_law_name : mg "_law_name" = some (.ref a_law_name)
  a_law_told : Addr
  d_law_told : FuncData
  F_law_told : Fun K "_law_told" "_law_told" s_law_told a_law_told d_law_told
  b_law_told : Binds K d_law_told ["_law_row", "_law_deep"] []
  g_law_told : mg "_law_told" = some (.ref a_law_told)
  a_law : Addr
  d_law : FuncData
  F_law : Fun K "law" "law" s_law a_law d_law
  b_law : Binds K d_law ["_law_script"] []
  g_law : mg "law" = some (.ref a_law)
  B_law : ∀ (s : Shared) (v : Value), BindsTo s d_law ⟨[v], []⟩ [("_law_script", v)]
  t_MOST_GAME_NODES : Tok
  c_MOST_GAME_NODES : mg "MOST_GAME_NODES" = some (Value.int 2000 t_MOST_GAME_NODES)
  t_MOST_HEIGHT : Tok
  c_MOST_HEIGHT : mg "MOST_HEIGHT" = some (Value.int 40 t_MOST_HEIGHT)
  t_MOST_NIMBER : Tok
  c_MOST_NIMBER : mg "MOST_NIMBER" = some (Value.int 5 t_MOST_NIMBER)
  t_MOST_PARTS : Tok
  c_MOST_PARTS : mg "MOST_PARTS" = some (Value.int 16 t_MOST_PARTS)
  t_MOST_INTEGER : Tok
  c_MOST_INTEGER : mg "MOST_INTEGER" = some (Value.int 16 t_MOST_INTEGER)
  t_DIGITS : Tok
  c_DIGITS : mg "DIGITS" = some (Value.str "0123456789" t_DIGITS)
  v_ZERO : V
  u_ZERO : Value
  c_ZERO : mg "ZERO" = some u_ZERO
  r_ZERO : RelV v_ZERO u_ZERO
  q_ZERO : ∀ H, Dp K H v_ZERO (.tuple [.tuple [], .tuple []])
  v_STAR : V
  u_STAR : Value
  c_STAR : mg "STAR" = some u_STAR
  r_STAR : RelV v_STAR u_STAR
  q_STAR : ∀ H, Dp K H v_STAR (.tuple [.tuple [.tuple [.tuple [], .tuple []]], .tuple [.tuple [.tuple [], .tuple []]]])
  v_UP : V
  u_UP : Value
  c_UP : mg "UP" = some u_UP
  r_UP : RelV v_UP u_UP
  q_UP : ∀ H, Dp K H v_UP (.tuple [.tuple [.tuple [.tuple [], .tuple []]], .tuple [.tuple [.tuple [.tuple [.tuple [], .tuple []]], .tuple [.tuple [.tuple [], .tuple []]]]]])
  v_DOWN : V
  u_DOWN : Value
  c_DOWN : mg "DOWN" = some u_DOWN
  r_DOWN : RelV v_DOWN u_DOWN
  q_DOWN : ∀ H, Dp K H v_DOWN (.tuple [.tuple [.tuple [.tuple [.tuple [.tuple [], .tuple []]], .tuple [.tuple [.tuple [], .tuple []]]]], .tuple [.tuple [.tuple [], .tuple []]]])
  v_UP_STAR : V
  u_UP_STAR : Value
  c_UP_STAR : mg "UP_STAR" = some u_UP_STAR
  r_UP_STAR : RelV v_UP_STAR u_UP_STAR
  q_UP_STAR : ∀ H, Dp K H v_UP_STAR (.tuple [.tuple [.tuple [.tuple [], .tuple []], .tuple [.tuple [.tuple [.tuple [], .tuple []]], .tuple [.tuple [.tuple [], .tuple []]]]], .tuple [.tuple [.tuple [], .tuple []]]])
  v_DOWN_STAR : V
  u_DOWN_STAR : Value
  c_DOWN_STAR : mg "DOWN_STAR" = some u_DOWN_STAR
  r_DOWN_STAR : RelV v_DOWN_STAR u_DOWN_STAR
  q_DOWN_STAR : ∀ H, Dp K H v_DOWN_STAR (.tuple [.tuple [.tuple [.tuple [], .tuple []]], .tuple [.tuple [.tuple [], .tuple []], .tuple [.tuple [.tuple [.tuple [], .tuple []]], .tuple [.tuple [.tuple [], .tuple []]]]]])
  m_len : mg "len" = none
  m_range : mg "range" = none
  m_int : mg "int" = none
  m_str : mg "str" = none
  m_tuple : mg "tuple" = none
  m_isinstance : mg "isinstance" = none
  m_enumerate : mg "enumerate" = none
  m_max : mg "max" = none
  m_sum : mg "sum" = none
  m_abs : mg "abs" = none
theorem txt_mk {K : PySem.W.Frag} {h : Heap} {mg : Str → Option Value} (X : K.In h) (G : h.Ns mainGlobals mg)
    {f0 : Addr} {od0 an0 : Option Addr} {sl0 : Array (Option Value)} {oc0 kV0 dc0 pm0 cd0 ct0 : Value}
    {f1 : Addr} {od1 an1 : Option Addr} {sl1 : Array (Option Value)} {oc1 kV1 dc1 pm1 cd1 ct1 : Value}
    {f2 : Addr} {od2 an2 : Option Addr} {sl2 : Array (Option Value)} {oc2 kV2 dc2 pm2 cd2 ct2 : Value}
    {f3 : Addr} {od3 an3 : Option Addr} {sl3 : Array (Option Value)} {oc3 kV3 dc3 pm3 cd3 ct3 : Value}
    {f4 : Addr} {od4 an4 : Option Addr} {sl4 : Array (Option Value)} {oc4 kV4 dc4 pm4 cd4 ct4 : Value}
    {f5 : Addr} {od5 an5 : Option Addr} {sl5 : Array (Option Value)} {oc5 kV5 dc5 pm5 cd5 ct5 : Value}
    {f6 : Addr} {od6 an6 : Option Addr} {sl6 : Array (Option Value)} {oc6 kV6 dc6 pm6 cd6 ct6 : Value}
    {f7 : Addr} {od7 an7 : Option Addr} {sl7 : Array (Option Value)} {oc7 kV7 dc7 pm7 cd7 ct7 : Value}
    {f8 : Addr} {od8 an8 : Option Addr} {sl8 : Array (Option Value)} {oc8 kV8 dc8 pm8 cd8 ct8 : Value}
    {f9 : Addr} {od9 an9 : Option Addr} {sl9 : Array (Option Value)} {oc9 kV9 dc9 pm9 cd9 ct9 : Value}
    {f10 : Addr} {od10 an10 : Option Addr} {sl10 : Array (Option Value)} {oc10 kV10 dc10 pm10 cd10 ct10 : Value}
    {f11 : Addr} {od11 an11 : Option Addr} {sl11 : Array (Option Value)} {oc11 kV11 dc11 pm11 cd11 ct11 : Value}
    {f12 : Addr} {od12 an12 : Option Addr} {sl12 : Array (Option Value)} {oc12 kV12 dc12 pm12 cd12 ct12 : Value}
    {f13 : Addr} {od13 an13 : Option Addr} {sl13 : Array (Option Value)} {oc13 kV13 dc13 pm13 cd13 ct13 : Value}
    {f14 : Addr} {od14 an14 : Option Addr} {sl14 : Array (Option Value)} {oc14 kV14 dc14 pm14 cd14 ct14 : Value}
    {f15 : Addr} {od15 an15 : Option Addr} {sl15 : Array (Option Value)} {oc15 kV15 dc15 pm15 cd15 ct15 : Value}
    {f16 : Addr} {od16 an16 : Option Addr} {sl16 : Array (Option Value)} {oc16 kV16 dc16 pm16 cd16 ct16 : Value}
    {f17 : Addr} {od17 an17 : Option Addr} {sl17 : Array (Option Value)} {oc17 kV17 dc17 pm17 cd17 ct17 : Value}
    {f18 : Addr} {od18 an18 : Option Addr} {sl18 : Array (Option Value)} {oc18 kV18 dc18 pm18 cd18 ct18 : Value}
    {f19 : Addr} {od19 an19 : Option Addr} {sl19 : Array (Option Value)} {oc19 kV19 dc19 pm19 cd19 ct19 : Value}
    {f20 : Addr} {od20 an20 : Option Addr} {sl20 : Array (Option Value)} {oc20 kV20 dc20 pm20 cd20 ct20 : Value}
    {f21 : Addr} {od21 an21 : Option Addr} {sl21 : Array (Option Value)} {oc21 kV21 dc21 pm21 cd21 ct21 : Value}
    {f22 : Addr} {od22 an22 : Option Addr} {sl22 : Array (Option Value)} {oc22 kV22 dc22 pm22 cd22 ct22 : Value}
    {f23 : Addr} {od23 an23 : Option Addr} {sl23 : Array (Option Value)} {oc23 kV23 dc23 pm23 cd23 ct23 : Value}
    {f24 : Addr} {od24 an24 : Option Addr} {sl24 : Array (Option Value)} {oc24 kV24 dc24 pm24 cd24 ct24 : Value}
    {f25 : Addr} {od25 an25 : Option Addr} {sl25 : Array (Option Value)} {oc25 kV25 dc25 pm25 cd25 ct25 : Value}
    {f26 : Addr} {od26 an26 : Option Addr} {sl26 : Array (Option Value)} {oc26 kV26 dc26 pm26 cd26 ct26 : Value}
    {f27 : Addr} {od27 an27 : Option Addr} {sl27 : Array (Option Value)} {oc27 kV27 dc27 pm27 cd27 ct27 : Value}
    {f28 : Addr} {od28 an28 : Option Addr} {sl28 : Array (Option Value)} {oc28 kV28 dc28 pm28 cd28 ct28 : Value}
    {f29 : Addr} {od29 an29 : Option Addr} {sl29 : Array (Option Value)} {oc29 kV29 dc29 pm29 cd29 ct29 : Value}
    {f30 : Addr} {od30 an30 : Option Addr} {sl30 : Array (Option Value)} {oc30 kV30 dc30 pm30 cd30 ct30 : Value}
    {f31 : Addr} {od31 an31 : Option Addr} {sl31 : Array (Option Value)} {oc31 kV31 dc31 pm31 cd31 ct31 : Value}
    {f32 : Addr} {od32 an32 : Option Addr} {sl32 : Array (Option Value)} {oc32 kV32 dc32 pm32 cd32 ct32 : Value}
    {f33 : Addr} {od33 an33 : Option Addr} {sl33 : Array (Option Value)} {oc33 kV33 dc33 pm33 cd33 ct33 : Value}
    {tk0 : Tok}
    {tk1 : Tok}
    {tk2 : Tok}
    {tk3 : Tok}
    {tk4 : Tok}
    {tk5 : Tok}
    {bt1 : Addr} {ot1 : Option Addr} {nt1 : Nat} {st1 : Array (Option Value)}
    {bt2 : Addr} {ot2 : Option Addr} {nt2 : Nat} {st2 : Array (Option Value)}
    {bt3 : Addr} {ot3 : Option Addr} {nt3 : Nat} {st3 : Array (Option Value)}
    {bt4 : Addr} {ot4 : Option Addr} {nt4 : Nat} {st4 : Array (Option Value)}
    {bt5 : Addr} {ot5 : Option Addr} {nt5 : Nat} {st5 : Array (Option Value)}
    {bt6 : Addr} {ot6 : Option Addr} {nt6 : Nat} {st6 : Array (Option Value)}
    {bt7 : Addr} {ot7 : Option Addr} {nt7 : Nat} {st7 : Array (Option Value)}
    {bt8 : Addr} {ot8 : Option Addr} {nt8 : Nat} {st8 : Array (Option Value)}
    {bt9 : Addr} {ot9 : Option Addr} {nt9 : Nat} {st9 : Array (Option Value)}
    {bt10 : Addr} {ot10 : Option Addr} {nt10 : Nat} {st10 : Array (Option Value)}
    {bt11 : Addr} {ot11 : Option Addr} {nt11 : Nat} {st11 : Array (Option Value)}
    {bt12 : Addr} {ot12 : Option Addr} {nt12 : Nat} {st12 : Array (Option Value)}
    {bt13 : Addr} {ot13 : Option Addr} {nt13 : Nat} {st13 : Array (Option Value)}
    {bt14 : Addr} {ot14 : Option Addr} {nt14 : Nat} {st14 : Array (Option Value)}
    {bt15 : Addr} {ot15 : Option Addr} {nt15 : Nat} {st15 : Array (Option Value)}
    {bt16 : Addr} {ot16 : Option Addr} {nt16 : Nat} {st16 : Array (Option Value)}
    {bt17 : Addr} {ot17 : Option Addr} {nt17 : Nat} {st17 : Array (Option Value)}
    {bt18 : Addr} {ot18 : Option Addr} {nt18 : Nat} {st18 : Array (Option Value)}
    {bt19 : Addr} {ot19 : Option Addr} {nt19 : Nat} {st19 : Array (Option Value)}
    {bt20 : Addr} {ot20 : Option Addr} {nt20 : Nat} {st20 : Array (Option Value)}
    {bt21 : Addr} {ot21 : Option Addr} {nt21 : Nat} {st21 : Array (Option Value)}
    {bt22 : Addr} {ot22 : Option Addr} {nt22 : Nat} {st22 : Array (Option Value)}
    {bt23 : Addr} {ot23 : Option Addr} {nt23 : Nat} {st23 : Array (Option Value)}
    {bt24 : Addr} {ot24 : Option Addr} {nt24 : Nat} {st24 : Array (Option Value)}
    {bt25 : Addr} {ot25 : Option Addr} {nt25 : Nat} {st25 : Array (Option Value)}
    {bt26 : Addr} {ot26 : Option Addr} {nt26 : Nat} {st26 : Array (Option Value)}
    {bt27 : Addr} {ot27 : Option Addr} {nt27 : Nat} {st27 : Array (Option Value)}
    {bt28 : Addr} {ot28 : Option Addr} {nt28 : Nat} {st28 : Array (Option Value)}
    {bt29 : Addr} {ot29 : Option Addr} {nt29 : Nat} {st29 : Array (Option Value)}
    {bt30 : Addr} {ot30 : Option Addr} {nt30 : Nat} {st30 : Array (Option Value)}
    {bt31 : Addr} {ot31 : Option Addr} {nt31 : Nat} {st31 : Array (Option Value)}
    {bt32 : Addr} {ot32 : Option Addr} {nt32 : Nat} {st32 : Array (Option Value)}
    {bt33 : Addr} {ot33 : Option Addr} {nt33 : Nat} {st33 : Array (Option Value)}
    {bt34 : Addr} {ot34 : Option Addr} {nt34 : Nat} {st34 : Array (Option Value)}
    {bt35 : Addr} {ot35 : Option Addr} {nt35 : Nat} {st35 : Array (Option Value)}
    {bt36 : Addr} {ot36 : Option Addr} {nt36 : Nat} {st36 : Array (Option Value)}
    {bt37 : Addr} {ot37 : Option Addr} {nt37 : Nat} {st37 : Array (Option Value)}
    {bt38 : Addr} {ot38 : Option Addr} {nt38 : Nat} {st38 : Array (Option Value)}
    {bt39 : Addr} {ot39 : Option Addr} {nt39 : Nat} {st39 : Array (Option Value)}
    {bt40 : Addr} {ot40 : Option Addr} {nt40 : Nat} {st40 : Array (Option Value)}
    {bt41 : Addr} {ot41 : Option Addr} {nt41 : Nat} {st41 : Array (Option Value)}
    {bt42 : Addr} {ot42 : Option Addr} {nt42 : Nat} {st42 : Array (Option Value)}
    {bt43 : Addr} {ot43 : Option Addr} {nt43 : Nat} {st43 : Array (Option Value)}
    {bt44 : Addr} {ot44 : Option Addr} {nt44 : Nat} {st44 : Array (Option Value)}
    {bt45 : Addr} {ot45 : Option Addr} {nt45 : Nat} {st45 : Array (Option Value)}
    {bt46 : Addr} {ot46 : Option Addr} {nt46 : Nat} {st46 : Array (Option Value)}
    {bt47 : Addr} {ot47 : Option Addr} {nt47 : Nat} {st47 : Array (Option Value)}
    {bt48 : Addr} {ot48 : Option Addr} {nt48 : Nat} {st48 : Array (Option Value)}
    {bt49 : Addr} {ot49 : Option Addr} {nt49 : Nat} {st49 : Array (Option Value)}
    {bt50 : Addr} {ot50 : Option Addr} {nt50 : Nat} {st50 : Array (Option Value)}
    {bt51 : Addr} {ot51 : Option Addr} {nt51 : Nat} {st51 : Array (Option Value)}
    {bt52 : Addr} {ot52 : Option Addr} {nt52 : Nat} {st52 : Array (Option Value)}
    {bt53 : Addr} {ot53 : Option Addr} {nt53 : Nat} {st53 : Array (Option Value)}
    {bt54 : Addr} {ot54 : Option Addr} {nt54 : Nat} {st54 : Array (Option Value)}
    {bt55 : Addr} {ot55 : Option Addr} {nt55 : Nat} {st55 : Array (Option Value)}
    {bt56 : Addr} {ot56 : Option Addr} {nt56 : Nat} {st56 : Array (Option Value)}
    {bt57 : Addr} {ot57 : Option Addr} {nt57 : Nat} {st57 : Array (Option Value)}
    {bt58 : Addr} {ot58 : Option Addr} {nt58 : Nat} {st58 : Array (Option Value)}
    {bt59 : Addr} {ot59 : Option Addr} {nt59 : Nat} {st59 : Array (Option Value)}
    {bt60 : Addr} {ot60 : Option Addr} {nt60 : Nat} {st60 : Array (Option Value)}
    {bt61 : Addr} {ot61 : Option Addr} {nt61 : Nat} {st61 : Array (Option Value)}
    {bt62 : Addr} {ot62 : Option Addr} {nt62 : Nat} {st62 : Array (Option Value)}
    {bt63 : Addr} {ot63 : Option Addr} {nt63 : Nat} {st63 : Array (Option Value)}
    {bt64 : Addr} {ot64 : Option Addr} {nt64 : Nat} {st64 : Array (Option Value)}
    {bt65 : Addr} {ot65 : Option Addr} {nt65 : Nat} {st65 : Array (Option Value)}
    {bt66 : Addr} {ot66 : Option Addr} {nt66 : Nat} {st66 : Array (Option Value)}
    {bt67 : Addr} {ot67 : Option Addr} {nt67 : Nat} {st67 : Array (Option Value)}
    {bt68 : Addr} {ot68 : Option Addr} {nt68 : Nat} {st68 : Array (Option Value)}
    {bt69 : Addr} {ot69 : Option Addr} {nt69 : Nat} {st69 : Array (Option Value)}
    {bt70 : Addr} {ot70 : Option Addr} {nt70 : Nat} {st70 : Array (Option Value)}
    {bt71 : Addr} {ot71 : Option Addr} {nt71 : Nat} {st71 : Array (Option Value)}
    {bt72 : Addr} {ot72 : Option Addr} {nt72 : Nat} {st72 : Array (Option Value)}
    {bt73 : Addr} {ot73 : Option Addr} {nt73 : Nat} {st73 : Array (Option Value)}
    {bt74 : Addr} {ot74 : Option Addr} {nt74 : Nat} {st74 : Array (Option Value)}
    {bt75 : Addr} {ot75 : Option Addr} {nt75 : Nat} {st75 : Array (Option Value)}
    {bt76 : Addr} {ot76 : Option Addr} {nt76 : Nat} {st76 : Array (Option Value)}
    {bt77 : Addr} {ot77 : Option Addr} {nt77 : Nat} {st77 : Array (Option Value)}
    {bt78 : Addr} {ot78 : Option Addr} {nt78 : Nat} {st78 : Array (Option Value)}
    (a0 : PySem.W.nsIn K mainGlobals "is_game" = some (some (.ref f0))) (l0 : K.lookup f0 = some ⟨oc0, od0, .func (PySem.W.fnOf "is_game" "is_game" (defArgs s_is_game) (defBody s_is_game) (defScope s_is_game) .none kV0 dc0 pm0 an0 cd0 ct0), sl0⟩) (c0 : PySem.W.codeIn K cd0 "is_game" = true) (k0 : PySem.W.keepIn K (.ref f0) = true)
    (a1 : PySem.W.nsIn K mainGlobals "need_game" = some (some (.ref f1))) (l1 : K.lookup f1 = some ⟨oc1, od1, .func (PySem.W.fnOf "need_game" "need_game" (defArgs s_need_game) (defBody s_need_game) (defScope s_need_game) .none kV1 dc1 pm1 an1 cd1 ct1), sl1⟩) (c1 : PySem.W.codeIn K cd1 "need_game" = true) (k1 : PySem.W.keepIn K (.ref f1) = true)
    (a2 : PySem.W.nsIn K mainGlobals "integer_form" = some (some (.ref f2))) (l2 : K.lookup f2 = some ⟨oc2, od2, .func (PySem.W.fnOf "integer_form" "integer_form" (defArgs s_integer_form) (defBody s_integer_form) (defScope s_integer_form) .none kV2 dc2 pm2 an2 cd2 ct2), sl2⟩) (c2 : PySem.W.codeIn K cd2 "integer_form" = true) (k2 : PySem.W.keepIn K (.ref f2) = true)
    (a3 : PySem.W.nsIn K mainGlobals "number_form" = some (some (.ref f3))) (l3 : K.lookup f3 = some ⟨oc3, od3, .func (PySem.W.fnOf "number_form" "number_form" (defArgs s_number_form) (defBody s_number_form) (defScope s_number_form) .none kV3 dc3 pm3 an3 cd3 ct3), sl3⟩) (c3 : PySem.W.codeIn K cd3 "number_form" = true) (k3 : PySem.W.keepIn K (.ref f3) = true)
    (a4 : PySem.W.nsIn K mainGlobals "nimber_form" = some (some (.ref f4))) (l4 : K.lookup f4 = some ⟨oc4, od4, .func (PySem.W.fnOf "nimber_form" "nimber_form" (defArgs s_nimber_form) (defBody s_nimber_form) (defScope s_nimber_form) .none kV4 dc4 pm4 an4 cd4 ct4), sl4⟩) (c4 : PySem.W.codeIn K cd4 "nimber_form" = true) (k4 : PySem.W.keepIn K (.ref f4) = true)
    (a5 : PySem.W.nsIn K mainGlobals "integer_of" = some (some (.ref f5))) (l5 : K.lookup f5 = some ⟨oc5, od5, .func (PySem.W.fnOf "integer_of" "integer_of" (defArgs s_integer_of) (defBody s_integer_of) (defScope s_integer_of) .none kV5 dc5 pm5 an5 cd5 ct5), sl5⟩) (c5 : PySem.W.codeIn K cd5 "integer_of" = true) (k5 : PySem.W.keepIn K (.ref f5) = true)
    (a6 : PySem.W.nsIn K mainGlobals "named" = some (some (.ref f6))) (l6 : K.lookup f6 = some ⟨oc6, od6, .func (PySem.W.fnOf "named" "named" (defArgs s_named) (defBody s_named) (defScope s_named) .none kV6 dc6 pm6 an6 cd6 ct6), sl6⟩) (c6 : PySem.W.codeIn K cd6 "named" = true) (k6 : PySem.W.keepIn K (.ref f6) = true)
    (a7 : PySem.W.nsIn K mainGlobals "fraction_of" = some (some (.ref f7))) (l7 : K.lookup f7 = some ⟨oc7, od7, .func (PySem.W.fnOf "fraction_of" "fraction_of" (defArgs s_fraction_of) (defBody s_fraction_of) (defScope s_fraction_of) .none kV7 dc7 pm7 an7 cd7 ct7), sl7⟩) (c7 : PySem.W.codeIn K cd7 "fraction_of" = true) (k7 : PySem.W.keepIn K (.ref f7) = true)
    (a8 : PySem.W.nsIn K mainGlobals "fraction_name" = some (some (.ref f8))) (l8 : K.lookup f8 = some ⟨oc8, od8, .func (PySem.W.fnOf "fraction_name" "fraction_name" (defArgs s_fraction_name) (defBody s_fraction_name) (defScope s_fraction_name) .none kV8 dc8 pm8 an8 cd8 ct8), sl8⟩) (c8 : PySem.W.codeIn K cd8 "fraction_name" = true) (k8 : PySem.W.keepIn K (.ref f8) = true)
    (a9 : PySem.W.nsIn K mainGlobals "text_of" = some (some (.ref f9))) (l9 : K.lookup f9 = some ⟨oc9, od9, .func (PySem.W.fnOf "text_of" "text_of" (defArgs s_text_of) (defBody s_text_of) (defScope s_text_of) .none kV9 dc9 pm9 an9 cd9 ct9), sl9⟩) (c9 : PySem.W.codeIn K cd9 "text_of" = true) (k9 : PySem.W.keepIn K (.ref f9) = true)
    (a10 : PySem.W.nsIn K mainGlobals "write" = some (some (.ref f10))) (l10 : K.lookup f10 = some ⟨oc10, od10, .func (PySem.W.fnOf "write" "write" (defArgs s_write) (defBody s_write) (defScope s_write) .none kV10 dc10 pm10 an10 cd10 ct10), sl10⟩) (c10 : PySem.W.codeIn K cd10 "write" = true) (k10 : PySem.W.keepIn K (.ref f10) = true)
    (a11 : PySem.W.nsIn K mainGlobals "digits_from" = some (some (.ref f11))) (l11 : K.lookup f11 = some ⟨oc11, od11, .func (PySem.W.fnOf "digits_from" "digits_from" (defArgs s_digits_from) (defBody s_digits_from) (defScope s_digits_from) .none kV11 dc11 pm11 an11 cd11 ct11), sl11⟩) (c11 : PySem.W.codeIn K cd11 "digits_from" = true) (k11 : PySem.W.keepIn K (.ref f11) = true)
    (a12 : PySem.W.nsIn K mainGlobals "read_whole" = some (some (.ref f12))) (l12 : K.lookup f12 = some ⟨oc12, od12, .func (PySem.W.fnOf "read_whole" "read_whole" (defArgs s_read_whole) (defBody s_read_whole) (defScope s_read_whole) .none kV12 dc12 pm12 an12 cd12 ct12), sl12⟩) (c12 : PySem.W.codeIn K cd12 "read_whole" = true) (k12 : PySem.W.keepIn K (.ref f12) = true)
    (a13 : PySem.W.nsIn K mainGlobals "read_number" = some (some (.ref f13))) (l13 : K.lookup f13 = some ⟨oc13, od13, .func (PySem.W.fnOf "read_number" "read_number" (defArgs s_read_number) (defBody s_read_number) (defScope s_read_number) .none kV13 dc13 pm13 an13 cd13 ct13), sl13⟩) (c13 : PySem.W.codeIn K cd13 "read_number" = true) (k13 : PySem.W.keepIn K (.ref f13) = true)
    (a14 : PySem.W.nsIn K mainGlobals "read_star" = some (some (.ref f14))) (l14 : K.lookup f14 = some ⟨oc14, od14, .func (PySem.W.fnOf "read_star" "read_star" (defArgs s_read_star) (defBody s_read_star) (defScope s_read_star) .none kV14 dc14 pm14 an14 cd14 ct14), sl14⟩) (c14 : PySem.W.codeIn K cd14 "read_star" = true) (k14 : PySem.W.keepIn K (.ref f14) = true)
    (a15 : PySem.W.nsIn K mainGlobals "read_side" = some (some (.ref f15))) (l15 : K.lookup f15 = some ⟨oc15, od15, .func (PySem.W.fnOf "read_side" "read_side" (defArgs s_read_side) (defBody s_read_side) (defScope s_read_side) .none kV15 dc15 pm15 an15 cd15 ct15), sl15⟩) (c15 : PySem.W.codeIn K cd15 "read_side" = true) (k15 : PySem.W.keepIn K (.ref f15) = true)
    (a16 : PySem.W.nsIn K mainGlobals "read_from" = some (some (.ref f16))) (l16 : K.lookup f16 = some ⟨oc16, od16, .func (PySem.W.fnOf "read_from" "read_from" (defArgs s_read_from) (defBody s_read_from) (defScope s_read_from) .none kV16 dc16 pm16 an16 cd16 ct16), sl16⟩) (c16 : PySem.W.codeIn K cd16 "read_from" = true) (k16 : PySem.W.keepIn K (.ref f16) = true)
    (a17 : PySem.W.nsIn K mainGlobals "too_deep" = some (some (.ref f17))) (l17 : K.lookup f17 = some ⟨oc17, od17, .func (PySem.W.fnOf "too_deep" "too_deep" (defArgs s_too_deep) (defBody s_too_deep) (defScope s_too_deep) .none kV17 dc17 pm17 an17 cd17 ct17), sl17⟩) (c17 : PySem.W.codeIn K cd17 "too_deep" = true) (k17 : PySem.W.keepIn K (.ref f17) = true)
    (a18 : PySem.W.nsIn K mainGlobals "read" = some (some (.ref f18))) (l18 : K.lookup f18 = some ⟨oc18, od18, .func (PySem.W.fnOf "read" "read" (defArgs s_read) (defBody s_read) (defScope s_read) .none kV18 dc18 pm18 an18 cd18 ct18), sl18⟩) (c18 : PySem.W.codeIn K cd18 "read" = true) (k18 : PySem.W.keepIn K (.ref f18) = true)
    (a19 : PySem.W.nsIn K mainGlobals "_law_taken" = some (some (.ref f19))) (l19 : K.lookup f19 = some ⟨oc19, od19, .func (PySem.W.fnOf "_law_taken" "_law_taken" (defArgs s_law_taken) (defBody s_law_taken) (defScope s_law_taken) .none kV19 dc19 pm19 an19 cd19 ct19), sl19⟩) (c19 : PySem.W.codeIn K cd19 "_law_taken" = true) (k19 : PySem.W.keepIn K (.ref f19) = true)
    (a20 : PySem.W.nsIn K mainGlobals "_law_pick" = some (some (.ref f20))) (l20 : K.lookup f20 = some ⟨oc20, od20, .func (PySem.W.fnOf "_law_pick" "_law_pick" (defArgs s_law_pick) (defBody s_law_pick) (defScope s_law_pick) .none kV20 dc20 pm20 an20 cd20 ct20), sl20⟩) (c20 : PySem.W.codeIn K cd20 "_law_pick" = true) (k20 : PySem.W.keepIn K (.ref f20) = true)
    (a21 : PySem.W.nsIn K mainGlobals "_law_zero" = some (some (.ref f21))) (l21 : K.lookup f21 = some ⟨oc21, od21, .func (PySem.W.fnOf "_law_zero" "_law_zero" (defArgs s_law_zero) (defBody s_law_zero) (defScope s_law_zero) .none kV21 dc21 pm21 an21 cd21 ct21), sl21⟩) (c21 : PySem.W.codeIn K cd21 "_law_zero" = true) (k21 : PySem.W.keepIn K (.ref f21) = true)
    (a22 : PySem.W.nsIn K mainGlobals "_law_star" = some (some (.ref f22))) (l22 : K.lookup f22 = some ⟨oc22, od22, .func (PySem.W.fnOf "_law_star" "_law_star" (defArgs s_law_star) (defBody s_law_star) (defScope s_law_star) .none kV22 dc22 pm22 an22 cd22 ct22), sl22⟩) (c22 : PySem.W.codeIn K cd22 "_law_star" = true) (k22 : PySem.W.keepIn K (.ref f22) = true)
    (a23 : PySem.W.nsIn K mainGlobals "_law_whole" = some (some (.ref f23))) (l23 : K.lookup f23 = some ⟨oc23, od23, .func (PySem.W.fnOf "_law_whole" "_law_whole" (defArgs s_law_whole) (defBody s_law_whole) (defScope s_law_whole) .none kV23 dc23 pm23 an23 cd23 ct23), sl23⟩) (c23 : PySem.W.codeIn K cd23 "_law_whole" = true) (k23 : PySem.W.keepIn K (.ref f23) = true)
    (a24 : PySem.W.nsIn K mainGlobals "_law_number" = some (some (.ref f24))) (l24 : K.lookup f24 = some ⟨oc24, od24, .func (PySem.W.fnOf "_law_number" "_law_number" (defArgs s_law_number) (defBody s_law_number) (defScope s_law_number) .none kV24 dc24 pm24 an24 cd24 ct24), sl24⟩) (c24 : PySem.W.codeIn K cd24 "_law_number" = true) (k24 : PySem.W.keepIn K (.ref f24) = true)
    (a25 : PySem.W.nsIn K mainGlobals "_law_nimber" = some (some (.ref f25))) (l25 : K.lookup f25 = some ⟨oc25, od25, .func (PySem.W.fnOf "_law_nimber" "_law_nimber" (defArgs s_law_nimber) (defBody s_law_nimber) (defScope s_law_nimber) .none kV25 dc25 pm25 an25 cd25 ct25), sl25⟩) (c25 : PySem.W.codeIn K cd25 "_law_nimber" = true) (k25 : PySem.W.keepIn K (.ref f25) = true)
    (a26 : PySem.W.nsIn K mainGlobals "_law_back" = some (some (.ref f26))) (l26 : K.lookup f26 = some ⟨oc26, od26, .func (PySem.W.fnOf "_law_back" "_law_back" (defArgs s_law_back) (defBody s_law_back) (defScope s_law_back) .none kV26 dc26 pm26 an26 cd26 ct26), sl26⟩) (c26 : PySem.W.codeIn K cd26 "_law_back" = true) (k26 : PySem.W.keepIn K (.ref f26) = true)
    (a27 : PySem.W.nsIn K mainGlobals "_law_nodes" = some (some (.ref f27))) (l27 : K.lookup f27 = some ⟨oc27, od27, .func (PySem.W.fnOf "_law_nodes" "_law_nodes" (defArgs s_law_nodes) (defBody s_law_nodes) (defScope s_law_nodes) .none kV27 dc27 pm27 an27 cd27 ct27), sl27⟩) (c27 : PySem.W.codeIn K cd27 "_law_nodes" = true) (k27 : PySem.W.keepIn K (.ref f27) = true)
    (a28 : PySem.W.nsIn K mainGlobals "_law_named" = some (some (.ref f28))) (l28 : K.lookup f28 = some ⟨oc28, od28, .func (PySem.W.fnOf "_law_named" "_law_named" (defArgs s_law_named) (defBody s_law_named) (defScope s_law_named) .none kV28 dc28 pm28 an28 cd28 ct28), sl28⟩) (c28 : PySem.W.codeIn K cd28 "_law_named" = true) (k28 : PySem.W.keepIn K (.ref f28) = true)
    (a29 : PySem.W.nsIn K mainGlobals "_law_game" = some (some (.ref f29))) (l29 : K.lookup f29 = some ⟨oc29, od29, .func (PySem.W.fnOf "_law_game" "_law_game" (defArgs s_law_game) (defBody s_law_game) (defScope s_law_game) .none kV29 dc29 pm29 an29 cd29 ct29), sl29⟩) (c29 : PySem.W.codeIn K cd29 "_law_game" = true) (k29 : PySem.W.keepIn K (.ref f29) = true)
    (a30 : PySem.W.nsIn K mainGlobals "_law_some" = some (some (.ref f30))) (l30 : K.lookup f30 = some ⟨oc30, od30, .func (PySem.W.fnOf "_law_some" "_law_some" (defArgs s_law_some) (defBody s_law_some) (defScope s_law_some) .none kV30 dc30 pm30 an30 cd30 ct30), sl30⟩) (c30 : PySem.W.codeIn K cd30 "_law_some" = true) (k30 : PySem.W.keepIn K (.ref f30) = true)
    (a31 : PySem.W.nsIn K mainGlobals "_law_name" = some (some (.ref f31))) (l31 : K.lookup f31 = some ⟨oc31, od31, .func (PySem.W.fnOf "_law_name" "_law_name" (defArgs s_law_name) (defBody s_law_name) (defScope s_law_name) .none kV31 dc31 pm31 an31 cd31 ct31), sl31⟩) (c31 : PySem.W.codeIn K cd31 "_law_name" = true) (k31 : PySem.W.keepIn K (.ref f31) = true)
    (a32 : PySem.W.nsIn K mainGlobals "_law_told" = some (some (.ref f32))) (l32 : K.lookup f32 = some ⟨oc32, od32, .func (PySem.W.fnOf "_law_told" "_law_told" (defArgs s_law_told) (defBody s_law_told) (defScope s_law_told) .none kV32 dc32 pm32 an32 cd32 ct32), sl32⟩) (c32 : PySem.W.codeIn K cd32 "_law_told" = true) (k32 : PySem.W.keepIn K (.ref f32) = true)
    (a33 : PySem.W.nsIn K mainGlobals "law" = some (some (.ref f33))) (l33 : K.lookup f33 = some ⟨oc33, od33, .func (PySem.W.fnOf "law" "law" (defArgs s_law) (defBody s_law) (defScope s_law) .none kV33 dc33 pm33 an33 cd33 ct33), sl33⟩) (c33 : PySem.W.codeIn K cd33 "law" = true) (k33 : PySem.W.keepIn K (.ref f33) = true)
    (v0 : PySem.W.nsIn K mainGlobals "MOST_GAME_NODES" = some (some (Value.int 2000 tk0)))
    (v1 : PySem.W.nsIn K mainGlobals "MOST_HEIGHT" = some (some (Value.int 40 tk1)))
    (v2 : PySem.W.nsIn K mainGlobals "MOST_NIMBER" = some (some (Value.int 5 tk2)))
    (v3 : PySem.W.nsIn K mainGlobals "MOST_PARTS" = some (some (Value.int 16 tk3)))
    (v4 : PySem.W.nsIn K mainGlobals "MOST_INTEGER" = some (some (Value.int 16 tk4)))
    (v5 : PySem.W.nsIn K mainGlobals "DIGITS" = some (some (Value.str "0123456789" tk5)))
    (w_ZERO : PySem.W.nsIn K mainGlobals "ZERO" = some (some (.ref bt1)))
    (qt1 : K.lookup bt1 = some ⟨.type "tuple", ot1, .seq #[.ref bt2, .ref bt3] nt1, st1⟩)
    (qt3 : K.lookup bt3 = some ⟨.type "tuple", ot3, .seq #[] nt3, st3⟩)
    (qt2 : K.lookup bt2 = some ⟨.type "tuple", ot2, .seq #[] nt2, st2⟩)
    (w_STAR : PySem.W.nsIn K mainGlobals "STAR" = some (some (.ref bt4)))
    (qt4 : K.lookup bt4 = some ⟨.type "tuple", ot4, .seq #[.ref bt5, .ref bt9] nt4, st4⟩)
    (qt9 : K.lookup bt9 = some ⟨.type "tuple", ot9, .seq #[.ref bt10] nt9, st9⟩)
    (qt10 : K.lookup bt10 = some ⟨.type "tuple", ot10, .seq #[.ref bt11, .ref bt12] nt10, st10⟩)
    (qt12 : K.lookup bt12 = some ⟨.type "tuple", ot12, .seq #[] nt12, st12⟩)
    (qt11 : K.lookup bt11 = some ⟨.type "tuple", ot11, .seq #[] nt11, st11⟩)
    (qt5 : K.lookup bt5 = some ⟨.type "tuple", ot5, .seq #[.ref bt6] nt5, st5⟩)
    (qt6 : K.lookup bt6 = some ⟨.type "tuple", ot6, .seq #[.ref bt7, .ref bt8] nt6, st6⟩)
    (qt8 : K.lookup bt8 = some ⟨.type "tuple", ot8, .seq #[] nt8, st8⟩)
    (qt7 : K.lookup bt7 = some ⟨.type "tuple", ot7, .seq #[] nt7, st7⟩)
    (w_UP : PySem.W.nsIn K mainGlobals "UP" = some (some (.ref bt13)))
    (qt13 : K.lookup bt13 = some ⟨.type "tuple", ot13, .seq #[.ref bt14, .ref bt18] nt13, st13⟩)
    (qt18 : K.lookup bt18 = some ⟨.type "tuple", ot18, .seq #[.ref bt19] nt18, st18⟩)
    (qt19 : K.lookup bt19 = some ⟨.type "tuple", ot19, .seq #[.ref bt20, .ref bt24] nt19, st19⟩)
    (qt24 : K.lookup bt24 = some ⟨.type "tuple", ot24, .seq #[.ref bt25] nt24, st24⟩)
    (qt25 : K.lookup bt25 = some ⟨.type "tuple", ot25, .seq #[.ref bt26, .ref bt27] nt25, st25⟩)
    (qt27 : K.lookup bt27 = some ⟨.type "tuple", ot27, .seq #[] nt27, st27⟩)
    (qt26 : K.lookup bt26 = some ⟨.type "tuple", ot26, .seq #[] nt26, st26⟩)
    (qt20 : K.lookup bt20 = some ⟨.type "tuple", ot20, .seq #[.ref bt21] nt20, st20⟩)
    (qt21 : K.lookup bt21 = some ⟨.type "tuple", ot21, .seq #[.ref bt22, .ref bt23] nt21, st21⟩)
    (qt23 : K.lookup bt23 = some ⟨.type "tuple", ot23, .seq #[] nt23, st23⟩)
    (qt22 : K.lookup bt22 = some ⟨.type "tuple", ot22, .seq #[] nt22, st22⟩)
    (qt14 : K.lookup bt14 = some ⟨.type "tuple", ot14, .seq #[.ref bt15] nt14, st14⟩)
    (qt15 : K.lookup bt15 = some ⟨.type "tuple", ot15, .seq #[.ref bt16, .ref bt17] nt15, st15⟩)
    (qt17 : K.lookup bt17 = some ⟨.type "tuple", ot17, .seq #[] nt17, st17⟩)
    (qt16 : K.lookup bt16 = some ⟨.type "tuple", ot16, .seq #[] nt16, st16⟩)
    (w_DOWN : PySem.W.nsIn K mainGlobals "DOWN" = some (some (.ref bt28)))
    (qt28 : K.lookup bt28 = some ⟨.type "tuple", ot28, .seq #[.ref bt29, .ref bt39] nt28, st28⟩)
    (qt39 : K.lookup bt39 = some ⟨.type "tuple", ot39, .seq #[.ref bt40] nt39, st39⟩)
    (qt40 : K.lookup bt40 = some ⟨.type "tuple", ot40, .seq #[.ref bt41, .ref bt42] nt40, st40⟩)
    (qt42 : K.lookup bt42 = some ⟨.type "tuple", ot42, .seq #[] nt42, st42⟩)
    (qt41 : K.lookup bt41 = some ⟨.type "tuple", ot41, .seq #[] nt41, st41⟩)
    (qt29 : K.lookup bt29 = some ⟨.type "tuple", ot29, .seq #[.ref bt30] nt29, st29⟩)
    (qt30 : K.lookup bt30 = some ⟨.type "tuple", ot30, .seq #[.ref bt31, .ref bt35] nt30, st30⟩)
    (qt35 : K.lookup bt35 = some ⟨.type "tuple", ot35, .seq #[.ref bt36] nt35, st35⟩)
    (qt36 : K.lookup bt36 = some ⟨.type "tuple", ot36, .seq #[.ref bt37, .ref bt38] nt36, st36⟩)
    (qt38 : K.lookup bt38 = some ⟨.type "tuple", ot38, .seq #[] nt38, st38⟩)
    (qt37 : K.lookup bt37 = some ⟨.type "tuple", ot37, .seq #[] nt37, st37⟩)
    (qt31 : K.lookup bt31 = some ⟨.type "tuple", ot31, .seq #[.ref bt32] nt31, st31⟩)
    (qt32 : K.lookup bt32 = some ⟨.type "tuple", ot32, .seq #[.ref bt33, .ref bt34] nt32, st32⟩)
    (qt34 : K.lookup bt34 = some ⟨.type "tuple", ot34, .seq #[] nt34, st34⟩)
    (qt33 : K.lookup bt33 = some ⟨.type "tuple", ot33, .seq #[] nt33, st33⟩)
    (w_UP_STAR : PySem.W.nsIn K mainGlobals "UP_STAR" = some (some (.ref bt43)))
    (qt43 : K.lookup bt43 = some ⟨.type "tuple", ot43, .seq #[.ref bt44, .ref bt57] nt43, st43⟩)
    (qt57 : K.lookup bt57 = some ⟨.type "tuple", ot57, .seq #[.ref bt58] nt57, st57⟩)
    (qt58 : K.lookup bt58 = some ⟨.type "tuple", ot58, .seq #[.ref bt59, .ref bt60] nt58, st58⟩)
    (qt60 : K.lookup bt60 = some ⟨.type "tuple", ot60, .seq #[] nt60, st60⟩)
    (qt59 : K.lookup bt59 = some ⟨.type "tuple", ot59, .seq #[] nt59, st59⟩)
    (qt44 : K.lookup bt44 = some ⟨.type "tuple", ot44, .seq #[.ref bt45, .ref bt48] nt44, st44⟩)
    (qt48 : K.lookup bt48 = some ⟨.type "tuple", ot48, .seq #[.ref bt49, .ref bt53] nt48, st48⟩)
    (qt53 : K.lookup bt53 = some ⟨.type "tuple", ot53, .seq #[.ref bt54] nt53, st53⟩)
    (qt54 : K.lookup bt54 = some ⟨.type "tuple", ot54, .seq #[.ref bt55, .ref bt56] nt54, st54⟩)
    (qt56 : K.lookup bt56 = some ⟨.type "tuple", ot56, .seq #[] nt56, st56⟩)
    (qt55 : K.lookup bt55 = some ⟨.type "tuple", ot55, .seq #[] nt55, st55⟩)
    (qt49 : K.lookup bt49 = some ⟨.type "tuple", ot49, .seq #[.ref bt50] nt49, st49⟩)
    (qt50 : K.lookup bt50 = some ⟨.type "tuple", ot50, .seq #[.ref bt51, .ref bt52] nt50, st50⟩)
    (qt52 : K.lookup bt52 = some ⟨.type "tuple", ot52, .seq #[] nt52, st52⟩)
    (qt51 : K.lookup bt51 = some ⟨.type "tuple", ot51, .seq #[] nt51, st51⟩)
    (qt45 : K.lookup bt45 = some ⟨.type "tuple", ot45, .seq #[.ref bt46, .ref bt47] nt45, st45⟩)
    (qt47 : K.lookup bt47 = some ⟨.type "tuple", ot47, .seq #[] nt47, st47⟩)
    (qt46 : K.lookup bt46 = some ⟨.type "tuple", ot46, .seq #[] nt46, st46⟩)
    (w_DOWN_STAR : PySem.W.nsIn K mainGlobals "DOWN_STAR" = some (some (.ref bt61)))
    (qt61 : K.lookup bt61 = some ⟨.type "tuple", ot61, .seq #[.ref bt62, .ref bt66] nt61, st61⟩)
    (qt66 : K.lookup bt66 = some ⟨.type "tuple", ot66, .seq #[.ref bt67, .ref bt70] nt66, st66⟩)
    (qt70 : K.lookup bt70 = some ⟨.type "tuple", ot70, .seq #[.ref bt71, .ref bt75] nt70, st70⟩)
    (qt75 : K.lookup bt75 = some ⟨.type "tuple", ot75, .seq #[.ref bt76] nt75, st75⟩)
    (qt76 : K.lookup bt76 = some ⟨.type "tuple", ot76, .seq #[.ref bt77, .ref bt78] nt76, st76⟩)
    (qt78 : K.lookup bt78 = some ⟨.type "tuple", ot78, .seq #[] nt78, st78⟩)
    (qt77 : K.lookup bt77 = some ⟨.type "tuple", ot77, .seq #[] nt77, st77⟩)
    (qt71 : K.lookup bt71 = some ⟨.type "tuple", ot71, .seq #[.ref bt72] nt71, st71⟩)
    (qt72 : K.lookup bt72 = some ⟨.type "tuple", ot72, .seq #[.ref bt73, .ref bt74] nt72, st72⟩)
    (qt74 : K.lookup bt74 = some ⟨.type "tuple", ot74, .seq #[] nt74, st74⟩)
    (qt73 : K.lookup bt73 = some ⟨.type "tuple", ot73, .seq #[] nt73, st73⟩)
    (qt67 : K.lookup bt67 = some ⟨.type "tuple", ot67, .seq #[.ref bt68, .ref bt69] nt67, st67⟩)
    (qt69 : K.lookup bt69 = some ⟨.type "tuple", ot69, .seq #[] nt69, st69⟩)
    (qt68 : K.lookup bt68 = some ⟨.type "tuple", ot68, .seq #[] nt68, st68⟩)
    (qt62 : K.lookup bt62 = some ⟨.type "tuple", ot62, .seq #[.ref bt63] nt62, st62⟩)
    (qt63 : K.lookup bt63 = some ⟨.type "tuple", ot63, .seq #[.ref bt64, .ref bt65] nt63, st63⟩)
    (qt65 : K.lookup bt65 = some ⟨.type "tuple", ot65, .seq #[] nt65, st65⟩)
    (qt64 : K.lookup bt64 = some ⟨.type "tuple", ot64, .seq #[] nt64, st64⟩)
    (z0 : PySem.W.nsIn K mainGlobals "len" = some none)
    (z1 : PySem.W.nsIn K mainGlobals "range" = some none)
    (z2 : PySem.W.nsIn K mainGlobals "int" = some none)
    (z3 : PySem.W.nsIn K mainGlobals "str" = some none)
    (z4 : PySem.W.nsIn K mainGlobals "tuple" = some none)
    (z5 : PySem.W.nsIn K mainGlobals "isinstance" = some none)
    (z6 : PySem.W.nsIn K mainGlobals "enumerate" = some none)
    (z7 : PySem.W.nsIn K mainGlobals "max" = some none)
    (z8 : PySem.W.nsIn K mainGlobals "sum" = some none)
    (z9 : PySem.W.nsIn K mainGlobals "abs" = some none) :
    Nonempty (Txt K mg) :=
  ⟨{ a_is_game := f0, d_is_game := _, F_is_game := fun_mk (st := s_is_game) l0 c0 k0, b_is_game := (fun_mk (st := s_is_game) l0 c0 k0).binds (ps := ["value"]) (fun _ _ _ _ _ _ us hl => match us, hl with | [_], _ => rfl), g_is_game := PySem.W.mg_of X G a0,
     a_need_game := f1, d_need_game := _, F_need_game := fun_mk (st := s_need_game) l1 c1 k1, b_need_game := (fun_mk (st := s_need_game) l1 c1 k1).binds (ps := ["value"]) (fun _ _ _ _ _ _ us hl => match us, hl with | [_], _ => rfl), g_need_game := PySem.W.mg_of X G a1,
     a_integer_form := f2, d_integer_form := _, F_integer_form := fun_mk (st := s_integer_form) l2 c2 k2, b_integer_form := (fun_mk (st := s_integer_form) l2 c2 k2).binds (ps := ["number"]) (fun _ _ _ _ _ _ us hl => match us, hl with | [_], _ => rfl), g_integer_form := PySem.W.mg_of X G a2,
     a_number_form := f3, d_number_form := _, F_number_form := fun_mk (st := s_number_form) l3 c3 k3, b_number_form := (fun_mk (st := s_number_form) l3 c3 k3).binds (ps := ["top", "bottom"]) (fun _ _ _ _ _ _ us hl => match us, hl with | [_, _], _ => rfl), g_number_form := PySem.W.mg_of X G a3,
     a_nimber_form := f4, d_nimber_form := _, F_nimber_form := fun_mk (st := s_nimber_form) l4 c4 k4, b_nimber_form := (fun_mk (st := s_nimber_form) l4 c4 k4).binds (ps := ["size"]) (fun _ _ _ _ _ _ us hl => match us, hl with | [_], _ => rfl), g_nimber_form := PySem.W.mg_of X G a4,
     a_integer_of := f5, d_integer_of := _, F_integer_of := fun_mk (st := s_integer_of) l5 c5 k5, b_integer_of := (fun_mk (st := s_integer_of) l5 c5 k5).binds (ps := ["game"]) (fun _ _ _ _ _ _ us hl => match us, hl with | [_], _ => rfl), g_integer_of := PySem.W.mg_of X G a5,
     a_named := f6, d_named := _, F_named := fun_mk (st := s_named) l6 c6 k6, b_named := (fun_mk (st := s_named) l6 c6 k6).binds (ps := ["game"]) (fun _ _ _ _ _ _ us hl => match us, hl with | [_], _ => rfl), g_named := PySem.W.mg_of X G a6,
     a_fraction_of := f7, d_fraction_of := _, F_fraction_of := fun_mk (st := s_fraction_of) l7 c7 k7, b_fraction_of := (fun_mk (st := s_fraction_of) l7 c7 k7).binds (ps := ["game"]) (fun _ _ _ _ _ _ us hl => match us, hl with | [_], _ => rfl), g_fraction_of := PySem.W.mg_of X G a7,
     a_fraction_name := f8, d_fraction_name := _, F_fraction_name := fun_mk (st := s_fraction_name) l8 c8 k8, b_fraction_name := (fun_mk (st := s_fraction_name) l8 c8 k8).binds (ps := ["game"]) (fun _ _ _ _ _ _ us hl => match us, hl with | [_], _ => rfl), g_fraction_name := PySem.W.mg_of X G a8,
     a_text_of := f9, d_text_of := _, F_text_of := fun_mk (st := s_text_of) l9 c9 k9, b_text_of := (fun_mk (st := s_text_of) l9 c9 k9).binds (ps := ["game"]) (fun _ _ _ _ _ _ us hl => match us, hl with | [_], _ => rfl), g_text_of := PySem.W.mg_of X G a9,
     a_write := f10, d_write := _, F_write := fun_mk (st := s_write) l10 c10 k10, b_write := (fun_mk (st := s_write) l10 c10 k10).binds (ps := ["game"]) (fun _ _ _ _ _ _ us hl => match us, hl with | [_], _ => rfl), g_write := PySem.W.mg_of X G a10,
     a_digits_from := f11, d_digits_from := _, F_digits_from := fun_mk (st := s_digits_from) l11 c11 k11, b_digits_from := (fun_mk (st := s_digits_from) l11 c11 k11).binds (ps := ["text", "at"]) (fun _ _ _ _ _ _ us hl => match us, hl with | [_, _], _ => rfl), g_digits_from := PySem.W.mg_of X G a11,
     a_read_whole := f12, d_read_whole := _, F_read_whole := fun_mk (st := s_read_whole) l12 c12 k12, b_read_whole := (fun_mk (st := s_read_whole) l12 c12 k12).binds (ps := ["text", "at", "start"]) (fun _ _ _ _ _ _ us hl => match us, hl with | [_, _, _], _ => rfl), g_read_whole := PySem.W.mg_of X G a12,
     a_read_number := f13, d_read_number := _, F_read_number := fun_mk (st := s_read_number) l13 c13 k13, b_read_number := (fun_mk (st := s_read_number) l13 c13 k13).binds (ps := ["text", "start"]) (fun _ _ _ _ _ _ us hl => match us, hl with | [_, _], _ => rfl), g_read_number := PySem.W.mg_of X G a13,
     a_read_star := f14, d_read_star := _, F_read_star := fun_mk (st := s_read_star) l14 c14 k14, b_read_star := (fun_mk (st := s_read_star) l14 c14 k14).binds (ps := ["text", "start"]) (fun _ _ _ _ _ _ us hl => match us, hl with | [_, _], _ => rfl), g_read_star := PySem.W.mg_of X G a14,
     a_read_side := f15, d_read_side := _, F_read_side := fun_mk (st := s_read_side) l15 c15 k15, b_read_side := (fun_mk (st := s_read_side) l15 c15 k15).binds (ps := ["text", "at", "last"]) (fun _ _ _ _ _ _ us hl => match us, hl with | [_, _, _], _ => rfl), g_read_side := PySem.W.mg_of X G a15,
     a_read_from := f16, d_read_from := _, F_read_from := fun_mk (st := s_read_from) l16 c16 k16, b_read_from := (fun_mk (st := s_read_from) l16 c16 k16).binds (ps := ["text", "at"]) (fun _ _ _ _ _ _ us hl => match us, hl with | [_, _], _ => rfl), g_read_from := PySem.W.mg_of X G a16,
     a_too_deep := f17, d_too_deep := _, F_too_deep := fun_mk (st := s_too_deep) l17 c17 k17, b_too_deep := (fun_mk (st := s_too_deep) l17 c17 k17).binds (ps := ["text"]) (fun _ _ _ _ _ _ us hl => match us, hl with | [_], _ => rfl), g_too_deep := PySem.W.mg_of X G a17,
     a_read := f18, d_read := _, F_read := fun_mk (st := s_read) l18 c18 k18, b_read := (fun_mk (st := s_read) l18 c18 k18).binds (ps := ["text"]) (fun _ _ _ _ _ _ us hl => match us, hl with | [_], _ => rfl), g_read := PySem.W.mg_of X G a18,
     a_law_taken := f19, d_law_taken := _, F_law_taken := fun_mk (st := s_law_taken) l19 c19 k19, b_law_taken := (fun_mk (st := s_law_taken) l19 c19 k19).binds (ps := ["_law_row", "_law_many"]) (fun _ _ _ _ _ _ us hl => match us, hl with | [_, _], _ => rfl), g_law_taken := PySem.W.mg_of X G a19,
     a_law_pick := f20, d_law_pick := _, F_law_pick := fun_mk (st := s_law_pick) l20 c20 k20, b_law_pick := (fun_mk (st := s_law_pick) l20 c20 k20).binds (ps := ["_law_row", "_law_things"]) (fun _ _ _ _ _ _ us hl => match us, hl with | [_, _], _ => rfl), g_law_pick := PySem.W.mg_of X G a20,
     a_law_zero := f21, d_law_zero := _, F_law_zero := fun_mk (st := s_law_zero) l21 c21 k21, b_law_zero := (fun_mk (st := s_law_zero) l21 c21 k21).binds (ps := []) (fun _ _ _ _ _ _ us hl => match us, hl with | [], _ => rfl), g_law_zero := PySem.W.mg_of X G a21,
     a_law_star := f22, d_law_star := _, F_law_star := fun_mk (st := s_law_star) l22 c22 k22, b_law_star := (fun_mk (st := s_law_star) l22 c22 k22).binds (ps := []) (fun _ _ _ _ _ _ us hl => match us, hl with | [], _ => rfl), g_law_star := PySem.W.mg_of X G a22,
     a_law_whole := f23, d_law_whole := _, F_law_whole := fun_mk (st := s_law_whole) l23 c23 k23, b_law_whole := (fun_mk (st := s_law_whole) l23 c23 k23).binds (ps := ["_law_number_here"]) (fun _ _ _ _ _ _ us hl => match us, hl with | [_], _ => rfl), g_law_whole := PySem.W.mg_of X G a23,
     a_law_number := f24, d_law_number := _, F_law_number := fun_mk (st := s_law_number) l24 c24 k24, b_law_number := (fun_mk (st := s_law_number) l24 c24 k24).binds (ps := ["_law_top", "_law_bottom"]) (fun _ _ _ _ _ _ us hl => match us, hl with | [_, _], _ => rfl), g_law_number := PySem.W.mg_of X G a24,
     a_law_nimber := f25, d_law_nimber := _, F_law_nimber := fun_mk (st := s_law_nimber) l25 c25 k25, b_law_nimber := (fun_mk (st := s_law_nimber) l25 c25 k25).binds (ps := ["_law_size"]) (fun _ _ _ _ _ _ us hl => match us, hl with | [_], _ => rfl), g_law_nimber := PySem.W.mg_of X G a25,
     a_law_back := f26, d_law_back := _, F_law_back := fun_mk (st := s_law_back) l26 c26 k26, b_law_back := (fun_mk (st := s_law_back) l26 c26 k26).binds (ps := ["_law_game_here"]) (fun _ _ _ _ _ _ us hl => match us, hl with | [_], _ => rfl), g_law_back := PySem.W.mg_of X G a26,
     a_law_nodes := f27, d_law_nodes := _, F_law_nodes := fun_mk (st := s_law_nodes) l27 c27 k27, b_law_nodes := (fun_mk (st := s_law_nodes) l27 c27 k27).binds (ps := ["_law_game_here"]) (fun _ _ _ _ _ _ us hl => match us, hl with | [_], _ => rfl), g_law_nodes := PySem.W.mg_of X G a27,
     a_law_named := f28, d_law_named := _, F_law_named := fun_mk (st := s_law_named) l28 c28 k28, b_law_named := (fun_mk (st := s_law_named) l28 c28 k28).binds (ps := ["_law_row"]) (fun _ _ _ _ _ _ us hl => match us, hl with | [_], _ => rfl), g_law_named := PySem.W.mg_of X G a28,
     a_law_game := f29, d_law_game := _, F_law_game := fun_mk (st := s_law_game) l29 c29 k29, b_law_game := (fun_mk (st := s_law_game) l29 c29 k29).binds (ps := ["_law_row", "_law_deep"]) (fun _ _ _ _ _ _ us hl => match us, hl with | [_, _], _ => rfl), g_law_game := PySem.W.mg_of X G a29,
     a_law_some := f30, d_law_some := _, F_law_some := fun_mk (st := s_law_some) l30 c30 k30, b_law_some := (fun_mk (st := s_law_some) l30 c30 k30).binds (ps := ["_law_row", "_law_deep", "_law_most"]) (fun _ _ _ _ _ _ us hl => match us, hl with | [_, _, _], _ => rfl), g_law_some := PySem.W.mg_of X G a30,
     a_law_name := f31, d_law_name := _, F_law_name := fun_mk (st := s_law_name) l31 c31 k31, b_law_name := (fun_mk (st := s_law_name) l31 c31 k31).binds (ps := ["_law_row"]) (fun _ _ _ _ _ _ us hl => match us, hl with | [_], _ => rfl), g_law_name := PySem.W.mg_of X G a31,
     a_law_told := f32, d_law_told := _, F_law_told := fun_mk (st := s_law_told) l32 c32 k32, b_law_told := (fun_mk (st := s_law_told) l32 c32 k32).binds (ps := ["_law_row", "_law_deep"]) (fun _ _ _ _ _ _ us hl => match us, hl with | [_, _], _ => rfl), g_law_told := PySem.W.mg_of X G a32,
     a_law := f33, d_law := _, F_law := fun_mk (st := s_law) l33 c33 k33, b_law := (fun_mk (st := s_law) l33 c33 k33).binds (ps := ["_law_script"]) (fun _ _ _ _ _ _ us hl => match us, hl with | [_], _ => rfl), g_law := PySem.W.mg_of X G a33,
     B_law := fun s v => .of_eq rfl,
     t_MOST_GAME_NODES := tk0, c_MOST_GAME_NODES := PySem.W.mg_of X G v0,
     t_MOST_HEIGHT := tk1, c_MOST_HEIGHT := PySem.W.mg_of X G v1,
     t_MOST_NIMBER := tk2, c_MOST_NIMBER := PySem.W.mg_of X G v2,
     t_MOST_PARTS := tk3, c_MOST_PARTS := PySem.W.mg_of X G v3,
     t_MOST_INTEGER := tk4, c_MOST_INTEGER := PySem.W.mg_of X G v4,
     t_DIGITS := tk5, c_DIGITS := PySem.W.mg_of X G v5,
     v_ZERO := .ref bt1, u_ZERO := _, c_ZERO := PySem.W.mg_of X G w_ZERO, r_ZERO := rfl, q_ZERO := fun H => kt_tup (xs := [.ref bt2, .ref bt3]) qt1 (.cons rfl (.cons rfl .nil)) (.cons (kt_tup (xs := []) qt2 .nil .nil) (.cons (kt_tup (xs := []) qt3 .nil .nil) .nil)),
     v_STAR := .ref bt4, u_STAR := _, c_STAR := PySem.W.mg_of X G w_STAR, r_STAR := rfl, q_STAR := fun H => kt_tup (xs := [.ref bt5, .ref bt9]) qt4 (.cons rfl (.cons rfl .nil)) (.cons (kt_tup (xs := [.ref bt6]) qt5 (.cons rfl .nil) (.cons (kt_tup (xs := [.ref bt7, .ref bt8]) qt6 (.cons rfl (.cons rfl .nil)) (.cons (kt_tup (xs := []) qt7 .nil .nil) (.cons (kt_tup (xs := []) qt8 .nil .nil) .nil))) .nil)) (.cons (kt_tup (xs := [.ref bt10]) qt9 (.cons rfl .nil) (.cons (kt_tup (xs := [.ref bt11, .ref bt12]) qt10 (.cons rfl (.cons rfl .nil)) (.cons (kt_tup (xs := []) qt11 .nil .nil) (.cons (kt_tup (xs := []) qt12 .nil .nil) .nil))) .nil)) .nil)),
     v_UP := .ref bt13, u_UP := _, c_UP := PySem.W.mg_of X G w_UP, r_UP := rfl, q_UP := fun H => kt_tup (xs := [.ref bt14, .ref bt18]) qt13 (.cons rfl (.cons rfl .nil)) (.cons (kt_tup (xs := [.ref bt15]) qt14 (.cons rfl .nil) (.cons (kt_tup (xs := [.ref bt16, .ref bt17]) qt15 (.cons rfl (.cons rfl .nil)) (.cons (kt_tup (xs := []) qt16 .nil .nil) (.cons (kt_tup (xs := []) qt17 .nil .nil) .nil))) .nil)) (.cons (kt_tup (xs := [.ref bt19]) qt18 (.cons rfl .nil) (.cons (kt_tup (xs := [.ref bt20, .ref bt24]) qt19 (.cons rfl (.cons rfl .nil)) (.cons (kt_tup (xs := [.ref bt21]) qt20 (.cons rfl .nil) (.cons (kt_tup (xs := [.ref bt22, .ref bt23]) qt21 (.cons rfl (.cons rfl .nil)) (.cons (kt_tup (xs := []) qt22 .nil .nil) (.cons (kt_tup (xs := []) qt23 .nil .nil) .nil))) .nil)) (.cons (kt_tup (xs := [.ref bt25]) qt24 (.cons rfl .nil) (.cons (kt_tup (xs := [.ref bt26, .ref bt27]) qt25 (.cons rfl (.cons rfl .nil)) (.cons (kt_tup (xs := []) qt26 .nil .nil) (.cons (kt_tup (xs := []) qt27 .nil .nil) .nil))) .nil)) .nil))) .nil)) .nil)),
     v_DOWN := .ref bt28, u_DOWN := _, c_DOWN := PySem.W.mg_of X G w_DOWN, r_DOWN := rfl, q_DOWN := fun H => kt_tup (xs := [.ref bt29, .ref bt39]) qt28 (.cons rfl (.cons rfl .nil)) (.cons (kt_tup (xs := [.ref bt30]) qt29 (.cons rfl .nil) (.cons (kt_tup (xs := [.ref bt31, .ref bt35]) qt30 (.cons rfl (.cons rfl .nil)) (.cons (kt_tup (xs := [.ref bt32]) qt31 (.cons rfl .nil) (.cons (kt_tup (xs := [.ref bt33, .ref bt34]) qt32 (.cons rfl (.cons rfl .nil)) (.cons (kt_tup (xs := []) qt33 .nil .nil) (.cons (kt_tup (xs := []) qt34 .nil .nil) .nil))) .nil)) (.cons (kt_tup (xs := [.ref bt36]) qt35 (.cons rfl .nil) (.cons (kt_tup (xs := [.ref bt37, .ref bt38]) qt36 (.cons rfl (.cons rfl .nil)) (.cons (kt_tup (xs := []) qt37 .nil .nil) (.cons (kt_tup (xs := []) qt38 .nil .nil) .nil))) .nil)) .nil))) .nil)) (.cons (kt_tup (xs := [.ref bt40]) qt39 (.cons rfl .nil) (.cons (kt_tup (xs := [.ref bt41, .ref bt42]) qt40 (.cons rfl (.cons rfl .nil)) (.cons (kt_tup (xs := []) qt41 .nil .nil) (.cons (kt_tup (xs := []) qt42 .nil .nil) .nil))) .nil)) .nil)),
     v_UP_STAR := .ref bt43, u_UP_STAR := _, c_UP_STAR := PySem.W.mg_of X G w_UP_STAR, r_UP_STAR := rfl, q_UP_STAR := fun H => kt_tup (xs := [.ref bt44, .ref bt57]) qt43 (.cons rfl (.cons rfl .nil)) (.cons (kt_tup (xs := [.ref bt45, .ref bt48]) qt44 (.cons rfl (.cons rfl .nil)) (.cons (kt_tup (xs := [.ref bt46, .ref bt47]) qt45 (.cons rfl (.cons rfl .nil)) (.cons (kt_tup (xs := []) qt46 .nil .nil) (.cons (kt_tup (xs := []) qt47 .nil .nil) .nil))) (.cons (kt_tup (xs := [.ref bt49, .ref bt53]) qt48 (.cons rfl (.cons rfl .nil)) (.cons (kt_tup (xs := [.ref bt50]) qt49 (.cons rfl .nil) (.cons (kt_tup (xs := [.ref bt51, .ref bt52]) qt50 (.cons rfl (.cons rfl .nil)) (.cons (kt_tup (xs := []) qt51 .nil .nil) (.cons (kt_tup (xs := []) qt52 .nil .nil) .nil))) .nil)) (.cons (kt_tup (xs := [.ref bt54]) qt53 (.cons rfl .nil) (.cons (kt_tup (xs := [.ref bt55, .ref bt56]) qt54 (.cons rfl (.cons rfl .nil)) (.cons (kt_tup (xs := []) qt55 .nil .nil) (.cons (kt_tup (xs := []) qt56 .nil .nil) .nil))) .nil)) .nil))) .nil))) (.cons (kt_tup (xs := [.ref bt58]) qt57 (.cons rfl .nil) (.cons (kt_tup (xs := [.ref bt59, .ref bt60]) qt58 (.cons rfl (.cons rfl .nil)) (.cons (kt_tup (xs := []) qt59 .nil .nil) (.cons (kt_tup (xs := []) qt60 .nil .nil) .nil))) .nil)) .nil)),
     v_DOWN_STAR := .ref bt61, u_DOWN_STAR := _, c_DOWN_STAR := PySem.W.mg_of X G w_DOWN_STAR, r_DOWN_STAR := rfl, q_DOWN_STAR := fun H => kt_tup (xs := [.ref bt62, .ref bt66]) qt61 (.cons rfl (.cons rfl .nil)) (.cons (kt_tup (xs := [.ref bt63]) qt62 (.cons rfl .nil) (.cons (kt_tup (xs := [.ref bt64, .ref bt65]) qt63 (.cons rfl (.cons rfl .nil)) (.cons (kt_tup (xs := []) qt64 .nil .nil) (.cons (kt_tup (xs := []) qt65 .nil .nil) .nil))) .nil)) (.cons (kt_tup (xs := [.ref bt67, .ref bt70]) qt66 (.cons rfl (.cons rfl .nil)) (.cons (kt_tup (xs := [.ref bt68, .ref bt69]) qt67 (.cons rfl (.cons rfl .nil)) (.cons (kt_tup (xs := []) qt68 .nil .nil) (.cons (kt_tup (xs := []) qt69 .nil .nil) .nil))) (.cons (kt_tup (xs := [.ref bt71, .ref bt75]) qt70 (.cons rfl (.cons rfl .nil)) (.cons (kt_tup (xs := [.ref bt72]) qt71 (.cons rfl .nil) (.cons (kt_tup (xs := [.ref bt73, .ref bt74]) qt72 (.cons rfl (.cons rfl .nil)) (.cons (kt_tup (xs := []) qt73 .nil .nil) (.cons (kt_tup (xs := []) qt74 .nil .nil) .nil))) .nil)) (.cons (kt_tup (xs := [.ref bt76]) qt75 (.cons rfl .nil) (.cons (kt_tup (xs := [.ref bt77, .ref bt78]) qt76 (.cons rfl (.cons rfl .nil)) (.cons (kt_tup (xs := []) qt77 .nil .nil) (.cons (kt_tup (xs := []) qt78 .nil .nil) .nil))) .nil)) .nil))) .nil))) .nil)),
     m_len := PySem.W.mg_none_of X G z0,
     m_range := PySem.W.mg_none_of X G z1,
     m_int := PySem.W.mg_none_of X G z2,
     m_str := PySem.W.mg_none_of X G z3,
     m_tuple := PySem.W.mg_none_of X G z4,
     m_isinstance := PySem.W.mg_none_of X G z5,
     m_enumerate := PySem.W.mg_none_of X G z6,
     m_max := PySem.W.mg_none_of X G z7,
     m_sum := PySem.W.mg_none_of X G z8,
     m_abs := PySem.W.mg_none_of X G z9 }⟩
end K06


set_option Elab.async false
set_option linter.all false
set_option maxRecDepth 100000
set_option maxHeartbeats 4000000
/-! all rules of the layer as one -/
namespace DL
open PySem L2 TG
theorem WW : ((((((((type_of% @DL.wSeq.eq_1) ∧ ((type_of% @DL.wIfS.eq_1) ∧ (type_of% @DL.wAsg.eq_1))) ∧ (((type_of% @DL.wRet.eq_1) ∧ (type_of% @DL.rtK_dat)) ∧ ((type_of% @DL.rtK_ob) ∧ (type_of% @DL.rtK_own)))) ∧ (((type_of% @DL.rtS_dat) ∧ ((type_of% @DL.rtS_ob) ∧ (type_of% @DL.wDrop.eq_1))) ∧ (((type_of% @DL.wVar.eq_1) ∧ (type_of% @DL.vrS_dat)) ∧ ((type_of% @DL.vrS_ob) ∧ (type_of% @DL.chK_bool))))) ∧ ((((type_of% @DL.unK_int) ∧ ((type_of% @DL.eI0) ∧ (type_of% @DL.eI))) ∧ (((type_of% @DL.eInD) ∧ (type_of% @DL.eInL)) ∧ ((type_of% @DL.eInT) ∧ (type_of% @DL.eIxL)))) ∧ (((type_of% @DL.eIxT) ∧ ((type_of% @DL.eIx1) ∧ (type_of% @DL.eIx2))) ∧ (((type_of% @DL.eIxS) ∧ (type_of% @DL.eIsN)) ∧ ((type_of% @DL.eCat) ∧ (type_of% @DL.eCatT)))))) ∧ (((((type_of% @DL.eLen_list) ∧ ((type_of% @DL.eTupOf_list) ∧ (type_of% @DL.eListOf_list))) ∧ (((type_of% @DL.eLen_tuple) ∧ (type_of% @DL.eTupOf_tuple)) ∧ ((type_of% @DL.eListOf_tuple) ∧ (type_of% @DL.eSum)))) ∧ (((type_of% @DL.eMax) ∧ ((type_of% @DL.eMin) ∧ (type_of% @DL.eAll))) ∧ (((type_of% @DL.eAny) ∧ (type_of% @DL.eSorted)) ∧ ((type_of% @DL.eSortSet) ∧ (type_of% @DL.eInt_int))))) ∧ ((((type_of% @DL.eInt_bool) ∧ ((type_of% @DL.eAbs) ∧ (type_of% @DL.ety_none))) ∧ (((type_of% @DL.eno_none) ∧ (type_of% @DL.efl_none)) ∧ ((type_of% @DL.ety_bool) ∧ (type_of% @DL.eno_bool)))) ∧ ((((type_of% @DL.efl_bool) ∧ (type_of% @DL.ety_int)) ∧ ((type_of% @DL.eno_int) ∧ (type_of% @DL.efl_int))) ∧ (((type_of% @DL.ety_str) ∧ (type_of% @DL.eno_str)) ∧ ((type_of% @DL.efl_str) ∧ (type_of% @DL.ety_list))))))) ∧ ((((((type_of% @DL.eno_list) ∧ ((type_of% @DL.efl_list) ∧ (type_of% @DL.ety_tuple))) ∧ (((type_of% @DL.eno_tuple) ∧ (type_of% @DL.efl_tuple)) ∧ ((type_of% @DL.etr_none) ∧ (type_of% @DL.etr_bool)))) ∧ (((type_of% @DL.etr_int) ∧ ((type_of% @DL.etr_list) ∧ (type_of% @DL.etr_tuple))) ∧ (((type_of% @DL.evd_non) ∧ (type_of% @DL.evd_bl)) ∧ ((type_of% @DL.evd_int) ∧ (type_of% @DL.evd_str))))) ∧ ((((type_of% @DL.etk_ob) ∧ ((type_of% @DL.ix_1_0) ∧ (type_of% @DL.ix_2_0))) ∧ (((type_of% @DL.ix_2_1) ∧ (type_of% @DL.ix_3_0)) ∧ ((type_of% @DL.ix_3_1) ∧ (type_of% @DL.ix_3_2)))) ∧ ((((type_of% @DL.ix_4_0) ∧ (type_of% @DL.ix_4_1)) ∧ ((type_of% @DL.ix_4_2) ∧ (type_of% @DL.ix_4_3))) ∧ (((type_of% @DL.wRep.eq_1) ∧ (type_of% @DL.wNNew.eq_1)) ∧ ((type_of% @DL.wNGet.eq_1) ∧ (type_of% @DL.wNIn.eq_1)))))) ∧ (((((type_of% @DL.wNPut.eq_1) ∧ ((type_of% @DL.wNGet2.eq_1) ∧ (type_of% @DL.dnS_ob))) ∧ (((type_of% @DL.keyT_2) ∧ (type_of% @DL.eIsB)) ∧ ((type_of% @DL.wTGet2.eq_1) ∧ (type_of% @DL.dt_own)))) ∧ (((type_of% @DL.dt_ob) ∧ ((type_of% @DL.dtS_ob) ∧ (type_of% @DL.keysL_2))) ∧ (((type_of% @DL.nk_depth) ∧ (type_of% @DL.wDNewK.eq_1)) ∧ ((type_of% @DL.wDGet.eq_1) ∧ (type_of% @DL.wDIn.eq_1))))) ∧ ((((type_of% @DL.wDPut.eq_1) ∧ ((type_of% @DL.putS_ob) ∧ (type_of% @DL.wPairs.eq_1))) ∧ (((type_of% @DL.wPairs.eq_2) ∧ (type_of% @DL.wDisp.eq_1)) ∧ ((type_of% @DL.keysD.eq_1) ∧ (type_of% @DL.keysD.eq_2)))) ∧ ((((type_of% @DL.keyD_int) ∧ (type_of% @DL.keyD_str)) ∧ ((type_of% @DL.dk_own) ∧ (type_of% @DL.dk_ob))) ∧ (((type_of% @DL.dkS_ob) ∧ (type_of% @DL.at_0)) ∧ ((type_of% @DL.at_1) ∧ (type_of% @DL.at_2)))))))) ∧ (((((((type_of% @DL.at_3) ∧ ((type_of% @DL.wC.eq_1) ∧ (type_of% @DL.wOp.eq_1))) ∧ (((type_of% @DL.wB.eq_1) ∧ (type_of% @DL.wAnd.eq_1)) ∧ ((type_of% @DL.wOr.eq_1) ∧ (type_of% @DL.wNot.eq_1)))) ∧ (((type_of% @DL.wTru.eq_1) ∧ ((type_of% @DL.wAndV.eq_1) ∧ (type_of% @DL.wOrV.eq_1))) ∧ (((type_of% @DL.wIf.eq_1) ∧ (type_of% @DL.wChain.eq_1)) ∧ ((type_of% @DL.wUn.eq_1) ∧ (type_of% @DL.wTup.eq_1))))) ∧ ((((type_of% @DL.wLst.eq_1) ∧ ((type_of% @DL.wNil.eq_1) ∧ (type_of% @DL.wCons.eq_1))) ∧ (((type_of% @DL.wStar.eq_1) ∧ (type_of% @DL.wFz.eq_1)) ∧ ((type_of% @DL.fzK_dat) ∧ (type_of% @DL.fzK_lst)))) ∧ (((type_of% @DL.fzK_own) ∧ ((type_of% @DL.fzS_dat) ∧ (type_of% @DL.fzS_lst))) ∧ (((type_of% @DL.bK_bool) ∧ (type_of% @DL.wC1.eq_1)) ∧ ((type_of% @DL.wIsi.eq_1) ∧ (type_of% @DL.wIsi2.eq_1)))))) ∧ (((((type_of% @DL.nm_dat) ∧ ((type_of% @DL.nm_ob) ∧ (type_of% @DL.nm_own))) ∧ (((type_of% @DL.nmS_dat) ∧ (type_of% @DL.nmS_ob)) ∧ ((type_of% @DL.wGNil.eq_1) ∧ (type_of% @DL.wGNil.eq_2)))) ∧ (((type_of% @DL.wGCons.eq_1) ∧ ((type_of% @DL.wGCons.eq_2) ∧ (type_of% @DL.wGTup.eq_1))) ∧ (((type_of% @DL.wGSub.eq_1) ∧ (type_of% @DL.wGSub.eq_2)) ∧ ((type_of% @DL.wPar.eq_1) ∧ (type_of% @DL.wPar3.eq_1))))) ∧ ((((type_of% @DL.wAugI.eq_1) ∧ ((type_of% @DL.wApp.eq_1) ∧ (type_of% @DL.wExt.eq_1))) ∧ (((type_of% @DL.wPop.eq_1) ∧ (type_of% @DL.wSlT.eq_1)) ∧ ((type_of% @DL.wSlL.eq_1) ∧ (type_of% @DL.wNoPart.eq_1)))) ∧ ((((type_of% @DL.wPart.eq_1) ∧ (type_of% @DL.wCall.eq_1)) ∧ ((type_of% @DL.wCallO.eq_1) ∧ (type_of% @DL.gEq.eq_1))) ∧ (((type_of% @DL.gNe.eq_1) ∧ (type_of% @DL.wIList.eq_1)) ∧ ((type_of% @DL.wITup.eq_1) ∧ (type_of% @DL.wIRng1.eq_1))))))) ∧ ((((((type_of% @DL.wIRng2.eq_1) ∧ ((type_of% @DL.wIEnumT.eq_1) ∧ (type_of% @DL.wIEnum.eq_1))) ∧ (((type_of% @DL.wIZip.eq_1) ∧ (type_of% @DL.cont_dat)) ∧ ((type_of% @DL.cont_lst) ∧ (type_of% @DL.cont_own)))) ∧ (((type_of% @DL.contS_dat) ∧ ((type_of% @DL.contS_lst) ∧ (type_of% @DL.ob1_some))) ∧ (((type_of% @DL.ob1_none) ∧ (type_of% @DL.wYes.eq_1)) ∧ ((type_of% @DL.wNotT.eq_1) ∧ (type_of% @DL.wNotV.eq_1))))) ∧ ((((type_of% @DL.wNext.eq_1) ∧ ((type_of% @DL.wNever.eq_1) ∧ (type_of% @DL.wBreak.eq_1))) ∧ (((type_of% @DL.wCont.eq_1) ∧ (type_of% @DL.wRetN.eq_1)) ∧ ((type_of% @DL.shaped_int) ∧ (type_of% @DL.shaped_str)))) ∧ ((((type_of% @DL.shaped_bool) ∧ (type_of% @DL.shaped_none)) ∧ ((type_of% @DL.eqv_int) ∧ (type_of% @DL.eqv_str))) ∧ (((type_of% @DL.eqv_bool) ∧ (type_of% @DL.eqv_nn)) ∧ ((type_of% @DL.shaped_nil) ∧ (type_of% @DL.shaped_nilT)))))) ∧ (((((type_of% @DL.eqv_lnil) ∧ ((type_of% @DL.eqv_tnil) ∧ (type_of% @DL.retP_nx))) ∧ (((type_of% @DL.retP_rtD) ∧ (type_of% @DL.retP_rtO)) ∧ ((type_of% @DL.outs_nil) ∧ (type_of% @DL.outs_cons)))) ∧ (((type_of% @DL.out1_dat) ∧ ((type_of% @DL.out1_none) ∧ (type_of% @DL.out1_ob))) ∧ (((type_of% @DL.out0.eq_1) ∧ (type_of% @DL.out0.eq_2)) ∧ ((type_of% @DL.dats.eq_1) ∧ (type_of% @DL.notOwn_dat))))) ∧ ((((type_of% @DL.notOwn_ob) ∧ ((type_of% @DL.isT.eq_1) ∧ (type_of% @DL.wipeE.eq_1))) ∧ (((type_of% @DL.wipeE.eq_2) ∧ (type_of% @DL.back.eq_1)) ∧ ((type_of% @DL.back.eq_2) ∧ (type_of% @DL.cast_0)))) ∧ ((((type_of% @DL.cast_1) ∧ (type_of% @DL.cast_2)) ∧ ((type_of% @DL.cast_3) ∧ (type_of% @DL.cast_4))) ∧ (((type_of% @DL.cast_5) ∧ (type_of% @DL.cast_6)) ∧ ((type_of% @DL.cast_7) ∧ (type_of% @DL.cast_8))))))))) := ⟨⟨⟨⟨⟨⟨⟨@DL.wSeq.eq_1, ⟨@DL.wIfS.eq_1, @DL.wAsg.eq_1⟩⟩, ⟨⟨@DL.wRet.eq_1, @DL.rtK_dat⟩, ⟨@DL.rtK_ob, @DL.rtK_own⟩⟩⟩, ⟨⟨@DL.rtS_dat, ⟨@DL.rtS_ob, @DL.wDrop.eq_1⟩⟩, ⟨⟨@DL.wVar.eq_1, @DL.vrS_dat⟩, ⟨@DL.vrS_ob, @DL.chK_bool⟩⟩⟩⟩, ⟨⟨⟨@DL.unK_int, ⟨@DL.eI0, @DL.eI⟩⟩, ⟨⟨@DL.eInD, @DL.eInL⟩, ⟨@DL.eInT, @DL.eIxL⟩⟩⟩, ⟨⟨@DL.eIxT, ⟨@DL.eIx1, @DL.eIx2⟩⟩, ⟨⟨@DL.eIxS, @DL.eIsN⟩, ⟨@DL.eCat, @DL.eCatT⟩⟩⟩⟩⟩, ⟨⟨⟨⟨@DL.eLen_list, ⟨@DL.eTupOf_list, @DL.eListOf_list⟩⟩, ⟨⟨@DL.eLen_tuple, @DL.eTupOf_tuple⟩, ⟨@DL.eListOf_tuple, @DL.eSum⟩⟩⟩, ⟨⟨@DL.eMax, ⟨@DL.eMin, @DL.eAll⟩⟩, ⟨⟨@DL.eAny, @DL.eSorted⟩, ⟨@DL.eSortSet, @DL.eInt_int⟩⟩⟩⟩, ⟨⟨⟨@DL.eInt_bool, ⟨@DL.eAbs, @DL.ety_none⟩⟩, ⟨⟨@DL.eno_none, @DL.efl_none⟩, ⟨@DL.ety_bool, @DL.eno_bool⟩⟩⟩, ⟨⟨⟨@DL.efl_bool, @DL.ety_int⟩, ⟨@DL.eno_int, @DL.efl_int⟩⟩, ⟨⟨@DL.ety_str, @DL.eno_str⟩, ⟨@DL.efl_str, @DL.ety_list⟩⟩⟩⟩⟩⟩, ⟨⟨⟨⟨⟨@DL.eno_list, ⟨@DL.efl_list, @DL.ety_tuple⟩⟩, ⟨⟨@DL.eno_tuple, @DL.efl_tuple⟩, ⟨@DL.etr_none, @DL.etr_bool⟩⟩⟩, ⟨⟨@DL.etr_int, ⟨@DL.etr_list, @DL.etr_tuple⟩⟩, ⟨⟨@DL.evd_non, @DL.evd_bl⟩, ⟨@DL.evd_int, @DL.evd_str⟩⟩⟩⟩, ⟨⟨⟨@DL.etk_ob, ⟨@DL.ix_1_0, @DL.ix_2_0⟩⟩, ⟨⟨@DL.ix_2_1, @DL.ix_3_0⟩, ⟨@DL.ix_3_1, @DL.ix_3_2⟩⟩⟩, ⟨⟨⟨@DL.ix_4_0, @DL.ix_4_1⟩, ⟨@DL.ix_4_2, @DL.ix_4_3⟩⟩, ⟨⟨@DL.wRep.eq_1, @DL.wNNew.eq_1⟩, ⟨@DL.wNGet.eq_1, @DL.wNIn.eq_1⟩⟩⟩⟩⟩, ⟨⟨⟨⟨@DL.wNPut.eq_1, ⟨@DL.wNGet2.eq_1, @DL.dnS_ob⟩⟩, ⟨⟨@DL.keyT_2, @DL.eIsB⟩, ⟨@DL.wTGet2.eq_1, @DL.dt_own⟩⟩⟩, ⟨⟨@DL.dt_ob, ⟨@DL.dtS_ob, @DL.keysL_2⟩⟩, ⟨⟨@DL.nk_depth, @DL.wDNewK.eq_1⟩, ⟨@DL.wDGet.eq_1, @DL.wDIn.eq_1⟩⟩⟩⟩, ⟨⟨⟨@DL.wDPut.eq_1, ⟨@DL.putS_ob, @DL.wPairs.eq_1⟩⟩, ⟨⟨@DL.wPairs.eq_2, @DL.wDisp.eq_1⟩, ⟨@DL.keysD.eq_1, @DL.keysD.eq_2⟩⟩⟩, ⟨⟨⟨@DL.keyD_int, @DL.keyD_str⟩, ⟨@DL.dk_own, @DL.dk_ob⟩⟩, ⟨⟨@DL.dkS_ob, @DL.at_0⟩, ⟨@DL.at_1, @DL.at_2⟩⟩⟩⟩⟩⟩⟩, ⟨⟨⟨⟨⟨⟨@DL.at_3, ⟨@DL.wC.eq_1, @DL.wOp.eq_1⟩⟩, ⟨⟨@DL.wB.eq_1, @DL.wAnd.eq_1⟩, ⟨@DL.wOr.eq_1, @DL.wNot.eq_1⟩⟩⟩, ⟨⟨@DL.wTru.eq_1, ⟨@DL.wAndV.eq_1, @DL.wOrV.eq_1⟩⟩, ⟨⟨@DL.wIf.eq_1, @DL.wChain.eq_1⟩, ⟨@DL.wUn.eq_1, @DL.wTup.eq_1⟩⟩⟩⟩, ⟨⟨⟨@DL.wLst.eq_1, ⟨@DL.wNil.eq_1, @DL.wCons.eq_1⟩⟩, ⟨⟨@DL.wStar.eq_1, @DL.wFz.eq_1⟩, ⟨@DL.fzK_dat, @DL.fzK_lst⟩⟩⟩, ⟨⟨@DL.fzK_own, ⟨@DL.fzS_dat, @DL.fzS_lst⟩⟩, ⟨⟨@DL.bK_bool, @DL.wC1.eq_1⟩, ⟨@DL.wIsi.eq_1, @DL.wIsi2.eq_1⟩⟩⟩⟩⟩, ⟨⟨⟨⟨@DL.nm_dat, ⟨@DL.nm_ob, @DL.nm_own⟩⟩, ⟨⟨@DL.nmS_dat, @DL.nmS_ob⟩, ⟨@DL.wGNil.eq_1, @DL.wGNil.eq_2⟩⟩⟩, ⟨⟨@DL.wGCons.eq_1, ⟨@DL.wGCons.eq_2, @DL.wGTup.eq_1⟩⟩, ⟨⟨@DL.wGSub.eq_1, @DL.wGSub.eq_2⟩, ⟨@DL.wPar.eq_1, @DL.wPar3.eq_1⟩⟩⟩⟩, ⟨⟨⟨@DL.wAugI.eq_1, ⟨@DL.wApp.eq_1, @DL.wExt.eq_1⟩⟩, ⟨⟨@DL.wPop.eq_1, @DL.wSlT.eq_1⟩, ⟨@DL.wSlL.eq_1, @DL.wNoPart.eq_1⟩⟩⟩, ⟨⟨⟨@DL.wPart.eq_1, @DL.wCall.eq_1⟩, ⟨@DL.wCallO.eq_1, @DL.gEq.eq_1⟩⟩, ⟨⟨@DL.gNe.eq_1, @DL.wIList.eq_1⟩, ⟨@DL.wITup.eq_1, @DL.wIRng1.eq_1⟩⟩⟩⟩⟩⟩, ⟨⟨⟨⟨⟨@DL.wIRng2.eq_1, ⟨@DL.wIEnumT.eq_1, @DL.wIEnum.eq_1⟩⟩, ⟨⟨@DL.wIZip.eq_1, @DL.cont_dat⟩, ⟨@DL.cont_lst, @DL.cont_own⟩⟩⟩, ⟨⟨@DL.contS_dat, ⟨@DL.contS_lst, @DL.ob1_some⟩⟩, ⟨⟨@DL.ob1_none, @DL.wYes.eq_1⟩, ⟨@DL.wNotT.eq_1, @DL.wNotV.eq_1⟩⟩⟩⟩, ⟨⟨⟨@DL.wNext.eq_1, ⟨@DL.wNever.eq_1, @DL.wBreak.eq_1⟩⟩, ⟨⟨@DL.wCont.eq_1, @DL.wRetN.eq_1⟩, ⟨@DL.shaped_int, @DL.shaped_str⟩⟩⟩, ⟨⟨⟨@DL.shaped_bool, @DL.shaped_none⟩, ⟨@DL.eqv_int, @DL.eqv_str⟩⟩, ⟨⟨@DL.eqv_bool, @DL.eqv_nn⟩, ⟨@DL.shaped_nil, @DL.shaped_nilT⟩⟩⟩⟩⟩, ⟨⟨⟨⟨@DL.eqv_lnil, ⟨@DL.eqv_tnil, @DL.retP_nx⟩⟩, ⟨⟨@DL.retP_rtD, @DL.retP_rtO⟩, ⟨@DL.outs_nil, @DL.outs_cons⟩⟩⟩, ⟨⟨@DL.out1_dat, ⟨@DL.out1_none, @DL.out1_ob⟩⟩, ⟨⟨@DL.out0.eq_1, @DL.out0.eq_2⟩, ⟨@DL.dats.eq_1, @DL.notOwn_dat⟩⟩⟩⟩, ⟨⟨⟨@DL.notOwn_ob, ⟨@DL.isT.eq_1, @DL.wipeE.eq_1⟩⟩, ⟨⟨@DL.wipeE.eq_2, @DL.back.eq_1⟩, ⟨@DL.back.eq_2, @DL.cast_0⟩⟩⟩, ⟨⟨⟨@DL.cast_1, @DL.cast_2⟩, ⟨@DL.cast_3, @DL.cast_4⟩⟩, ⟨⟨@DL.cast_5, @DL.cast_6⟩, ⟨@DL.cast_7, @DL.cast_8⟩⟩⟩⟩⟩⟩⟩⟩
end DL


set_option Elab.async false
set_option linter.all false
set_option maxRecDepth 100000
set_option maxHeartbeats 4000000
/-! enumerate(str) in a for, over the hand layer -/
namespace TG
open PySem PySem.Spec PyProof.Rows L2
/-- the signs of a text at each turn, each in a new pair -/
def IteS (z : Str) : It :=
  ⟨fun i H => i < z.cps.size, fun i H v H' => ∃ T c, v = .ref T ∧ H T = none ∧ H' = upd H T (.tup [.int (i : Nat), .str ⟨#[c]⟩]) ∧ z.cps[i]? = some c, fun i H => z.cps.size = i⟩
theorem strIter_at {h h' : Heap} {a : Addr} {ty : String} {x : Str} {t : Tok} {i : Nat} (y : h.IsStrIter a ty x t i) (k : ∀ o, h.get? a = some o → h'.get? a = some o) : h'.IsStrIter a ty x t i :=
  let ⟨o, ho, r⟩ := y; ⟨o, k o ho, r⟩
theorem drawsS {prog : Program} {w : World} {A : Around} (hh : A.handled = none) (it : Addr) (x : Str) (t : Tok) (ty : String) (hty : ty = "str_ascii_iterator" ∨ ty = "str_iterator") :
    Draws prog w A it [it] x.cps.size (fun i v => ∃ c u, x.cps[i]? = some c ∧ v = .str ⟨#[c]⟩ u) (fun i h => h.IsStrIter it ty x t i) := by
  rcases hty with e | e
  · rw [e]; exact Draws.strAscii hh it x t
  · rw [e]; exact Draws.strWide hh it x t
theorem turn_enumS {P : Program} {w : World} {K : PySem.W.Frag} {elts : List Expr} {kk : Nat} {tpos : Pos} (e it : Addr) (x : Str) (t : Tok) (ty : String) (hty : ty = "str_ascii_iterator" ∨ ty = "str_iterator") :
    Turn P w K (.Tuple elts kk tpos) (IteS x) [e, it] e (fun i h => (∃ old, IsEnum h e it ((i : Nat) : Int) old) ∧ h.IsStrIter it ty x t i ∧ e ≠ it) where
  mem := by simp
  obj := fun i h st b hb => by
    obtain ⟨⟨old, he⟩, ⟨o, ho, hc, hd⟩, _⟩ := st
    have e' : b = e ∨ b = it := by simpa using hb
    rcases e' with z | z
    · rw [z]; exact ⟨_, he, fun v q => nomatch q⟩
    · rw [z]; exact ⟨o, ho, fun v q => by rw [hd] at q; cases q⟩
  keep := fun i h h' st k => let ⟨⟨old, he⟩, hi, hne⟩ := st; ⟨⟨old, k e (by simp) _ he⟩, strIter_at hi fun o q => k it (by simp) o q, hne⟩
  item := by
    intro X hP hw hK hc i pins s σ H E I hf st hg
    subst hP hw hK
    obtain ⟨⟨old, he⟩, hit, hne⟩ := st
    have hel : e < s.heap.objs.size := Heap.lt_size he
    have hil : it < s.heap.objs.size := by obtain ⟨_, q, _⟩ := hit; exact Heap.lt_size q
    have D := drawsS (prog := X.prog) (w := X.w) (A := X.A.in1) (I.ok.hd hc) it x t ty hty
    refine wpAny_pyNext_enum_itemD D he hit hg hne (by simp [hne]) fun x' h' tk hP' ho hit' hT hsz hk => ?_
    obtain ⟨c, u, hcx, rfl⟩ := hP'
    refine ⟨_, rfl, wpAny_letOwnedTupleGo_enum (s := { s with heap := h', toks := tk + 1 }) ho fun h'' he' sb => ?_⟩
    have hT2 : h''.get? s.heap.objs.size = some { cls := .type "tuple", data := .seq #[.int i tk, .str ⟨#[c]⟩ u] } := (sb.2 _ (Nat.ne_of_gt hel)).trans hT
    have new : ObjOk X.prog X.w (upd H s.heap.objs.size (.tup [.int (i : Nat), .str ⟨#[c]⟩])) h'' s.heap.objs.size (.tup [.int (i : Nat), .str ⟨#[c]⟩]) :=
      ⟨by show 2 ≤ sizeLine; decide, [.int i tk, .str ⟨#[c]⟩ u], .cons ⟨_, rfl⟩ (.cons ⟨_, rfl⟩ .nil), ⟨_, hT2, rfl, _, rfl⟩⟩
    have I1 : Inv X pins σ (upd H s.heap.objs.size (.tup [.int (i : Nat), .str ⟨#[c]⟩])) { s with heap := h'', toks := tk + 1 } :=
      I.turnedNew (ch := [e, it]) (fun b ob hb q => (sb.2 b (fun z => hb (by simp [z]))).trans (hk b ob (fun z => hb (by simp [z])) (fun z => hb (by simp [z])) q)) hf (Nat.le_refl _) new
    refine ⟨.ref s.heap.objs.size, _, I1, rfl, ⟨_, c, rfl, I.hok.fresh (Nat.le_refl _), rfl, hcx⟩, ⟨⟨.str ⟨#[c]⟩ u, ?_⟩, strIter_at hit' fun o q => (sb.2 it (Ne.symm hne)).trans q, hne⟩, fun b hb => ?_⟩
    · have e1 : ((i + 1 : Nat) : Int) = (i : Int) + 1 := by omega
      rw [e1]; exact he'
    · have hb' : b < s.heap.objs.size := by
        have e' : b = e ∨ b = it := by simpa using hb
        rcases e' with z | z
        · rw [z]; exact hel
        · rw [z]; exact hil
      rw [upd_ne (Nat.ne_of_lt hb')]
      exact (hf b hb).1
  done := by
    intro X hP hw hK hc i pins s σ H E I hf st hg
    subst hP hw hK
    obtain ⟨⟨old, he⟩, hit, hne⟩ := st
    obtain ⟨f0, f1, f2, f3, f4, f5⟩ := hf it (by simp)
    have D := drawsS (prog := X.prog) (w := X.w) (A := X.A.in1) (I.ok.hd hc) it x t ty hty
    have hi : x.cps.size = i := hg
    rw [← hi] at hit
    exact wpAny_pyNext_enum_endD D he hit fun h' eb => ⟨rfl, I.turned (t' := s.toks) (fun b o hb q => eb b o hb q) f0 f1 f3 f4 f5⟩
  self := fun A i s Q E st h => let ⟨⟨_, he⟩, _⟩ := st; wpAny_pyIter_enum he h
def iEnumS (ta : TA) : TI := fun σ H R => ta σ H fun vs H1 => ∃ z, vs = [.str z] ∧ R (IteS z) H1
theorem pi_enumS {X : Cx} {e : Expr} {ta : TA} {p pos tpos : Pos} {elts : List Expr} {kk : Nat} (hg : Gl X "enumerate") (hm : X.mg "enumerate" = none) (ha : PA X [e] ta) (hs : starEach [e] X.env = [(false, eval e X.env)] := by rfl) :
    PI X (.Tuple elts kk tpos) (.Call (.Name "enumerate" p) [e] [] pos) (iEnumS ta) := by
  refine ⟨fun pins s σ H R I h => ?_⟩
  refine Call_ (ld_blt I hg hm boot_enumerate (PyProof.Rows.callWith_type1 (thn (ha.run pos pins s σ H _ I h) fun us s1 ⟨vs, H1, I1, r1, q1⟩ => ?_) hs rfl))
  obtain ⟨z, ex, q⟩ := q1
  subst ex
  cases r1 with
  | cons r rr =>
    cases rr
    obtain ⟨t, rfl⟩ := r
    refine call_enumerate_str fun h' he hit hsz hk => wpAny_pyIter_enum he ?_
    have I2 : Inv X pins σ H1 { s1 with heap := h' } := I1.kept (t' := s1.toks) hk
    have hty : strIterType z = "str_ascii_iterator" ∨ strIterType z = "str_iterator" := by
      unfold strIterType
      split
      · exact .inl rfl
      · exact .inr rfl
    refine ⟨s1.heap.objs.size + 1, [s1.heap.objs.size + 1, s1.heap.objs.size], _, _, H1, rfl, I2, turn_enumS (s1.heap.objs.size + 1) s1.heap.objs.size z t (strIterType z) hty, ⟨⟨.none, he⟩, hit, Nat.succ_ne_self _⟩, fun b hb => ?_, q⟩
    have e' : b = s1.heap.objs.size + 1 ∨ b = s1.heap.objs.size := by simpa using hb
    have hle : s1.heap.objs.size ≤ b := by
      rcases e' with z | z
      · rw [z]; exact Nat.le_add_right _ _
      · rw [z]; exact Nat.le_refl _
    exact I1.fpOk hle (I1.hok.fresh hle)
end TG


set_option Elab.async false
set_option linter.all false
set_option maxRecDepth 100000
set_option maxHeartbeats 4000000
/-! Strings in the layer; calls of built-ins of two ints; a datum of the top. -/
namespace DL
open PySem L2 TG
variable {f : Fr} {te : TE} {E : WE}
def gAddS (d1 d2 : PyData) (P : Vl → Prop) : Prop := match d1, d2 with
  | .str i, .str j => i.length + j.length ≤ sizeLine ∧ P (.dat (.str (i ++ j)))
  | _, _ => False
theorem eAddS {i j : Str} {P : Vl → Prop} : gAddS (.str i) (.str j) P = (i.length + j.length ≤ sizeLine ∧ P (.dat (.str (i ++ j)))) := rfl
theorem sr_addS : SR f (fun x y H Q => ∃ i j, x = .str i ∧ y = .str j ∧ i.length + j.length ≤ sizeLine ∧ Q (.str (i ++ j)) H) gAddS := ⟨fun {L W e σ Hz H x y d1 d2 Post Q} r1 r2 s h k => by
  unfold gAddS at h
  split at h
  · cases r1
    cases r2
    exact ⟨_, _, rfl, rfl, h.1, k _ _ _ _ h.2 same_refl s (Dp.str _)⟩
  · exact h.elim⟩
def gInS (neg : Bool) (d1 d2 : PyData) (P : Vl → Prop) : Prop := match d1, d2 with
  | .str x, .str z => ∃ c, x = ⟨#[c]⟩ ∧ P (.dat (.bool (if neg then !decide (c ∈ z.cps.toList) else decide (c ∈ z.cps.toList))))
  | _, _ => False
theorem eInS {neg : Bool} {x z : Str} {P : Vl → Prop} : gInS neg (.str x) (.str z) P = (∃ c, x = ⟨#[c]⟩ ∧ P (.dat (.bool (if neg then !decide (c ∈ z.cps.toList) else decide (c ∈ z.cps.toList))))) := rfl
theorem sr_inS : SR f (fun x y H Q => ∃ (c : Nat) (z : Str), x = .str ⟨#[c]⟩ ∧ y = .str z ∧ Q (.bl (decide (c ∈ z.cps.toList))) H) (gInS false) := ⟨fun {L W e σ Hz H x y d1 d2 Post Q} r1 r2 s h k => by
  unfold gInS at h
  split at h
  · obtain ⟨c, rfl, h⟩ := h
    cases r1
    cases r2
    exact ⟨_, _, rfl, rfl, k _ _ _ _ h same_refl s (Dp.bl _)⟩
  · exact h.elim⟩
theorem sr_notInS : SR f (fun x y H Q => ∃ (c : Nat) (z : Str), x = .str ⟨#[c]⟩ ∧ y = .str z ∧ Q (.bl (!decide (c ∈ z.cps.toList))) H) (gInS true) := ⟨fun {L W e σ Hz H x y d1 d2 Post Q} r1 r2 s h k => by
  unfold gInS at h
  split at h
  · obtain ⟨c, rfl, h⟩ := h
    cases r1
    cases r2
    exact ⟨_, _, rfl, rfl, k _ _ _ _ h same_refl s (Dp.bl _)⟩
  · exact h.elim⟩
def gLenS (d : PyData) (P : Vl → Prop) : Prop := match d with
  | .str z => z.length ≤ sizeLine ∧ P (.dat (.int z.length))
  | _ => False
theorem eLenS {z : Str} {P : Vl → Prop} : gLenS (.str z) P = (z.length ≤ sizeLine ∧ P (.dat (.int z.length))) := rfl
theorem sc_lenS : SC f (fun xs H Q => ∃ z, xs = [.str z] ∧ z.length ≤ sizeLine ∧ Q (.int z.length) H) gLenS := ⟨fun {L W e σ Hz H x d Post Q} r s h k => by
  unfold gLenS at h
  split at h
  · cases r
    exact ⟨_, rfl, h.1, k _ _ _ _ h.2 same_refl s (Dp.int _)⟩
  · exact h.elim⟩
def wSlS (E : WE) (A B : WO) (e : En) (P : Vl → En → Prop) : Prop := wFz E e fun d e1 => A e1 fun lo e2 => B e2 fun hi e3 => match d with
  | .str z => z.length ≤ sizeLine ∧ P (.dat (.str (cutS z lo hi))) e3
  | _ => False
theorem se_slS {tl th : TO} {A B : WO} (h : SE f te E) (hl : SO f tl A) (hh : SO f th B) : SE f (tSl rSlS te tl th) (wSlS E A B) := ⟨fun {L W e σ Hz H Post Q} w y k =>
  fz_run h w y fun d e1 v Hz1 H1 w1 s1 y1 d1 => hl.run w1 y1 fun lo e2 Hz2 H2 w2 s2 y2 => hh.run w2 y2 fun hi e3 Hz3 H3 w3 s3 y3 => by
    split at w3
    · cases d1
      exact ⟨_, rfl, w3.1, k _ _ _ _ _ w3.2 (same_trans s1 (same_trans s2 s3)) y3 (Dp.str _)⟩
    · exact w3.elim⟩
/-- a built-in of two ints -/
def wI2 (g : Int → Int → V) (A : WA) (e : En) (P : Vl → En → Prop) : Prop := A e fun ds e1 => match ds with
  | [.int i, .int j] => P (.dat (vD (g i j))) e1
  | _ => False
theorem se_cbI2 {r : List V → Hp → VK → Prop} {g : Int → Int → V} {ta : TA} {A : WA} (hr : ∀ i j H Q, Q (g i j) H → r [.int i, .int j] H Q) (hg : ∀ i j, scV (g i j) = true) (h : SA f ta A) : SE f (tCB r ta) (wI2 g A) := ⟨fun {L W e σ Hz H Post Q} w y k => h.run w y fun ds e1 vs Hz1 H1 h1 s1 y1 d1 => by
  split at h1
  · cases d1 with
    | cons a1 a2 =>
      cases a1
      cases a2 with
      | cons b1 b2 =>
        cases b1
        cases b2
        exact hr _ _ _ _ (k _ _ _ _ _ h1 s1 y1 (dp_sc (hg _ _)))
  · exact h1.elim⟩
def gMx (i j : Int) : V := .int (if j > i then j else i)
def gMn (i j : Int) : V := .int (if j < i then j else i)
def gGcd (i j : Int) : V := .int ((Nat.gcd i.natAbs j.natAbs : Nat) : Int)
theorem se_max2 {ta : TA} {A : WA} (h : SA f ta A) : SE f (tCB (fun xs H Q => ∃ i j, xs = [.int i, .int j] ∧ Q (.int (if j > i then j else i)) H) ta) (wI2 gMx A) := se_cbI2 (fun i j H Q q => ⟨i, j, rfl, q⟩) (fun _ _ => rfl) h
theorem se_min2 {ta : TA} {A : WA} (h : SA f ta A) : SE f (tCB (fun xs H Q => ∃ i j, xs = [.int i, .int j] ∧ Q (.int (if j < i then j else i)) H) ta) (wI2 gMn A) := se_cbI2 (fun i j H Q q => ⟨i, j, rfl, q⟩) (fun _ _ => rfl) h
theorem se_gcd {ta : TA} {A : WA} (h : SA f ta A) : SE f (tCB rGcd ta) (wI2 gGcd A) := se_cbI2 (fun i j H Q q => ⟨i, j, rfl, q⟩) (fun _ _ => rfl) h
theorem evd_mx {i j : Int} : vD (gMx i j) = .int (if j > i then j else i) := rfl
theorem evd_mn {i j : Int} : vD (gMn i j) = .int (if j < i then j else i) := rfl
theorem evd_gcd {i j : Int} : vD (gGcd i j) = .int ((Nat.gcd i.natAbs j.natAbs : Nat) : Int) := rfl
/-- a datum that stands in the top -/
theorem se_gd {v : V} {d : PyData} (h : ∀ H, Dp f.K H v d) : SE f (tC v) (wC d) := ⟨fun w y k => k _ _ _ _ _ w same_refl y (h _)⟩
/-- the signs of a text -/
def sgD (z : Str) : List PyData := z.cps.toList.map fun c => .str ⟨#[c]⟩
theorem sgD_len (z : Str) : (sgD z).length = z.cps.size := by simp [sgD]
theorem sgD_get {z : Str} {i : Nat} {d : PyData} (h : (sgD z)[i]? = some d) : ∃ c, z.cps[i]? = some c ∧ d = .str ⟨#[c]⟩ := by
  unfold sgD at h
  rw [List.getElem?_map] at h
  cases hc : z.cps.toList[i]? with
  | none => rw [hc] at h; cases h
  | some c => rw [hc] at h; cases h; exact ⟨c, by rw [← hc]; simp, rfl⟩
theorem walk_str {K : PySem.W.Frag} {Hz : Hp} (z : Str) : Walk K (Its z) Hz (sgD z) where
  stop := fun H s => by show z.cps.size ≤ _; rw [sgD_len]; exact Nat.le_refl _
  go := fun i H hi s => by rw [sgD_len] at hi; exact hi
  yld := fun i H x H' d s y e => by
    obtain ⟨rfl, c, hc, rfl⟩ := y
    obtain ⟨c', hc', rfl⟩ := sgD_get e
    rw [hc] at hc'
    cases hc'
    exact .inl ⟨rfl, Dp.str _⟩
theorem walk_enumS {K : PySem.W.Frag} {Hz : Hp} (z : Str) : Walk K (IteS z) Hz (enumD (sgD z)) where
  stop := fun H s => by show z.cps.size = _; rw [enumD_len, sgD_len]
  go := fun i H hi s => by rw [enumD_len, sgD_len] at hi; exact hi
  yld := fun i H x H' d s y e => by
    obtain ⟨T, c, rfl, h1, rfl, hc⟩ := y
    obtain ⟨dx, e1, rfl⟩ := enumD_get e
    obtain ⟨c', hc', rfl⟩ := sgD_get e1
    rw [hc] at hc'
    cases hc'
    exact .inr ⟨T, _, _, rfl, h1, rfl, rfl, .cons (.int _) (.cons (Dp.str _) .nil)⟩
def wIStr (E : WE) (e : En) (P : List PyData → En → Prop) : Prop := wFz E e fun d e1 => match d with
  | .str z => P (sgD z) e1
  | _ => False
theorem si_str (h : SE f te E) : SI f (iStr te) (wIStr E) := ⟨fun {L W e σ Hz H Post R} w y k => fz_run h w y fun d e1 v Hz1 H1 h1 s1 y1 d1 => by
  split at h1
  · cases d1
    exact ⟨_, rfl, k _ _ _ _ _ h1 s1 y1 (walk_str _)⟩
  · exact h1.elim⟩
def wIEnumS (E : WE) (e : En) (P : List PyData → En → Prop) : Prop := wFz E e fun d e1 => match d with
  | .str z => P (enumD (sgD z)) e1
  | _ => False
theorem si_enumS (h : SE f te E) : SI f (iEnumS (tCons te tNil)) (wIEnumS E) := ⟨fun {L W e σ Hz H Post R} w y k => fz_run h w y fun d e1 v Hz1 H1 h1 s1 y1 d1 => by
  split at h1
  · cases d1
    exact ⟨_, rfl, k _ _ _ _ _ h1 s1 y1 (walk_enumS _)⟩
  · exact h1.elim⟩
end DL


set_option linter.all false
set_option maxRecDepth 100000
set_option maxHeartbeats 4000000
/-! Values of stalks in 1024ths; dyadics in 64ths; plain. -/
namespace SK
/-! ### lowest terms -/
def gc (n : Int) : Nat := Nat.gcd n.natAbs 1024
theorem gc_pos (n : Int) : 0 < gc n := Nat.gcd_pos_of_pos_right _ (by decide)
def loN (n : Int) : Int := n / (gc n : Int)
def loQ (n : Int) : Int := 1024 / (gc n : Int)
theorem gc_dvd (n : Int) : ((gc n : Nat) : Int) ∣ n := Int.ofNat_dvd_left.mpr (Nat.gcd_dvd_left _ _)
theorem gc_dvd' (n : Int) : ((gc n : Nat) : Int) ∣ 1024 := Int.ofNat_dvd_left.mpr (Nat.gcd_dvd_right n.natAbs 1024)
theorem loN_mul (n : Int) : loN n * (gc n : Int) = n := Int.ediv_mul_cancel (gc_dvd n)
theorem loQ_mul (n : Int) : loQ n * (gc n : Int) = 1024 := Int.ediv_mul_cancel (gc_dvd' n)
theorem loQ_pos (n : Int) : 0 < loQ n := by
  have h := loQ_mul n
  have hg : (0 : Int) < gc n := by have := gc_pos n; omega
  refine Int.lt_of_not_ge fun hn => ?_
  have := Int.mul_nonpos_of_nonpos_of_nonneg hn (Int.le_of_lt hg)
  omega
theorem lo_cross (n m : Int) : loN n * loQ m * ((gc n : Int) * (gc m : Int)) = n * 1024 := by
  have h1 := loN_mul n
  have h2 := loQ_mul m
  calc loN n * loQ m * ((gc n : Int) * (gc m : Int)) = (loN n * (gc n : Int)) * (loQ m * (gc m : Int)) := by ac_rfl
    _ = n * 1024 := by rw [h1, h2]
theorem lo_lt (n m : Int) : loN n * loQ m < loN m * loQ n ↔ n < m := by
  have hg : (0 : Int) < (gc n : Int) * (gc m : Int) := Int.mul_pos (by have := gc_pos n; omega) (by have := gc_pos m; omega)
  have h1 := lo_cross n m
  have h2 := lo_cross m n
  rw [Int.mul_comm (gc m : Int)] at h2
  constructor
  · intro h
    have := Int.mul_lt_mul_of_pos_right h hg
    rw [h1, h2] at this
    omega
  · intro h
    refine Int.lt_of_mul_lt_mul_right (a := (gc n : Int) * (gc m : Int)) ?_ (Int.le_of_lt hg)
    rw [h1, h2]
    omega
theorem lo_inj {n m : Int} (h1 : loN n = loN m) (h2 : loQ n = loQ m) : n = m := by
  have a := lo_lt n m
  have b := lo_lt m n
  rw [h1, h2] at a b
  have : ¬ n < m := fun c => Int.lt_irrefl _ (a.mpr c)
  have : ¬ m < n := fun c => Int.lt_irrefl _ (b.mpr c)
  omega
/-- a fraction of the value n / 1024 in lowest terms -/
theorem lo_of {t b n : Int} (hb : 0 < b) (h : t * 1024 = n * b) : t / ((Nat.gcd t.natAbs b.natAbs : Nat) : Int) = loN n ∧ b / ((Nat.gcd t.natAbs b.natAbs : Nat) : Int) = loQ n := by
  have e1 : mkRat t b.natAbs = mkRat n 1024 := by
    rw [Rat.mkRat_eq_iff (by omega) (by decide)]
    have : ((b.natAbs : Nat) : Int) = b := by omega
    rw [this]
    exact h
  have num : ∀ (t : Int) (b : Nat), b ≠ 0 → (mkRat t b).num = t / ((Nat.gcd t.natAbs b : Nat) : Int) ∧ ((mkRat t b).den : Int) = (b : Int) / ((Nat.gcd t.natAbs b : Nat) : Int) := fun t b hb => by
    rw [← Rat.normalize_eq_mkRat hb, Rat.normalize_eq]
    exact ⟨rfl, by show ((b / _ : Nat) : Int) = _; rw [Int.natCast_ediv]⟩
  have n1 := num t b.natAbs (by omega)
  have n2 := num n 1024 (by decide)
  rw [e1] at n1
  have hbb : ((b.natAbs : Nat) : Int) = b := by omega
  rw [hbb] at n1
  exact ⟨n1.1.symm.trans n2.1, n1.2.symm.trans n2.2⟩
/-! ### the value -/
def sg (b : Bool) : Int := if b then 1 else -1
def t2 : Nat → List Bool → Int
  | _, [] => 0
  | h, b :: r => sg b * (2 ^ h : Nat) + t2 (h - 1) r
def t1 (c : Bool) : List Bool → Int
  | [] => 0
  | b :: r => if b = c then sg b * 1024 + t1 c r else sg b * 512 + t2 8 r
def t0 : List Bool → Int
  | [] => 0
  | b :: r => sg b * 1024 + t1 b r
theorem t2_lt : ∀ (k : Nat) (l : List Bool), l.length ≤ k + 1 → t2 k l < (2 ^ (k + 1) : Nat) ∧ -((2 ^ (k + 1) : Nat) : Int) < t2 k l
  | k, [], _ => by have : 0 < 2 ^ (k + 1) := Nat.pow_pos (by decide); unfold t2; omega
  | 0, [b], _ => by cases b <;> decide
  | 0, b :: c :: r, h => by simp at h
  | k + 1, b :: r, h => by
    have ih := t2_lt k r (by simpa using h)
    unfold t2
    rw [Nat.add_sub_cancel, Nat.pow_succ 2 (k + 1)]
    generalize 2 ^ (k + 1) = N at *
    cases b <;> unfold sg <;> simp <;> omega
theorem t1_lt : ∀ (c : Bool) (l : List Bool), l.length ≤ 9 → -1024 < sg c * t1 c l
  | c, [], _ => by unfold t1; omega
  | c, b :: r, h => by
    unfold t1
    by_cases e : b = c
    · subst e
      have ih := t1_lt b r (by simp at h; omega)
      rw [if_pos rfl]
      cases b <;> simp [sg] at ih ⊢ <;> omega
    · rw [if_neg e]
      have ih := t2_lt 8 r (by simp at h; omega)
      cases b <;> cases c <;> simp [sg] at e ih ⊢ <;> omega
theorem t2_sg {k : Nat} {b : Bool} {r : List Bool} (h : r.length ≤ k) : 0 < sg b * t2 k (b :: r) := by
  unfold t2
  cases k with
  | zero =>
    have : r = [] := List.length_eq_zero_iff.mp (by omega)
    subst this
    cases b <;> decide
  | succ k =>
    have ih := t2_lt k r h
    rw [Nat.add_sub_cancel]
    generalize 2 ^ (k + 1) = N at *
    cases b <;> simp [sg] <;> omega
theorem t1_sg {c b : Bool} {r : List Bool} (h : r.length ≤ 8) : 0 < sg b * t1 c (b :: r) := by
  unfold t1
  by_cases e : b = c
  · subst e
    have ih := t1_lt b r (by omega)
    rw [if_pos rfl]
    cases b <;> simp [sg] at ih ⊢ <;> omega
  · rw [if_neg e]
    have ih := t2_lt 8 r (by omega)
    cases b <;> simp [sg] <;> omega
theorem t0_sg {b : Bool} {r : List Bool} (h : r.length ≤ 9) : 0 < sg b * t0 (b :: r) := by
  unfold t0
  have ih := t1_lt b r h
  cases b <;> simp [sg] at ih ⊢ <;> omega
/-! ### the order -/
def abv : List Bool → List Bool → Bool
  | [], [] => false
  | b :: _, [] => b
  | [], b :: _ => !b
  | a :: r, b :: s => if a = b then abv r s else a
def Ord (f : List Bool → Int) (m : Nat) : Prop := ∀ x y : List Bool, x.length ≤ m → y.length ≤ m → (f x = f y ↔ x = y) ∧ (f y < f x ↔ abv x y = true)
/-- one letter apart -/
theorem ord_of {f : List Bool → Int} {m : Nat} (h0 : f [] = 0) (hs : ∀ b r, (b :: r).length ≤ m → 0 < sg b * f (b :: r)) (hc : ∀ b r s, (b :: r).length ≤ m → (b :: s).length ≤ m → (f (b :: r) = f (b :: s) ↔ r = s) ∧ (f (b :: s) < f (b :: r) ↔ abv r s = true)) : Ord f m := fun x y hx hy => by
  have pos : ∀ r, (true :: r).length ≤ m → 0 < f (true :: r) := fun r h => by have := hs true r h; simp [sg] at this; exact this
  have neg : ∀ r, (false :: r).length ≤ m → f (false :: r) < 0 := fun r h => by have := hs false r h; simp [sg] at this; omega
  match x, y with
  | [], [] => simp [abv]
  | [], true :: s => have := pos s hy; rw [h0]; simp [abv]; omega
  | [], false :: s => have := neg s hy; rw [h0]; simp [abv]; omega
  | true :: r, [] => have := pos r hx; rw [h0]; simp [abv]; omega
  | false :: r, [] => have := neg r hx; rw [h0]; simp [abv]; omega
  | true :: r, false :: s => have := pos r hx; have := neg s hy; simp [abv]; omega
  | false :: r, true :: s => have := neg r hx; have := pos s hy; simp [abv]; omega
  | true :: r, true :: s => simpa [abv] using hc true r s hx hy
  | false :: r, false :: s => simpa [abv] using hc false r s hx hy
theorem ord2 : ∀ k : Nat, Ord (t2 k) (k + 1)
  | 0 => ord_of rfl (fun b r h => t2_sg (by simpa using h)) fun b r s hr hs => by
    have e1 : r = [] := List.length_eq_zero_iff.mp (by simpa using hr)
    have e2 : s = [] := List.length_eq_zero_iff.mp (by simpa using hs)
    subst e1 e2
    simp [abv]
  | k + 1 => ord_of rfl (fun b r h => t2_sg (by simpa using h)) fun b r s hr hs => by
    have ih := ord2 k r s (by simpa using hr) (by simpa using hs)
    unfold t2
    rw [Nat.add_sub_cancel, ← ih.1, ← ih.2]
    omega
theorem ord1 (c : Bool) : ∀ m : Nat, m ≤ 9 → Ord (t1 c) m
  | 0, _ => fun x y hx hy => by
    have e1 : x = [] := List.length_eq_zero_iff.mp (by omega)
    have e2 : y = [] := List.length_eq_zero_iff.mp (by omega)
    subst e1 e2
    simp [abv]
  | m + 1, hm => ord_of rfl (fun b r h => t1_sg (by simp at h; omega)) fun b r s hr hs => by
    unfold t1
    by_cases e : b = c
    · rw [if_pos e, if_pos e]
      have ih := ord1 c m (by omega) r s (by simpa using hr) (by simpa using hs)
      rw [← ih.1, ← ih.2]
      omega
    · rw [if_neg e, if_neg e]
      have ih := ord2 8 r s (by simp at hr; omega) (by simp at hs; omega)
      rw [← ih.1, ← ih.2]
      omega
theorem ord0 : Ord t0 10 := ord_of rfl (fun b r h => t0_sg (by simpa using h)) fun b r s hr hs => by
  simp only [t0]
  have ih := ord1 b 9 (by decide) r s (by simpa using hr) (by simpa using hs)
  rw [← ih.1, ← ih.2]
  omega
end SK


set_option linter.all false
set_option maxRecDepth 100000
set_option maxHeartbeats 4000000
/-! Forms of dyadics, their heights; the stalk that is found step by step; facts of the dyadics in 64ths from -8 to 8. -/
namespace SK
inductive Nf where
  | z : Nf
  | l (x : Nf) : Nf
  | r (x : Nf) : Nf
  | b (x y : Nf) : Nf
def hN : Nf → Nat
  | .z => 0
  | .l x => hN x + 1
  | .r x => hN x + 1
  | .b x y => max (hN x) (hN y) + 1
def itN (pos : Bool) : Nat → Nf
  | 0 => .z
  | k + 1 => if pos then .l (itN pos k) else .r (itN pos k)
theorem hN_it (pos : Bool) : ∀ k, hN (itN pos k) = k
  | 0 => rfl
  | k + 1 => by
    unfold itN
    cases pos <;> simp [hN, hN_it]
def red : Nat → Int → Int × Nat
  | 0, n => (n, 0)
  | a + 1, n => if n % 2 = 0 then red a (n / 2) else (n, a + 1)
theorem red_ok : ∀ (a : Nat) (n : Int), (red a n).2 ≤ a ∧ ((red a n).2 = 0 ∨ (red a n).1 % 2 = 1) ∧ (red a n).1.natAbs ≤ n.natAbs
  | 0, n => ⟨Nat.le_refl _, .inl rfl, Nat.le_refl _⟩
  | a + 1, n => by
    unfold red
    split
    · have ih := red_ok a (n / 2)
      exact ⟨by omega, ih.2.1, by omega⟩
    · exact ⟨Nat.le_refl _, .inr (by dsimp only; omega), Nat.le_refl _⟩
def numN : Nat → Int → Nat → Nf
  | 0, p, _ => itN (decide (0 < p)) p.natAbs
  | f + 1, p, a => if a = 0 then itN (decide (0 < p)) p.natAbs else .b (numN f (red a (p - 1)).1 (red a (p - 1)).2) (numN f (red a (p + 1)).1 (red a (p + 1)).2)
def hgt : Nat → Int → Nat → Nat
  | 0, p, _ => p.natAbs
  | f + 1, p, a => if a = 0 then p.natAbs else max (hgt f (red a (p - 1)).1 (red a (p - 1)).2) (hgt f (red a (p + 1)).1 (red a (p + 1)).2) + 1
theorem hN_num : ∀ (f : Nat) (p : Int) (a : Nat), hN (numN f p a) = hgt f p a
  | 0, p, a => hN_it _ _
  | f + 1, p, a => by
    unfold numN hgt
    split
    · exact hN_it _ _
    · unfold hN
      rw [hN_num f, hN_num f]
def lrS : Nat → Int → Nat → Int × Nat
  | 0, n, e => (n, e)
  | k + 1, n, e => if n % 2 = 0 then lrS k (n / 2) (e - 1) else lrS k n e
def grd : Nat → List Bool → Int → Option (List Bool)
  | 0, _, _ => none
  | f + 1, s, n => if t0 s = n then some s else if s.length = 10 then none else grd f (s ++ [decide (t0 s < n)]) n
def okB (m : Int) : Bool :=
  let p := (lrS 6 m 6).1
  let a := (lrS 6 m 6).2
  decide (loN (16 * m) = p) && decide (loQ (16 * m) = ((2 ^ a : Nat) : Int)) && decide (a ≤ 6) && decide (Nat.gcd p.natAbs (2 ^ a) = 1) && decide (-(32 * ((2 ^ a : Nat) : Int)) ≤ p) && decide (p ≤ 32 * ((2 ^ a : Nat) : Int)) &&
  (decide (a = 0) || decide (p % 2 = 1)) && decide (hgt 6 p a < 20) &&
  match grd 11 [] (16 * m) with
  | none => decide (10 < hgt 6 p a)
  | some l => decide (l.length = hgt 6 p a) && decide (l.length ≤ 10)
theorem ok_all : (List.range 1025).all (fun k => okB ((k : Int) - 512)) = true := by decide +kernel
structure DyOk (m : Int) : Prop where
  n : loN (16 * m) = (lrS 6 m 6).1
  q : loQ (16 * m) = ((2 ^ (lrS 6 m 6).2 : Nat) : Int)
  a6 : (lrS 6 m 6).2 ≤ 6
  co : Nat.gcd (lrS 6 m 6).1.natAbs (2 ^ (lrS 6 m 6).2) = 1
  lo : -(32 * ((2 ^ (lrS 6 m 6).2 : Nat) : Int)) ≤ (lrS 6 m 6).1
  hi : (lrS 6 m 6).1 ≤ 32 * ((2 ^ (lrS 6 m 6).2 : Nat) : Int)
  od : (lrS 6 m 6).2 = 0 ∨ (lrS 6 m 6).1 % 2 = 1
  h20 : hgt 6 (lrS 6 m 6).1 (lrS 6 m 6).2 < 20
  no : grd 11 [] (16 * m) = none → 10 < hgt 6 (lrS 6 m 6).1 (lrS 6 m 6).2
  yes : ∀ l, grd 11 [] (16 * m) = some l → l.length = hgt 6 (lrS 6 m 6).1 (lrS 6 m 6).2 ∧ l.length ≤ 10
theorem dy_ok {m : Int} (h1 : -512 ≤ m) (h2 : m ≤ 512) : DyOk m := by
  have h := List.all_eq_true.mp ok_all (m + 512).toNat (List.mem_range.mpr (by omega))
  have e : (((m + 512).toNat : Nat) : Int) - 512 = m := by omega
  rw [e] at h
  unfold okB at h
  dsimp only at h
  simp only [Bool.and_eq_true, Bool.or_eq_true, decide_eq_true_eq] at h
  obtain ⟨⟨⟨⟨⟨⟨⟨⟨a1, a2⟩, a3⟩, a4⟩, a5⟩, a6⟩, a7⟩, a8⟩, a9⟩ := h
  refine ⟨a1, a2, a3, a4, a5, a6, a7, a8, fun hn => ?_, fun l hl => ?_⟩
  · rw [hn] at a9
    exact of_decide_eq_true a9
  · rw [hl] at a9
    simpa using a9
/-- what is found has the value -/
theorem grd_val : ∀ (f : Nat) (s : List Bool) (n : Int) (l : List Bool), grd f s n = some l → t0 l = n
  | 0, s, n, l, h => by cases h
  | f + 1, s, n, l, h => by
    unfold grd at h
    split at h
    · cases h; assumption
    · split at h
      · cases h
      · exact grd_val f _ n l h
end SK


set_option Elab.async false
set_option linter.all false
set_option maxRecDepth 100000
set_option maxHeartbeats 4000000
namespace K06D
open PySem L2 TG DL K06 SK
section
variable {P : Program} {w : World} {K : PySem.W.Frag} {mg : Str → Option Value} {base : Heap}
def nfD : Nf → PyData
  | .z => .tuple [.tuple [], .tuple []]
  | .l x => .tuple [.tuple [nfD x], .tuple []]
  | .r x => .tuple [.tuple [], .tuple [nfD x]]
  | .b x y => .tuple [.tuple [nfD x], .tuple [nfD y]]
theorem itT (i : Nat) : itN true (i + 1) = .l (itN true i) := rfl
theorem itF (i : Nat) : itN false (i + 1) = .r (itN false i) := rfl
def F_integer_form : FSp := fun args P => ∃ n : Int, args = [some (.dat (.int n))] ∧ (-3000 ≤ n ∧ n ≤ 3000) ∧ P (.dat (nfD (itN (decide (0 < n)) n.natAbs))) [none]
theorem ok_integer_form {k : Nat} (T : Txt K mg)  : FnOk P w K mg base CX0 (k + 1) T.a_integer_form T.d_integer_form ["number"] (spD K F_integer_form) := by
  refine T.F_integer_form.ok sc_integer_form (fun vs H Q E h => spD_len (fun args P hF => ?_) h) (fun cdv A outer s H vs Q E hr h => ⟨_, (pss_cons (ps_set (i := 1) sc_integer_form.nd rfl (Or.inl rfl) (pe_glob (v := T.v_ZERO) rfl T.c_ZERO T.r_ZERO))
  (pss_cons (ps_for PassesOwn.never rfl (pi_range1 rfl T.m_range (pa_cons (pe_callB call_abs rfl T.m_abs (by decide +kernel) (pa_cons (pv 0) pa_nil)) pa_nil)) (pg_name (i := 2) sc_integer_form.nd rfl (Or.inl rfl))
  (pss_one (ps_set (i := 1) sc_integer_form.nd rfl (Or.inl rfl) (pe_ifExp (pt_cmpR op_gt (pv 0) pe_int (nomark _)) (pe_tup (pa_cons (pe_tup (pa_cons (pv 1) pa_nil)) (pa_cons (pe_tup pa_nil) pa_nil))) (pe_tup (pa_cons (pe_tup pa_nil) (pa_cons (pe_tup (pa_cons (pv 1) pa_nil)) pa_nil)))))))
  (pss_one (ps_ret (pv 1))))), fn_run (N := ["number", "found", "at"]) h (fun A' Hz' => (ss_seq (ss_asg (se_gd T.q_ZERO) sg_name)
  (ss_seq (ss_for (si_rng1 (se_cb1 sc_abs se_var)) sg_name
  (ss_asg (se_if (st_test (se_op (sr_I0 (fun _ _ => rfl)) se_var se_int)) (se_tup (sa_cons (se_tup (sa_cons se_var sa_nil)) (sa_cons (se_tup sa_nil) sa_nil))) (se_tup (sa_cons (se_tup sa_nil) (sa_cons (se_tup (sa_cons se_var sa_nil)) sa_nil)))) sg_name))
  (ss_ret se_var)))) (fun args P hl hF => ?_)⟩)
  · obtain ⟨n, rfl, _⟩ := hF
    rfl
  obtain ⟨n, rfl, hn, hP⟩ := hF
  simp -implicitDefEqProofs only [DL.WW, List.isEmpty_nil, List.map, List.length, List.length_cons, List.length_nil, List.length_set, List.replicate, List.append, List.cons_append, List.nil_append, List.append_nil, List.getElem?_cons_zero, List.getElem?_cons_succ, List.getElem?_nil, List.set_cons_zero, List.set_cons_succ, ↓reduceIte, Bool.false_eq_true, Bool.not_true, Bool.not_false, Bool.true_and, Bool.false_and, Bool.and_true, Bool.and_false, Bool.or_true, Bool.or_false, Bool.true_or, Bool.false_or, Nat.reduceAdd, Nat.reduceSub, Nat.reduceLT, Nat.reduceLeDiff, true_and, and_true, and_self, decide_eq_true_eq, Nat.zero_lt_succ, Nat.lt_add_left_iff_pos, beq_self_eq_true, String.reduceBEq, String.reduceEq, Nat.le_refl, Nat.zero_le, Bool.true_eq_false, decide_true, decide_false, Int.reduceEq, Int.reduceLT, Int.reduceLE, Int.reduceSub, Int.reduceAdd, DL.wIfT, DL.wListRg, DL.eSortT, DL.eAddS, DL.eInS, DL.eLenS, DL.wSlS, DL.wI2, DL.evd_mx, DL.evd_mn, DL.evd_gcd, DL.wIStr, DL.wIEnumS]
  refine for_use ?_
  simp -implicitDefEqProofs only [DL.WW, List.isEmpty_nil, List.map, List.length, List.length_cons, List.length_nil, List.length_set, List.replicate, List.append, List.cons_append, List.nil_append, List.append_nil, List.getElem?_cons_zero, List.getElem?_cons_succ, List.getElem?_nil, List.set_cons_zero, List.set_cons_succ, ↓reduceIte, Bool.false_eq_true, Bool.not_true, Bool.not_false, Bool.true_and, Bool.false_and, Bool.and_true, Bool.and_false, Bool.or_true, Bool.or_false, Bool.true_or, Bool.false_or, Nat.reduceAdd, Nat.reduceSub, Nat.reduceLT, Nat.reduceLeDiff, true_and, and_true, and_self, decide_eq_true_eq, Nat.zero_lt_succ, Nat.lt_add_left_iff_pos, beq_self_eq_true, String.reduceBEq, String.reduceEq, Nat.le_refl, Nat.zero_le, Bool.true_eq_false, decide_true, decide_false, Int.reduceEq, Int.reduceLT, Int.reduceLE, Int.reduceSub, Int.reduceAdd, DL.wIfT, DL.wListRg, DL.eSortT, DL.eAddS, DL.eInS, DL.eLenS, DL.wSlS, DL.wI2, DL.evd_mx, DL.evd_mn, DL.evd_gcd, DL.wIStr, DL.wIEnumS]
  have hk : (if n < 0 then -n else n).toNat = n.natAbs := by split <;> omega
  have hk2 : -3000 ≤ (if n < 0 then -n else n) ∧ (if n < 0 then -n else n) ≤ 3000 := by split <;> omega
  refine ⟨⟨by omega, by omega⟩, fun i e => ∃ z, e = [some (.dat (.int n)), some (.dat (nfD (itN (decide (0 < n)) i))), z], ⟨none, rfl⟩, ?_, ?_⟩
  · rintro i d e hd ⟨z, rfl⟩
    simp -implicitDefEqProofs only [DL.WW, List.isEmpty_nil, List.map, List.length, List.length_cons, List.length_nil, List.length_set, List.replicate, List.append, List.cons_append, List.nil_append, List.append_nil, List.getElem?_cons_zero, List.getElem?_cons_succ, List.getElem?_nil, List.set_cons_zero, List.set_cons_succ, ↓reduceIte, Bool.false_eq_true, Bool.not_true, Bool.not_false, Bool.true_and, Bool.false_and, Bool.and_true, Bool.and_false, Bool.or_true, Bool.or_false, Bool.true_or, Bool.false_or, Nat.reduceAdd, Nat.reduceSub, Nat.reduceLT, Nat.reduceLeDiff, true_and, and_true, and_self, decide_eq_true_eq, Nat.zero_lt_succ, Nat.lt_add_left_iff_pos, beq_self_eq_true, String.reduceBEq, String.reduceEq, Nat.le_refl, Nat.zero_le, Bool.true_eq_false, decide_true, decide_false, Int.reduceEq, Int.reduceLT, Int.reduceLE, Int.reduceSub, Int.reduceAdd, DL.wIfT, DL.wListRg, DL.eSortT, DL.eAddS, DL.eInS, DL.eLenS, DL.wSlS, DL.wI2, DL.evd_mx, DL.evd_mn, DL.evd_gcd, DL.wIStr, DL.wIEnumS]
    by_cases c : 0 < n
    · simp -implicitDefEqProofs only [DL.WW, List.isEmpty_nil, List.map, List.length, List.length_cons, List.length_nil, List.length_set, List.replicate, List.append, List.cons_append, List.nil_append, List.append_nil, List.getElem?_cons_zero, List.getElem?_cons_succ, List.getElem?_nil, List.set_cons_zero, List.set_cons_succ, ↓reduceIte, Bool.false_eq_true, Bool.not_true, Bool.not_false, Bool.true_and, Bool.false_and, Bool.and_true, Bool.and_false, Bool.or_true, Bool.or_false, Bool.true_or, Bool.false_or, Nat.reduceAdd, Nat.reduceSub, Nat.reduceLT, Nat.reduceLeDiff, true_and, and_true, and_self, decide_eq_true_eq, Nat.zero_lt_succ, Nat.lt_add_left_iff_pos, beq_self_eq_true, String.reduceBEq, String.reduceEq, Nat.le_refl, Nat.zero_le, Bool.true_eq_false, decide_true, decide_false, Int.reduceEq, Int.reduceLT, Int.reduceLE, Int.reduceSub, Int.reduceAdd, DL.wIfT, DL.wListRg, DL.eSortT, DL.eAddS, DL.eInS, DL.eLenS, DL.wSlS, DL.wI2, DL.evd_mx, DL.evd_mn, DL.evd_gcd, DL.wIStr, DL.wIEnumS, c, nfD, itT, itF]
      exact ⟨_, rfl⟩
    · simp -implicitDefEqProofs only [DL.WW, List.isEmpty_nil, List.map, List.length, List.length_cons, List.length_nil, List.length_set, List.replicate, List.append, List.cons_append, List.nil_append, List.append_nil, List.getElem?_cons_zero, List.getElem?_cons_succ, List.getElem?_nil, List.set_cons_zero, List.set_cons_succ, ↓reduceIte, Bool.false_eq_true, Bool.not_true, Bool.not_false, Bool.true_and, Bool.false_and, Bool.and_true, Bool.and_false, Bool.or_true, Bool.or_false, Bool.true_or, Bool.false_or, Nat.reduceAdd, Nat.reduceSub, Nat.reduceLT, Nat.reduceLeDiff, true_and, and_true, and_self, decide_eq_true_eq, Nat.zero_lt_succ, Nat.lt_add_left_iff_pos, beq_self_eq_true, String.reduceBEq, String.reduceEq, Nat.le_refl, Nat.zero_le, Bool.true_eq_false, decide_true, decide_false, Int.reduceEq, Int.reduceLT, Int.reduceLE, Int.reduceSub, Int.reduceAdd, DL.wIfT, DL.wListRg, DL.eSortT, DL.eAddS, DL.eInS, DL.eLenS, DL.wSlS, DL.wI2, DL.evd_mx, DL.evd_mn, DL.evd_gcd, DL.wIStr, DL.wIEnumS, c, nfD, itT, itF]
      exact ⟨_, rfl⟩
  · rintro e ⟨z, rfl⟩
    have hrl : ∀ m, (rangeD 0 m).length = m := fun m => by simp [rangeD]
    rw [hrl, hk]
    simp -implicitDefEqProofs only [DL.WW, List.isEmpty_nil, List.map, List.length, List.length_cons, List.length_nil, List.length_set, List.replicate, List.append, List.cons_append, List.nil_append, List.append_nil, List.getElem?_cons_zero, List.getElem?_cons_succ, List.getElem?_nil, List.set_cons_zero, List.set_cons_succ, ↓reduceIte, Bool.false_eq_true, Bool.not_true, Bool.not_false, Bool.true_and, Bool.false_and, Bool.and_true, Bool.and_false, Bool.or_true, Bool.or_false, Bool.true_or, Bool.false_or, Nat.reduceAdd, Nat.reduceSub, Nat.reduceLT, Nat.reduceLeDiff, true_and, and_true, and_self, decide_eq_true_eq, Nat.zero_lt_succ, Nat.lt_add_left_iff_pos, beq_self_eq_true, String.reduceBEq, String.reduceEq, Nat.le_refl, Nat.zero_le, Bool.true_eq_false, decide_true, decide_false, Int.reduceEq, Int.reduceLT, Int.reduceLE, Int.reduceSub, Int.reduceAdd, DL.wIfT, DL.wListRg, DL.eSortT, DL.eAddS, DL.eInS, DL.eLenS, DL.wSlS, DL.wI2, DL.evd_mx, DL.evd_mn, DL.evd_gcd, DL.wIStr, DL.wIEnumS]
    exact hP
def F_numf (f : Nat) : FSp := fun args P => ∃ (p : Int) (a : Nat), args = [some (.dat (.int p)), some (.dat (.int ((2 ^ a : Nat) : Int)))] ∧ a ≤ f ∧ a ≤ 6 ∧ (a = 0 ∨ p % 2 = 1) ∧ p.natAbs + f ≤ 3000 ∧ P (.dat (nfD (numN f p a))) [none, none]
theorem num0 (f : Nat) (p : Int) : numN f p 0 = itN (decide (0 < p)) p.natAbs := by cases f <;> rfl
section
variable {f : Nat} {Fi : FSp} (hE : ∀ m', f = m' + 1 → Fi = F_numf m')
include hE
theorem ok_number_form {k : Nat} (T : Txt K mg) (G_integer_form : FnOk P w K mg base CX0 k T.a_integer_form T.d_integer_form ["number"] (spD K F_integer_form)) (G_number_form : FnOk P w K mg base CX0 k T.a_number_form T.d_number_form ["top", "bottom"] (spD K Fi)) : FnOk P w K mg base CX0 (k + 1) T.a_number_form T.d_number_form ["top", "bottom"] (spD K (F_numf f)) := by
  refine T.F_number_form.ok sc_number_form (fun vs H Q E h => spD_len (fun args P hF => ?_) h) (fun cdv A outer s H vs Q E hr h => ⟨_, (pss_cons (ps_if (pt_cmpR (op_eqDK (K := K) rfl hr.units) (pv 1) pe_int (nomark _))
  (pss_one (ps_ret (pe_call G_integer_form hr rfl T.g_integer_form T.F_integer_form.kp T.b_integer_form .nil pass0 (pa_cons (pv 0) pa_nil))))
  pss_nil)
  (pss_cons (ps_set (i := 2) sc_number_form.nd rfl (Or.inl rfl) (pe_lst pa_nil))
  (pss_cons (ps_for PassesOwn.never rfl (pi_tupK (K := K) rfl (pe_tup (pa_cons (pe_op op_sub (pv 0) pe_int) (pa_cons (pe_op op_add (pv 0) pe_int) pa_nil)))) (pg_name (i := 3) sc_number_form.nd rfl (Or.inl rfl))
  (pss_cons (ps_set (i := 4) sc_number_form.nd rfl (Or.inl rfl) (pv 1))
  (pss_cons (ps_while PassesOwn.never (PW.pt (pw_and (pt_cmpR (op_eqDK (K := K) rfl hr.units) (pe_op op_mod (pv 3) pe_int) pe_int (nomark _)) (pw_and1 (pt_cmpR op_gt (pv 4) pe_int (nomark _)))))
  (pss_one (ps_par (i := 3) (j := 4) rfl sc_number_form.nd rfl rfl (by decide) rfl rfl (pa_cons (pe_op op_fdiv (pv 3) pe_int) (pa_cons (pe_op op_fdiv (pv 4) pe_int) pa_nil)) rfl)))
  (pss_one (ps_expr (pe_bmK (K := K) rfl PySem.F.plainAttrs_list PySem.F.slot_list_append PySem.F.type_list_append mt_append (pv 2) (pa_cons (pe_call G_number_form hr rfl T.g_number_form T.F_number_form.kp T.b_number_form .nil pass0 (pa_cons (pv 3) (pa_cons (pv 4) pa_nil))) pa_nil)))))))
  (pss_one (ps_ret (pe_tup (pa_cons (pe_tup (pa_cons (pe_ix (ix_listK (K := K) rfl) (pv 2) pe_int (fun _ _ => rfl)) pa_nil)) (pa_cons (pe_tup (pa_cons (pe_ix (ix_listK (K := K) rfl) (pv 2) pe_int (fun _ _ => rfl)) pa_nil)) pa_nil)))))))), fn_run (N := ["top", "bottom", "sides", "near", "parts"]) h (fun A' Hz' => (ss_seq (ss_if (st_test (se_op sr_eqD se_var se_int))
  (ss_ret (se_call (sa_cons se_var sa_nil)))
  ss_next)
  (ss_seq (ss_asg (se_lst sa_nil) sg_name)
  (ss_seq (ss_for (si_tup (se_tup (sa_cons (se_op (sr_I0 (fun _ _ => rfl)) se_var se_int) (sa_cons (se_op (sr_I0 (fun _ _ => rfl)) se_var se_int) sa_nil)))) sg_name
  (ss_seq (ss_asg se_var sg_name)
  (ss_seq (ss_while (st_and (st_test (se_op sr_eqD (se_op (sr_I (fun _ _ => rfl)) se_var se_int) se_int)) (st_test (se_op (sr_I0 (fun _ _ => rfl)) se_var se_int)))
  (ss_par (by decide) (se_op (sr_I (fun _ _ => rfl)) se_var se_int) (se_op (sr_I (fun _ _ => rfl)) se_var se_int)))
  (ss_drop (se_app (se_call (sa_cons se_var (sa_cons se_var sa_nil))))))))
  (ss_ret (se_tup (sa_cons (se_tup (sa_cons (se_op sr_ixL se_var se_int) sa_nil)) (sa_cons (se_tup (sa_cons (se_op sr_ixL se_var se_int) sa_nil)) sa_nil)))))))) (fun args P hl hF => ?_)⟩)
  · obtain ⟨p, a, rfl, _⟩ := hF
    rfl
  obtain ⟨p, a, rfl, ha, ha6, ho, hp, hP⟩ := hF
  simp -implicitDefEqProofs only [DL.WW, List.isEmpty_nil, List.map, List.length, List.length_cons, List.length_nil, List.length_set, List.replicate, List.append, List.cons_append, List.nil_append, List.append_nil, List.getElem?_cons_zero, List.getElem?_cons_succ, List.getElem?_nil, List.set_cons_zero, List.set_cons_succ, ↓reduceIte, Bool.false_eq_true, Bool.not_true, Bool.not_false, Bool.true_and, Bool.false_and, Bool.and_true, Bool.and_false, Bool.or_true, Bool.or_false, Bool.true_or, Bool.false_or, Nat.reduceAdd, Nat.reduceSub, Nat.reduceLT, Nat.reduceLeDiff, true_and, and_true, and_self, decide_eq_true_eq, Nat.zero_lt_succ, Nat.lt_add_left_iff_pos, beq_self_eq_true, String.reduceBEq, String.reduceEq, Nat.le_refl, Nat.zero_le, Bool.true_eq_false, decide_true, decide_false, Int.reduceEq, Int.reduceLT, Int.reduceLE, Int.reduceSub, Int.reduceAdd, DL.wIfT, DL.wListRg, DL.eSortT, DL.eAddS, DL.eInS, DL.eLenS, DL.wSlS, DL.wI2, DL.evd_mx, DL.evd_mn, DL.evd_gcd, DL.wIStr, DL.wIEnumS]
  cases a with
  | zero =>
    have e1 : ((2 ^ 0 : Nat) : Int) = 1 := rfl
    simp -implicitDefEqProofs only [DL.WW, List.isEmpty_nil, List.map, List.length, List.length_cons, List.length_nil, List.length_set, List.replicate, List.append, List.cons_append, List.nil_append, List.append_nil, List.getElem?_cons_zero, List.getElem?_cons_succ, List.getElem?_nil, List.set_cons_zero, List.set_cons_succ, ↓reduceIte, Bool.false_eq_true, Bool.not_true, Bool.not_false, Bool.true_and, Bool.false_and, Bool.and_true, Bool.and_false, Bool.or_true, Bool.or_false, Bool.true_or, Bool.false_or, Nat.reduceAdd, Nat.reduceSub, Nat.reduceLT, Nat.reduceLeDiff, true_and, and_true, and_self, decide_eq_true_eq, Nat.zero_lt_succ, Nat.lt_add_left_iff_pos, beq_self_eq_true, String.reduceBEq, String.reduceEq, Nat.le_refl, Nat.zero_le, Bool.true_eq_false, decide_true, decide_false, Int.reduceEq, Int.reduceLT, Int.reduceLE, Int.reduceSub, Int.reduceAdd, DL.wIfT, DL.wListRg, DL.eSortT, DL.eAddS, DL.eInS, DL.eLenS, DL.wSlS, DL.wI2, DL.evd_mx, DL.evd_mn, DL.evd_gcd, DL.wIStr, DL.wIEnumS, e1]
    refine ⟨_, rfl, by omega, ?_⟩
    simp -implicitDefEqProofs only [DL.WW, List.isEmpty_nil, List.map, List.length, List.length_cons, List.length_nil, List.length_set, List.replicate, List.append, List.cons_append, List.nil_append, List.append_nil, List.getElem?_cons_zero, List.getElem?_cons_succ, List.getElem?_nil, List.set_cons_zero, List.set_cons_succ, ↓reduceIte, Bool.false_eq_true, Bool.not_true, Bool.not_false, Bool.true_and, Bool.false_and, Bool.and_true, Bool.and_false, Bool.or_true, Bool.or_false, Bool.true_or, Bool.false_or, Nat.reduceAdd, Nat.reduceSub, Nat.reduceLT, Nat.reduceLeDiff, true_and, and_true, and_self, decide_eq_true_eq, Nat.zero_lt_succ, Nat.lt_add_left_iff_pos, beq_self_eq_true, String.reduceBEq, String.reduceEq, Nat.le_refl, Nat.zero_le, Bool.true_eq_false, decide_true, decide_false, Int.reduceEq, Int.reduceLT, Int.reduceLE, Int.reduceSub, Int.reduceAdd, DL.wIfT, DL.wListRg, DL.eSortT, DL.eAddS, DL.eInS, DL.eLenS, DL.wSlS, DL.wI2, DL.evd_mx, DL.evd_mn, DL.evd_gcd, DL.wIStr, DL.wIEnumS]
    rw [num0] at hP
    exact hP
  | succ a =>
  obtain ⟨f, rfl⟩ : ∃ f', f = f' + 1 := ⟨f - 1, by omega⟩
  have hFi := hE f rfl
  subst hFi
  have e1 : ¬ ((2 ^ (a + 1) : Nat) : Int) = 1 := by have := Nat.pow_pos (n := a) (show 0 < 2 by decide); rw [Nat.pow_succ]; omega
  simp -implicitDefEqProofs only [DL.WW, List.isEmpty_nil, List.map, List.length, List.length_cons, List.length_nil, List.length_set, List.replicate, List.append, List.cons_append, List.nil_append, List.append_nil, List.getElem?_cons_zero, List.getElem?_cons_succ, List.getElem?_nil, List.set_cons_zero, List.set_cons_succ, ↓reduceIte, Bool.false_eq_true, Bool.not_true, Bool.not_false, Bool.true_and, Bool.false_and, Bool.and_true, Bool.and_false, Bool.or_true, Bool.or_false, Bool.true_or, Bool.false_or, Nat.reduceAdd, Nat.reduceSub, Nat.reduceLT, Nat.reduceLeDiff, true_and, and_true, and_self, decide_eq_true_eq, Nat.zero_lt_succ, Nat.lt_add_left_iff_pos, beq_self_eq_true, String.reduceBEq, String.reduceEq, Nat.le_refl, Nat.zero_le, Bool.true_eq_false, decide_true, decide_false, Int.reduceEq, Int.reduceLT, Int.reduceLE, Int.reduceSub, Int.reduceAdd, DL.wIfT, DL.wListRg, DL.eSortT, DL.eAddS, DL.eInS, DL.eLenS, DL.wSlS, DL.wI2, DL.evd_mx, DL.evd_mn, DL.evd_gcd, DL.wIStr, DL.wIEnumS, e1]
  refine for_use ?_
  simp -implicitDefEqProofs only [DL.WW, List.isEmpty_nil, List.map, List.length, List.length_cons, List.length_nil, List.length_set, List.replicate, List.append, List.cons_append, List.nil_append, List.append_nil, List.getElem?_cons_zero, List.getElem?_cons_succ, List.getElem?_nil, List.set_cons_zero, List.set_cons_succ, ↓reduceIte, Bool.false_eq_true, Bool.not_true, Bool.not_false, Bool.true_and, Bool.false_and, Bool.and_true, Bool.and_false, Bool.or_true, Bool.or_false, Bool.true_or, Bool.false_or, Nat.reduceAdd, Nat.reduceSub, Nat.reduceLT, Nat.reduceLeDiff, true_and, and_true, and_self, decide_eq_true_eq, Nat.zero_lt_succ, Nat.lt_add_left_iff_pos, beq_self_eq_true, String.reduceBEq, String.reduceEq, Nat.le_refl, Nat.zero_le, Bool.true_eq_false, decide_true, decide_false, Int.reduceEq, Int.reduceLT, Int.reduceLE, Int.reduceSub, Int.reduceAdd, DL.wIfT, DL.wListRg, DL.eSortT, DL.eAddS, DL.eInS, DL.eLenS, DL.wSlS, DL.wI2, DL.evd_mx, DL.evd_mn, DL.evd_gcd, DL.wIStr, DL.wIEnumS]
  refine ⟨fun i e => ∃ z1 z2, e = [some (.dat (.int p)), some (.dat (.int ((2 ^ (a + 1) : Nat) : Int))), some (.ob none (.lst (([nfD (numN f (red (a + 1) (p - 1)).1 (red (a + 1) (p - 1)).2), nfD (numN f (red (a + 1) (p + 1)).1 (red (a + 1) (p + 1)).2)]).take i))), z1, z2], ⟨none, none, rfl⟩, ?_, ?_⟩
  · rintro i d e hd ⟨z1, z2, rfl⟩
    have hp2 : p % 2 = 1 := by omega
    obtain ⟨n0, rfl, h0, hn0, ht⟩ : ∃ n0, d = .int n0 ∧ n0 % 2 = 0 ∧ n0.natAbs ≤ p.natAbs + 1 ∧ ([nfD (numN f (red (a + 1) (p - 1)).1 (red (a + 1) (p - 1)).2), nfD (numN f (red (a + 1) (p + 1)).1 (red (a + 1) (p + 1)).2)]).take (i + 1) =
        ([nfD (numN f (red (a + 1) (p - 1)).1 (red (a + 1) (p - 1)).2), nfD (numN f (red (a + 1) (p + 1)).1 (red (a + 1) (p + 1)).2)]).take i ++ [nfD (numN f (red (a + 1) n0).1 (red (a + 1) n0).2)] := by
      have hi := (List.getElem?_eq_some_iff.mp hd).1
      have : i = 0 ∨ i = 1 := by simp at hi; omega
      rcases this with rfl | rfl
      · simp at hd
        exact ⟨p - 1, hd.symm, by omega, by omega, rfl⟩
      · simp at hd
        exact ⟨p + 1, hd.symm, by omega, by omega, rfl⟩
    dsimp only
    rw [ht]
    have hl5 : (([nfD (numN f (red (a + 1) (p - 1)).1 (red (a + 1) (p - 1)).2), nfD (numN f (red (a + 1) (p + 1)).1 (red (a + 1) (p + 1)).2)]).take i).length ≤ 5 := by simp; omega
    generalize ([nfD (numN f (red (a + 1) (p - 1)).1 (red (a + 1) (p - 1)).2), nfD (numN f (red (a + 1) (p + 1)).1 (red (a + 1) (p + 1)).2)]).take i = LI at hl5 ⊢
    simp -implicitDefEqProofs only [DL.WW, List.isEmpty_nil, List.map, List.length, List.length_cons, List.length_nil, List.length_set, List.replicate, List.append, List.cons_append, List.nil_append, List.append_nil, List.getElem?_cons_zero, List.getElem?_cons_succ, List.getElem?_nil, List.set_cons_zero, List.set_cons_succ, ↓reduceIte, Bool.false_eq_true, Bool.not_true, Bool.not_false, Bool.true_and, Bool.false_and, Bool.and_true, Bool.and_false, Bool.or_true, Bool.or_false, Bool.true_or, Bool.false_or, Nat.reduceAdd, Nat.reduceSub, Nat.reduceLT, Nat.reduceLeDiff, true_and, and_true, and_self, decide_eq_true_eq, Nat.zero_lt_succ, Nat.lt_add_left_iff_pos, beq_self_eq_true, String.reduceBEq, String.reduceEq, Nat.le_refl, Nat.zero_le, Bool.true_eq_false, decide_true, decide_false, Int.reduceEq, Int.reduceLT, Int.reduceLE, Int.reduceSub, Int.reduceAdd, DL.wIfT, DL.wListRg, DL.eSortT, DL.eAddS, DL.eInS, DL.eLenS, DL.wSlS, DL.wI2, DL.evd_mx, DL.evd_mn, DL.evd_gcd, DL.wIStr, DL.wIEnumS]
    refine ⟨fun m e => ∃ n1, red m n1 = red (a + 1) n0 ∧ m ≤ a + 1 ∧ n1.natAbs ≤ n0.natAbs ∧ e = [some (.dat (.int p)), some (.dat (.int ((2 ^ (a + 1) : Nat) : Int))), some (.ob none (.lst LI)), some (.dat (.int n1)), some (.dat (.int ((2 ^ m : Nat) : Int)))], ⟨a + 1, n0, rfl, Nat.le_refl _, Nat.le_refl _, rfl⟩, ?_⟩
    rintro m e ⟨n1, hr, hm, hn1, rfl⟩
    simp -implicitDefEqProofs only [DL.WW, List.isEmpty_nil, List.map, List.length, List.length_cons, List.length_nil, List.length_set, List.replicate, List.append, List.cons_append, List.nil_append, List.append_nil, List.getElem?_cons_zero, List.getElem?_cons_succ, List.getElem?_nil, List.set_cons_zero, List.set_cons_succ, ↓reduceIte, Bool.false_eq_true, Bool.not_true, Bool.not_false, Bool.true_and, Bool.false_and, Bool.and_true, Bool.and_false, Bool.or_true, Bool.or_false, Bool.true_or, Bool.false_or, Nat.reduceAdd, Nat.reduceSub, Nat.reduceLT, Nat.reduceLeDiff, true_and, and_true, and_self, decide_eq_true_eq, Nat.zero_lt_succ, Nat.lt_add_left_iff_pos, beq_self_eq_true, String.reduceBEq, String.reduceEq, Nat.le_refl, Nat.zero_le, Bool.true_eq_false, decide_true, decide_false, Int.reduceEq, Int.reduceLT, Int.reduceLE, Int.reduceSub, Int.reduceAdd, DL.wIfT, DL.wListRg, DL.eSortT, DL.eAddS, DL.eInS, DL.eLenS, DL.wSlS, DL.wI2, DL.evd_mx, DL.evd_mn, DL.evd_gcd, DL.wIStr, DL.wIEnumS]
    have fin : red m n1 = (n1, m) → F_numf f [some (.dat (.int n1)), some (.dat (.int ((2 ^ m : Nat) : Int)))] fun b x => notOwn b = true ∧ b = .dat (nfD (numN f (red (a + 1) n0).1 (red (a + 1) n0).2)) := fun hs => by
      have e2 : red (a + 1) n0 = red a (n0 / 2) := if_pos h0
      have ok := red_ok a (n0 / 2)
      rw [← e2, ← hr, hs] at ok
      dsimp only at ok
      refine ⟨n1, m, rfl, by omega, by omega, ok.2.1, by omega, rfl, ?_⟩
      rw [← hr, hs]
    have fin2 : ∀ Post : Vl → En → Prop, (∀ b x, b = .dat (nfD (numN f (red (a + 1) n0).1 (red (a + 1) n0).2)) → Post b x) → red m n1 = (n1, m) → F_numf f [some (.dat (.int n1)), some (.dat (.int ((2 ^ m : Nat) : Int)))] Post := fun Post hPost hs => by
      obtain ⟨p1, a1, he, c1, c2, c3, c4, c5⟩ := fin hs
      exact ⟨p1, a1, he, c1, c2, c3, c4, hPost _ _ c5.2⟩
    split
    · split
      · cases m with
        | zero => exact absurd (show (1 : Int) < 1 by assumption) (by decide)
        | succ m =>
          refine ⟨⟨by decide, by decide⟩, ⟨by decide, by decide⟩, m, by omega, n1 / 2, ?_, by omega, by omega, ?_⟩
          · rw [← hr]
            show red m (n1 / 2) = if n1 % 2 = 0 then red m (n1 / 2) else (n1, m + 1)
            rw [if_pos (by assumption)]
          · have e1 : ((2 ^ (m + 1) : Nat) : Int) = ((2 ^ m : Nat) : Int) * 2 := by rw [Nat.pow_succ, Int.natCast_mul]; rfl
            rw [e1]
            have e2 : ((2 ^ m : Nat) : Int) * 2 / 2 = ((2 ^ m : Nat) : Int) := by omega
            rw [e2]
      · refine fin2 _ (fun b x hb => ?_) ?_
        · subst hb
          simp -implicitDefEqProofs only [DL.WW, List.isEmpty_nil, List.map, List.length, List.length_cons, List.length_nil, List.length_set, List.replicate, List.append, List.cons_append, List.nil_append, List.append_nil, List.getElem?_cons_zero, List.getElem?_cons_succ, List.getElem?_nil, List.set_cons_zero, List.set_cons_succ, ↓reduceIte, Bool.false_eq_true, Bool.not_true, Bool.not_false, Bool.true_and, Bool.false_and, Bool.and_true, Bool.and_false, Bool.or_true, Bool.or_false, Bool.true_or, Bool.false_or, Nat.reduceAdd, Nat.reduceSub, Nat.reduceLT, Nat.reduceLeDiff, true_and, and_true, and_self, decide_eq_true_eq, Nat.zero_lt_succ, Nat.lt_add_left_iff_pos, beq_self_eq_true, String.reduceBEq, String.reduceEq, Nat.le_refl, Nat.zero_le, Bool.true_eq_false, decide_true, decide_false, Int.reduceEq, Int.reduceLT, Int.reduceLE, Int.reduceSub, Int.reduceAdd, DL.wIfT, DL.wListRg, DL.eSortT, DL.eAddS, DL.eInS, DL.eLenS, DL.wSlS, DL.wI2, DL.evd_mx, DL.evd_mn, DL.evd_gcd, DL.wIStr, DL.wIEnumS]
          exact ⟨by omega, _, _, rfl⟩
        · cases m with
          | zero => rfl
          | succ m => 
            have := Nat.pow_pos (n := m) (show 0 < 2 by decide)
            rw [Nat.pow_succ] at *
            omega
    · refine fin2 _ (fun b x hb => ?_) ?_
      · subst hb
        simp -implicitDefEqProofs only [DL.WW, List.isEmpty_nil, List.map, List.length, List.length_cons, List.length_nil, List.length_set, List.replicate, List.append, List.cons_append, List.nil_append, List.append_nil, List.getElem?_cons_zero, List.getElem?_cons_succ, List.getElem?_nil, List.set_cons_zero, List.set_cons_succ, ↓reduceIte, Bool.false_eq_true, Bool.not_true, Bool.not_false, Bool.true_and, Bool.false_and, Bool.and_true, Bool.and_false, Bool.or_true, Bool.or_false, Bool.true_or, Bool.false_or, Nat.reduceAdd, Nat.reduceSub, Nat.reduceLT, Nat.reduceLeDiff, true_and, and_true, and_self, decide_eq_true_eq, Nat.zero_lt_succ, Nat.lt_add_left_iff_pos, beq_self_eq_true, String.reduceBEq, String.reduceEq, Nat.le_refl, Nat.zero_le, Bool.true_eq_false, decide_true, decide_false, Int.reduceEq, Int.reduceLT, Int.reduceLE, Int.reduceSub, Int.reduceAdd, DL.wIfT, DL.wListRg, DL.eSortT, DL.eAddS, DL.eInS, DL.eLenS, DL.wSlS, DL.wI2, DL.evd_mx, DL.evd_mn, DL.evd_gcd, DL.wIStr, DL.wIEnumS]
        exact ⟨by omega, _, _, rfl⟩
      · cases m with
        | zero => rfl
        | succ m => unfold red; rw [if_neg (by assumption)]
  · rintro e ⟨z1, z2, rfl⟩
    simp only [numN, nfD, Nat.add_eq_zero_iff, Nat.one_ne_zero, and_false, ↓reduceIte] at hP
    have e2 : ∀ x y : PyData, ([x, y].take 2) = [x, y] := fun _ _ => rfl
    simp -implicitDefEqProofs only [DL.WW, List.isEmpty_nil, List.map, List.length, List.length_cons, List.length_nil, List.length_set, List.replicate, List.append, List.cons_append, List.nil_append, List.append_nil, List.getElem?_cons_zero, List.getElem?_cons_succ, List.getElem?_nil, List.set_cons_zero, List.set_cons_succ, ↓reduceIte, Bool.false_eq_true, Bool.not_true, Bool.not_false, Bool.true_and, Bool.false_and, Bool.and_true, Bool.and_false, Bool.or_true, Bool.or_false, Bool.true_or, Bool.false_or, Nat.reduceAdd, Nat.reduceSub, Nat.reduceLT, Nat.reduceLeDiff, true_and, and_true, and_self, decide_eq_true_eq, Nat.zero_lt_succ, Nat.lt_add_left_iff_pos, beq_self_eq_true, String.reduceBEq, String.reduceEq, Nat.le_refl, Nat.zero_le, Bool.true_eq_false, decide_true, decide_false, Int.reduceEq, Int.reduceLT, Int.reduceLE, Int.reduceSub, Int.reduceAdd, DL.wIfT, DL.wListRg, DL.eSortT, DL.eAddS, DL.eInS, DL.eLenS, DL.wSlS, DL.wI2, DL.evd_mx, DL.evd_mn, DL.evd_gcd, DL.wIStr, DL.wIEnumS, e2]
    exact hP
end
end
end K06D


set_option Elab.async false
set_option linter.all false
set_option maxRecDepth 100000
set_option maxHeartbeats 4000000
/-! join, str of an int, int of a text. -/
namespace DL
open PySem L2 TG
def rJoinK (K : PySem.W.Frag) : V → List V → Hp → VK → Prop := fun x xs H Q => ∃ a p, ∃ ys : List Str, x = .str a ∧ xs = [.ref p] ∧ (SqL K H p (ys.map V.str) ∨ SqT K H p (ys.map V.str)) ∧ (ys.map (·.length)).sum + ys.length * a.length ≤ 16777216 ∧ Q (.str (Txt.join a ys)) H
theorem pe_joinK {X : Cx} {K : PySem.W.Frag} {o e : Expr} {to te : TE} (hK : X.K = K) {apos pos : Pos} (ho : PE X o to) (he : PE X e te) (hs : starEach [e] X.env = [(false, eval e X.env)] := by rfl) (hbase : attributeBase o "join" X.env (eval o X.env) = eval o X.env := by rfl) (hline : (apos.endLine == pos.line) = true := by rfl) :
    PE X (.Call (.Attribute o "join" apos) [e] [] pos) (tM1 (rJoinK K) to te) := by
  subst hK
  exact pe_join ho he hs hbase hline
variable {f : Fr} {te to : TE} {E Eo : WE}
def strsD : List PyData → Option (List Str)
  | [] => some []
  | .str i :: ds => (strsD ds).map (i :: ·)
  | _ :: _ => none
theorem strsD_map (ns : List Str) : strsD (ns.map PyData.str) = some ns := by
  induction ns with
  | nil => rfl
  | cons n ns ih => simp [strsD, ih]
theorem strsD_eq : ∀ {ds : List PyData} {ns : List Str}, strsD ds = some ns → ds = ns.map PyData.str
  | [], ns, h => by cases h; rfl
  | .str i :: ds, ns, h => by
    unfold strsD at h
    cases c : strsD ds with
    | none => rw [c] at h; cases h
    | some ms =>
      rw [c] at h
      cases h
      rw [strsD_eq c]
      rfl
  | .none :: _, _, h => by cases h
  | .int _ :: _, _, h => by cases h
  | .bool _ :: _, _, h => by cases h
  | .list _ :: _, _, h => by cases h
  | .tuple _ :: _, _, h => by cases h
  | .dict _ :: _, _, h => by cases h
theorem dps_strs {K : PySem.W.Frag} {Hz : Hp} : ∀ {ns : List Str} {vs : List V}, DpAll K Hz vs (ns.map PyData.str) → vs = ns.map V.str
  | [], _, .nil => rfl
  | n :: ns, _, .cons h1 h2 => by
    cases h1
    rw [dps_strs h2]
    rfl
def jnS (a : Str) (d2 : PyData) (P : Vl → En → Prop) (e2 : En) : Prop := match d2 with
  | .list ds => ob1 (strsD ds) fun ys => (ys.map (·.length)).sum + ys.length * a.length ≤ 16777216 ∧ P (.dat (.str (Txt.join a ys))) e2
  | .tuple ds => ob1 (strsD ds) fun ys => (ys.map (·.length)).sum + ys.length * a.length ≤ 16777216 ∧ P (.dat (.str (Txt.join a ys))) e2
  | _ => False
theorem eJnL {a : Str} {ds : List PyData} {P : Vl → En → Prop} {e2 : En} : jnS a (.list ds) P e2 = ob1 (strsD ds) fun ys => (ys.map (·.length)).sum + ys.length * a.length ≤ 16777216 ∧ P (.dat (.str (Txt.join a ys))) e2 := rfl
theorem eJnT {a : Str} {ds : List PyData} {P : Vl → En → Prop} {e2 : En} : jnS a (.tuple ds) P e2 = ob1 (strsD ds) fun ys => (ys.map (·.length)).sum + ys.length * a.length ≤ 16777216 ∧ P (.dat (.str (Txt.join a ys))) e2 := rfl
def wJoin (Eo E : WE) (e : En) (P : Vl → En → Prop) : Prop := wFz Eo e fun d1 e1 => match d1 with
  | .str a => wFz E e1 fun d2 e2 => jnS a d2 P e2
  | _ => False
theorem se_join (ho : SE f to Eo) (he : SE f te E) : SE f (tM1 (rJoinK f.K) to te) (wJoin Eo E) := ⟨fun {L W e σ Hz H Post Q} w y k => fz_run ho w y fun d1 e1 v1 Hz1 H1 h1 s1 y1 p1 => by
  split at h1
  · cases p1
    refine ⟨⟨_, rfl⟩, fz_run he h1 y1 fun d2 e2 v2 Hz2 H2 h2 s2 y2 p2 => ?_⟩
    unfold jnS at h2
    split at h2
    · obtain ⟨ys, c, h3, h4⟩ := ob1_ex h2
      rw [strsD_eq c] at p2
      cases p2 with
      | lst q1 q2 =>
        rw [dps_strs q2] at q1
        exact ⟨_, _, ys, rfl, rfl, .inl (sqL y2.sm q1), h3, k _ _ _ _ _ h4 (same_trans s1 s2) y2 (Dp.str _)⟩
    · obtain ⟨ys, c, h3, h4⟩ := ob1_ex h2
      rw [strsD_eq c] at p2
      cases p2 with
      | tup q1 q2 =>
        rw [dps_strs q2] at q1
        exact ⟨_, _, ys, rfl, rfl, .inr (sqT y2.sm q1), h3, k _ _ _ _ _ h4 (same_trans s1 s2) y2 (Dp.str _)⟩
    · exact h2.elim
  · exact h1.elim⟩
/-- str(i) -/
def gStrI (d : PyData) (P : Vl → Prop) : Prop := match d with
  | .int i => i.natAbs.log2 < 1920 ∧ P (.dat (.str (toString i)))
  | _ => False
theorem eStrI {i : Int} {P : Vl → Prop} : gStrI (.int i) P = (i.natAbs.log2 < 1920 ∧ P (.dat (.str (toString i)))) := rfl
theorem sc_strI : SC f (fun xs H Q => ∃ i, xs = [.int i] ∧ i.natAbs.log2 < 1920 ∧ Q (.str (toString i)) H) gStrI := ⟨fun {L W e σ Hz H x d Post Q} r s h k => by
  unfold gStrI at h
  split at h
  · cases r
    exact ⟨_, rfl, h.1, k _ _ _ _ h.2 same_refl s (Dp.str _)⟩
  · exact h.elim⟩
/-- int(text) -/
def gIntS (d : PyData) (P : Vl → Prop) : Prop := match d with
  | .str a => a.length ≤ 640 ∧ ob1 (PySem.intText? a) fun n => P (.dat (.int n))
  | _ => False
theorem eIntS {a : Str} {P : Vl → Prop} : gIntS (.str a) P = (a.length ≤ 640 ∧ ob1 (PySem.intText? a) fun n => P (.dat (.int n))) := rfl
theorem sc_intS : SC f (fun xs H Q => ∃ a n, xs = [.str a] ∧ PySem.intText? a = some n ∧ a.length ≤ 640 ∧ Q (.int n) H) gIntS := ⟨fun {L W e σ Hz H x d Post Q} r s h k => by
  unfold gIntS at h
  split at h
  · obtain ⟨h1, h⟩ := h
    obtain ⟨n, c, h⟩ := ob1_ex h
    cases r
    exact ⟨_, n, rfl, c, h1, k _ _ _ _ h same_refl s (Dp.int _)⟩
  · exact h.elim⟩
end DL


set_option linter.all false
set_option maxRecDepth 100000
set_option maxHeartbeats 4000000
/-! Texts of games, plain: texts as lists of codes. -/
namespace TXG
open SK
inductive G where
  | mk (l r : List G) : G
def G.lf : G → List G | .mk l _ => l
def G.rt : G → List G | .mk _ r => r
def z : G := .mk [] []
def star : G := .mk [z] [z]
def up : G := .mk [z] [star]
def down : G := .mk [star] [z]
def upS : G := .mk [z, star] [z]
def downS : G := .mk [z] [z, star]
mutual
def eqG : G → G → Bool
  | .mk l r, .mk l' r' => eqL l l' && eqL r r'
def eqL : List G → List G → Bool
  | [], [] => true
  | g :: gs, h :: hs => eqG g h && eqL gs hs
  | _, _ => false
end
mutual
theorem eqG_iff : ∀ a b : G, eqG a b = true ↔ a = b
  | .mk l r, .mk l' r' => by
    rw [eqG, Bool.and_eq_true, eqL_iff l l', eqL_iff r r']
    exact ⟨fun h => by rw [h.1, h.2], fun h => by cases h; exact ⟨rfl, rfl⟩⟩
theorem eqL_iff : ∀ a b : List G, eqL a b = true ↔ a = b
  | [], [] => by simp [eqL]
  | g :: gs, h :: hs => by
    rw [eqL, Bool.and_eq_true, eqG_iff g h, eqL_iff gs hs]
    exact ⟨fun h => by rw [h.1, h.2], fun h => by cases h; exact ⟨rfl, rfl⟩⟩
  | [], _ :: _ => by simp [eqL]
  | _ :: _, [] => by simp [eqL]
end
mutual
def ht : G → Nat
  | .mk l r => max (htL l) (htL r)
/-- one more than the greatest height, 0 for none -/
def htL : List G → Nat
  | [] => 0
  | g :: gs => max (ht g + 1) (htL gs)
end
mutual
def nd : G → Nat
  | .mk l r => 1 + ndL l + ndL r
def ndL : List G → Nat
  | [] => 0
  | g :: gs => nd g + ndL gs
end
theorem htL_mem : ∀ {gs : List G} {g : G}, g ∈ gs → ht g < htL gs
  | x :: xs, g, h => by
    rw [htL]
    rcases List.mem_cons.mp h with rfl | h
    · omega
    · have := htL_mem h; omega
theorem ht_lt {g x : G} (h : x ∈ g.lf ∨ x ∈ g.rt) : ht x < ht g := by
  cases g with
  | mk l r =>
    rw [ht]
    rcases h with h | h
    · have := htL_mem (show x ∈ l from h); omega
    · have := htL_mem (show x ∈ r from h); omega
theorem G.eta (g : G) : g = .mk g.lf g.rt := by cases g; rfl
/-! ### forms -/
def nG : Nf → G
  | .z => .mk [] []
  | .l x => .mk [nG x] []
  | .r x => .mk [] [nG x]
  | .b x y => .mk [nG x] [nG y]
def iG (n : Int) : G := nG (itN (decide (0 < n)) n.natAbs)
def nimL : Nat → List G
  | 0 => []
  | k + 1 => nimL k ++ [.mk (nimL k) (nimL k)]
def nimG (k : Nat) : G := .mk (nimL k) (nimL k)
def numG (p : Int) (a : Nat) : G := nG (numN 6 p a)
/-! ### names -/
def stp (g : G) : Int := if g.rt.isEmpty = true then 1 else -1
/-- the loop of integer_of -/
def intOf : Nat → Int → G → Option Int
  | 0, _, _ => none
  | f + 1, n, g =>
    if eqG g z then some n
    else if g.lf.length + g.rt.length ≠ 1 ∨ n.natAbs = 16 then none
    else if n * stp g < 0 then none else intOf f (n + stp g) ((g.lf ++ g.rt).headD z)
def digN : Nat → Nat → List Nat
  | 0, _ => []
  | f + 1, n => if n < 10 then [48 + n] else digN f (n / 10) ++ [48 + n % 10]
def digs (n : Nat) : List Nat := digN 5 n
def intT (n : Int) : List Nat := if n < 0 then 45 :: digs n.natAbs else digs n.natAbs
def fracT (p : Int) (b : Nat) : List Nat := intT p ++ 47 :: digs b
def logB (b : Nat) : Nat := if b = 1 then 0 else if b = 2 then 1 else if b = 4 then 2 else if b = 8 then 3 else 4
def frac : Nat → G → Option (Int × Nat)
  | 0, _ => none
  | f + 1, g => match intOf 18 0 g with
    | some n => some (n, 1)
    | none => match g.lf, g.rt with
      | [x], [y] => match frac f x, frac f y with
        | some (p, b), some (q, c) =>
          let m := 2 * max b c
          let t := (p * ((m / b : Nat) : Int) + q * ((m / c : Nat) : Int)) / 2
          if 16 < m ∨ t % 2 = 0 ∨ 16 * m < t.natAbs then none
          else if eqG g (numG t (logB m)) then some (t, m) else none
        | _, _ => none
      | _, _ => none
def nameOf (g : G) : Option (List Nat) :=
  match intOf 18 0 g with
  | some n => some (intT n)
  | none =>
    if eqG g star then some [42] else if eqG g up then some [94] else if eqG g down then some [118] else if eqG g upS then some [94, 42] else if eqG g downS then some [118, 42]
    else if eqG g (nimG 2) then some [42, 50] else if eqG g (nimG 3) then some [42, 51] else if eqG g (nimG 4) then some [42, 52] else if eqG g (nimG 5) then some [42, 53]
    else (frac 50 g).map fun q => fracT q.1 q.2
def joinC : List (List Nat) → List Nat
  | [] => []
  | [t] => t
  | t :: u :: r => t ++ 44 :: joinC (u :: r)
def txt : Nat → G → List Nat
  | 0, _ => []
  | f + 1, g => match nameOf g with
    | some t => t
    | none => 123 :: joinC (g.lf.map (txt f)) ++ 124 :: joinC (g.rt.map (txt f)) ++ [125]
/-! ### the grammar: d bounds the depth of braces -/
inductive Tx : Nat → List Nat → G → Prop where
  | num (d : Nat) (neg : Bool) (p a : Nat) : a ≤ 4 → p ≤ 16 * 2 ^ a → (neg = true → p ≠ 0) → (a = 0 ∨ p % 2 = 1) →
      Tx d ((if neg then [45] else []) ++ digs p ++ (if a = 0 then [] else 47 :: digs (2 ^ a))) (numG (if neg then -(p : Int) else p) a)
  | star (d : Nat) : Tx d [42] star
  | nim (d k : Nat) : 2 ≤ k → k ≤ 5 → Tx d [42, 48 + k] (nimG k)
  | up (d : Nat) : Tx d [94] up
  | down (d : Nat) : Tx d [118] down
  | upS (d : Nat) : Tx d [94, 42] upS
  | downS (d : Nat) : Tx d [118, 42] downS
  | br (d : Nat) (ts us : List (List Nat)) (l r : List G) : ts.length = l.length → us.length = r.length →
      (∀ (i : Nat) (t : List Nat) (g : G), ts[i]? = some t → l[i]? = some g → Tx d t g) → (∀ (i : Nat) (t : List Nat) (g : G), us[i]? = some t → r[i]? = some g → Tx d t g) →
      Tx (d + 1) (123 :: joinC ts ++ 124 :: joinC us ++ [125]) (.mk l r)
theorem Tx.mono {d : Nat} {t : List Nat} {g : G} (h : Tx d t g) : ∀ e, d ≤ e → Tx e t g := by
  induction h with
  | num d neg p a h1 h2 h3 h4 => exact fun e _ => .num e neg p a h1 h2 h3 h4
  | star d => exact fun e _ => .star e
  | nim d k h1 h2 => exact fun e _ => .nim e k h1 h2
  | up d => exact fun e _ => .up e
  | down d => exact fun e _ => .down e
  | upS d => exact fun e _ => .upS e
  | downS d => exact fun e _ => .downS e
  | br d ts us l r h1 h2 h3 h4 i3 i4 =>
    intro e he
    obtain ⟨e, rfl⟩ : ∃ e', e = e' + 1 := ⟨e - 1, by omega⟩
    exact .br e ts us l r h1 h2 (fun i t g a b => i3 i t g a b e (by omega)) (fun i t g a b => i4 i t g a b e (by omega))
/-! ### a name is a text of its form -/
theorem intOf_spec : ∀ (f : Nat) (n : Int) (g : G) (m : Int), intOf f n g = some m → m.natAbs ≤ 16 ∨ n.natAbs > 16 := fun f => by
  induction f with
  | zero => intro n g m h; cases h
  | succ f ih =>
    intro n g m h
    rw [intOf] at h
    split at h
    · cases h; omega
    · split at h
      · cases h
      · rename_i hc
        split at h
        · cases h
        · rcases ih _ _ _ h with h1 | h1
          · exact .inl h1
          · unfold stp at h1
            split at h1 <;> omega
/-- what is still to be read has the sign of what was found -/
theorem intOf_form : ∀ (f : Nat) (n : Int) (g : G) (m : Int), intOf f n g = some m →
    (0 ≤ n → 0 ≤ m → n ≤ m → g = nG (itN true (m - n).natAbs)) ∧ (n ≤ 0 → m ≤ 0 → m ≤ n → g = nG (itN false (m - n).natAbs)) ∧ ((0 < n → n ≤ m) ∧ (n < 0 → m ≤ n)) := fun f => by
  induction f with
  | zero => intro n g m h; cases h
  | succ f ih =>
    intro n g m h
    rw [intOf] at h
    split at h
    · rename_i hz
      have hg : g = z := (eqG_iff _ _).mp hz
      cases h
      subst hg
      have e0 : (n - n).natAbs = 0 := by omega
      rw [e0]
      exact ⟨fun _ _ _ => rfl, fun _ _ _ => rfl, fun _ => Int.le_refl _, fun _ => Int.le_refl _⟩
    · split at h
      · cases h
      · rename_i hz hc
        split at h
        · cases h
        · rename_i hs
          obtain ⟨l, r⟩ := g
          cases r with
          | nil =>
            cases l with
            | nil => exact absurd ((eqG_iff _ _).mpr rfl) hz
            | cons x l =>
              have hl : l = [] := by
                cases l with
                | nil => rfl
                | cons y l => exact absurd (show (x :: y :: l).length + 0 ≠ 1 ∨ n.natAbs = 16 from .inl (by simp)) hc
              subst hl
              have e1 : stp (G.mk [x] []) = 1 := rfl
              rw [e1] at h hs
              have h' : intOf f (n + 1) x = some m := h
              obtain ⟨a1, a2, a3⟩ := ih _ _ _ h'
              have hn : 0 ≤ n := by omega
              have hm := a3.1 (by omega)
              refine ⟨fun _ _ _ => ?_, fun h1 h2 h3 => by omega, fun _ => by omega, fun _ => by omega⟩
              rw [a1 (by omega) (by omega) hm]
              have : (m - n).natAbs = (m - (n + 1)).natAbs + 1 := by omega
              rw [this]
              rfl
          | cons y r =>
            have hl : l = [] ∧ r = [] := by
              cases l with
              | nil =>
                cases r with
                | nil => exact ⟨rfl, rfl⟩
                | cons y' r => exact absurd (show 0 + (y :: y' :: r).length ≠ 1 ∨ n.natAbs = 16 from .inl (by simp)) hc
              | cons x l => exact absurd (show (x :: l).length + (y :: r).length ≠ 1 ∨ n.natAbs = 16 from .inl (by simp; omega)) hc
            obtain ⟨rfl, rfl⟩ := hl
            have e1 : stp (G.mk [] [y]) = -1 := rfl
            rw [e1] at h hs
            have h' : intOf f (n + -1) y = some m := h
            obtain ⟨a1, a2, a3⟩ := ih _ _ _ h'
            have hn : n ≤ 0 := by omega
            have hm := a3.2 (by omega)
            refine ⟨fun h1 h2 h3 => by omega, fun _ _ _ => ?_, fun _ => by omega, fun _ => by omega⟩
            rw [a2 (by omega) (by omega) hm]
            have : (m - n).natAbs = (m - (n + -1)).natAbs + 1 := by omega
            rw [this]
            rfl
theorem intOf_iG {g : G} {n : Int} (h : intOf 18 0 g = some n) : g = iG n ∧ n.natAbs ≤ 16 := by
  have h1 := intOf_spec _ _ _ _ h
  have h2 := intOf_form _ _ _ _ h
  refine ⟨?_, by omega⟩
  unfold iG
  by_cases c : 0 < n
  · rw [decide_eq_true c, h2.1 (by decide) (by omega) (by omega)]
    have : (n - 0).natAbs = n.natAbs := by omega
    rw [this]
  · rw [decide_eq_false c, h2.2.1 (by decide) (by omega) (by omega)]
    have : (n - 0).natAbs = n.natAbs := by omega
    rw [this]
theorem numG0 (n : Int) : numG n 0 = iG n := rfl
theorem tx_int (d : Nat) {n : Int} (h : n.natAbs ≤ 16) : Tx d (intT n) (iG n) := by
  by_cases c : n < 0
  · have := Tx.num d true n.natAbs 0 (by decide) (by simpa using h) (fun _ => by omega) (.inl rfl)
    have e : -((n.natAbs : Nat) : Int) = n := by omega
    simp only [↓reduceIte, e, List.append_nil, numG0] at this
    unfold intT
    rw [if_pos c]
    exact this
  · have := Tx.num d false n.natAbs 0 (by decide) (by simpa using h) (fun h => by cases h) (.inl rfl)
    have e : ((n.natAbs : Nat) : Int) = n := by omega
    simp only [Bool.false_eq_true, ↓reduceIte, e, List.append_nil, List.nil_append, numG0] at this
    unfold intT
    rw [if_neg c]
    exact this
def PowB (b : Nat) : Prop := b = 1 ∨ b = 2 ∨ b = 4 ∨ b = 8 ∨ b = 16
theorem frac_spec : ∀ (f : Nat) (g : G) (p : Int) (b : Nat), frac f g = some (p, b) → PowB b ∧ ((b = 1 ∧ g = iG p ∧ p.natAbs ≤ 16) ∨ (1 < b ∧ g = numG p (logB b) ∧ p % 2 = 1 ∧ p.natAbs ≤ 16 * b)) := fun f => by
  induction f with
  | zero => intro g p b h; cases h
  | succ f ih =>
    intro g p b h
    rw [frac] at h
    split at h
    · rename_i n hn
      cases h
      have := intOf_iG hn
      exact ⟨.inl rfl, .inl ⟨rfl, this.1, this.2⟩⟩
    · split at h
      · split at h
        · rename_i p1 bb q1 cc hx hy
          dsimp only at h
          split at h
          · cases h
          · split at h
            · rename_i hc he
              have hm := Option.some.inj h
              have b1 := (ih _ _ _ hx).1
              have b2 := (ih _ _ _ hy).1
              have he2 := (eqG_iff _ _).mp he
              injection hm with m1 m2
              rw [m1, m2] at he2 hc
              refine ⟨?_, .inr ⟨?_, he2, by omega, by omega⟩⟩
              · unfold PowB at b1 b2 ⊢; omega
              · unfold PowB at b1 b2; omega
            · cases h
        · cases h
      · cases h
theorem logB_pow {b : Nat} (h : PowB b) : 2 ^ logB b = b ∧ logB b ≤ 4 ∧ (1 < b → logB b ≠ 0) := by
  rcases h with rfl | rfl | rfl | rfl | rfl <;> exact ⟨rfl, by decide, by decide⟩
theorem tx_frac (d : Nat) {p : Int} {b : Nat} (h : PowB b) (h1 : 1 < b) (h2 : p % 2 = 1) (h3 : p.natAbs ≤ 16 * b) : Tx d (fracT p b) (numG p (logB b)) := by
  obtain ⟨e1, e2, e3⟩ := logB_pow h
  have e3 := e3 h1
  by_cases c : p < 0
  · have := Tx.num d true p.natAbs (logB b) e2 (by rw [e1]; exact h3) (fun _ => by omega) (.inr (by omega))
    have e : -((p.natAbs : Nat) : Int) = p := by omega
    rw [if_neg e3, e1] at this
    simp only [↓reduceIte, e] at this
    unfold fracT intT
    rw [if_pos c]
    simpa using this
  · have := Tx.num d false p.natAbs (logB b) e2 (by rw [e1]; exact h3) (fun h => by cases h) (.inr (by omega))
    have e : ((p.natAbs : Nat) : Int) = p := by omega
    rw [if_neg e3, e1] at this
    simp only [Bool.false_eq_true, ↓reduceIte, e] at this
    unfold fracT intT
    rw [if_neg c]
    simpa using this
theorem frac_not1 {g : G} {p : Int} (hn : intOf 18 0 g = none) : ∀ f, frac f g ≠ some (p, 1) := fun f h => by
  cases f with
  | zero => cases h
  | succ f =>
    rw [frac, hn] at h
    dsimp only at h
    split at h
    · split at h
      · split at h
        · cases h
        · split at h
          · have hm := Option.some.inj h
            injection hm with m1 m2
            omega
          · cases h
      · cases h
    · cases h
theorem tx_name (d : Nat) {g : G} {t : List Nat} (h : nameOf g = some t) : Tx d t g := by
  unfold nameOf at h
  split at h
  · rename_i n hn
    cases h
    have := intOf_iG hn
    rw [this.1]
    exact tx_int d this.2
  · rename_i hn
    split at h
    · rename_i he; cases h; rw [(eqG_iff _ _).mp he]; exact .star d
    split at h
    · rename_i he; cases h; rw [(eqG_iff _ _).mp he]; exact .up d
    split at h
    · rename_i he; cases h; rw [(eqG_iff _ _).mp he]; exact .down d
    split at h
    · rename_i he; cases h; rw [(eqG_iff _ _).mp he]; exact .upS d
    split at h
    · rename_i he; cases h; rw [(eqG_iff _ _).mp he]; exact .downS d
    split at h
    · rename_i he; cases h; rw [(eqG_iff _ _).mp he]; exact .nim d 2 (by decide) (by decide)
    split at h
    · rename_i he; cases h; rw [(eqG_iff _ _).mp he]; exact .nim d 3 (by decide) (by decide)
    split at h
    · rename_i he; cases h; rw [(eqG_iff _ _).mp he]; exact .nim d 4 (by decide) (by decide)
    split at h
    · rename_i he; cases h; rw [(eqG_iff _ _).mp he]; exact .nim d 5 (by decide) (by decide)
    cases hf : frac 50 g with
    | none => rw [hf] at h; cases h
    | some q =>
      rw [hf] at h
      cases h
      obtain ⟨p, b⟩ := q
      obtain ⟨hp, hq⟩ := frac_spec _ _ _ _ hf
      rcases hq with ⟨rfl, _⟩ | ⟨h1, rfl, h2, h3⟩
      · exact absurd hf (frac_not1 hn 50)
      · exact tx_frac d hp h1 h2 h3
/-- what is written is a text of the game -/
theorem tx_txt : ∀ (f : Nat) (g : G), ht g < f → Tx (ht g) (txt f g) g
  | 0, g, h => by omega
  | f + 1, g, h => by
    rw [txt]
    split
    · rename_i t ht'
      exact tx_name _ ht'
    · obtain ⟨l, r⟩ := g
      cases hh : ht (G.mk l r) with
      | zero =>
        have e : G.mk l r = z := by
          rw [ht] at hh
          have hl : l = [] := by
            cases l with
            | nil => rfl
            | cons x l => rw [htL] at hh; omega
          have hr : r = [] := by
            cases r with
            | nil => rfl
            | cons x l => rw [htL] at hh; omega
          rw [hl, hr]
          rfl
        rename_i hn
        rw [e] at hn
        have : nameOf z = some [48] := by decide +kernel
        rw [this] at hn
        cases hn
      | succ d =>
        have lt : ∀ x, (x ∈ l ∨ x ∈ r) → ht x ≤ d := fun x hx => by
          have := ht_lt (g := G.mk l r) (x := x) hx
          omega
        refine .br d _ _ l r (by rw [List.length_map]; rfl) (by rw [List.length_map]; rfl) (fun i t g' a b => ?_) (fun i t g' a b => ?_)
        · have a' : (l.map (txt f))[i]? = some t := a
          rw [List.getElem?_map, b] at a'
          cases a'
          have := lt g' (.inl (List.mem_of_getElem? b))
          exact (tx_txt f g' (by omega)).mono d this
        · have a' : (r.map (txt f))[i]? = some t := a
          rw [List.getElem?_map, b] at a'
          cases a'
          have := lt g' (.inr (List.mem_of_getElem? b))
          exact (tx_txt f g' (by omega)).mono d this
end TXG


set_option linter.all false
set_option maxRecDepth 100000
set_option maxHeartbeats 4000000
/-! Decimal texts of small ints. -/
namespace TXG
open PySem SK
def stC (l : List Nat) : Str := ⟨l.toArray⟩
def digB (n : Nat) : Bool := (Str.ofString (toString (n : Int)) == stC (digs n)) && (Str.ofString (toString (-(n : Int))) == stC (intT (-(n : Int)))) && (intText? (stC (digs n)) == some (n : Int)) && decide ((digs n).length ≤ 3) && !(digs n).isEmpty && (digs n).all (fun c => decide (48 ≤ c) && decide (c ≤ 57)) && (decide ((digs n).headD 0 ≠ 48) || decide ((digs n).length = 1))
theorem dig_all : (List.range 257).all digB = true := by decide +kernel
structure Dig (n : Nat) : Prop where
  pos : Str.ofString (toString (n : Int)) = stC (digs n)
  neg : Str.ofString (toString (-(n : Int))) = stC (intT (-(n : Int)))
  val : intText? (stC (digs n)) = some (n : Int)
  len : (digs n).length ≤ 3
  ne : digs n ≠ []
  dg : ∀ c ∈ digs n, 48 ≤ c ∧ c ≤ 57
  hd : (digs n).headD 0 ≠ 48 ∨ (digs n).length = 1
theorem dig {n : Nat} (h : n ≤ 256) : Dig n := by
  have := List.all_eq_true.mp dig_all n (List.mem_range.mpr (by omega))
  unfold digB at this
  simp only [Bool.and_eq_true, Bool.or_eq_true, decide_eq_true_eq, beq_iff_eq, List.all_eq_true, Bool.not_eq_true', List.isEmpty_eq_false_iff] at this
  obtain ⟨⟨⟨⟨⟨⟨a1, a2⟩, a3⟩, a4⟩, a5⟩, a6⟩, a7⟩ := this
  exact ⟨a1, a2, a3, a4, a5, a6, a7⟩
theorem str_int {n : Int} (h : n.natAbs ≤ 256) : Str.ofString (toString n) = stC (intT n) := by
  by_cases c : n < 0
  · have e : n = -((n.natAbs : Nat) : Int) := by omega
    rw [e]
    exact (dig h).neg
  · have e : n = ((n.natAbs : Nat) : Int) := by omega
    have e2 : intT n = digs n.natAbs := by unfold intT; rw [if_neg c]
    rw [e2]
    conv => lhs; rw [e]
    exact (dig h).pos
end TXG


set_option Elab.async false
set_option linter.all false
set_option maxRecDepth 100000
set_option maxHeartbeats 4000000
/-! Games as data; texts of codes in the layer. -/
namespace TXG
open PySem L2 TG DL SK
mutual
def gD : G → PyData
  | .mk l r => .tuple [.tuple (gsD l), .tuple (gsD r)]
def gsD : List G → List PyData
  | [] => []
  | g :: gs => gD g :: gsD gs
end
theorem gsD_eq : ∀ l : List G, gsD l = l.map gD
  | [] => rfl
  | g :: gs => by rw [gsD, gsD_eq gs]; rfl
theorem gD_mk (l r : List G) : gD (.mk l r) = .tuple [.tuple (l.map gD), .tuple (r.map gD)] := by rw [gD, gsD_eq, gsD_eq]
theorem gD_eq (g : G) : gD g = .tuple [.tuple (g.lf.map gD), .tuple (g.rt.map gD)] := by cases g; exact gD_mk _ _
mutual
theorem eqv_g : ∀ a b : G, PyData.eqv (gD a) (gD b) = eqG a b
  | .mk l r, .mk l' r' => by
    rw [gD, gD, eqG, PyData.eqv, PyData.eqvAll, PyData.eqvAll, PyData.eqvAll, PyData.eqv, PyData.eqv, eqv_gs l l', eqv_gs r r', Bool.and_true]
theorem eqv_gs : ∀ a b : List G, PyData.eqvAll (gsD a) (gsD b) = eqL a b
  | [], [] => by rw [gsD, eqL, PyData.eqvAll]
  | g :: gs, h :: hs => by rw [gsD, gsD, eqL, PyData.eqvAll, eqv_g g h, eqv_gs gs hs]
  | [], _ :: _ => by simp [gsD, eqL, PyData.eqvAll]
  | _ :: _, [] => by simp [gsD, eqL, PyData.eqvAll]
end
theorem ndL_mem : ∀ {gs : List G} {g : G}, g ∈ gs → nd g ≤ ndL gs
  | x :: xs, g, h => by
    rw [ndL]
    rcases List.mem_cons.mp h with rfl | h
    · omega
    · have := ndL_mem h; omega
theorem nd_pos (g : G) : 1 ≤ nd g := by cases g; rw [nd]; omega
theorem ndL_len : ∀ gs : List G, gs.length ≤ ndL gs
  | [] => Nat.zero_le _
  | g :: gs => by
    rw [ndL, List.length_cons]
    have := ndL_len gs
    have := nd_pos g
    omega
theorem nd_eq (g : G) : nd g = 1 + ndL g.lf + ndL g.rt := by cases g; rw [nd]; rfl
theorem nd_lt {g x : G} (h : x ∈ g.lf ∨ x ∈ g.rt) : nd x < nd g := by
  rw [nd_eq g]
  rcases h with h | h
  · have := ndL_mem h; omega
  · have := ndL_mem h; omega
theorem sides_len (g : G) : g.lf.length + g.rt.length < nd g := by
  rw [nd_eq g]
  have := ndL_len g.lf
  have := ndL_len g.rt
  omega
theorem fine_g : ∀ (d : Nat) (g : G), ht g < d → nd g ≤ 40000 → Fine (2 * d) (gD g)
  | 0, g, h, _ => by omega
  | d + 1, g, h, hn => by
    rw [gD_eq g]
    have e : 2 * (d + 1) = (2 * d + 1) + 1 := by omega
    rw [e]
    have sl := sides_len g
    refine Fine.tup (by simp) fun x hx => ?_
    have key : ∀ gs : List G, (∀ y ∈ gs, y ∈ g.lf ∨ y ∈ g.rt) → gs.length ≤ 40000 → Fine (2 * d + 1) (.tuple (gs.map gD)) := fun gs hg hl => by
      refine Fine.tup (by rw [List.length_map]; exact hl) fun y hy => ?_
      obtain ⟨y', hy', rfl⟩ := List.mem_map.mp hy
      have h1 := ht_lt (hg y' hy')
      have h2 := nd_lt (hg y' hy')
      exact fine_g d y' (by omega) (by omega)
    simp at hx
    rcases hx with rfl | rfl
    · exact key _ (fun y hy => .inl hy) (by omega)
    · exact key _ (fun y hy => .inr hy) (by omega)
theorem sh_g {g : G} (h : ht g ≤ 30) (hn : nd g ≤ 40000) : SeqAt.shaped (gD g) = true := (fine_g 31 g (by omega) hn).ok (by decide)
/-! ### texts of codes -/
def CodeOk (l : List Nat) : Prop := ∀ c ∈ l, c < 128
theorem stC_len (l : List Nat) : (stC l).length = l.length := by simp [stC, Str.length]
theorem stC_app (a b : List Nat) : stC a ++ stC b = stC (a ++ b) := by
  refine TL.ext_tl ?_
  rw [TL.tl_append]
  simp [stC, TL.tl]
theorem stC_inj {a b : List Nat} (h : stC a = stC b) : a = b := by
  have := congrArg TL.tl h
  simpa [stC, TL.tl] using this
theorem stC_eqp (a b : List Nat) : (stC a = stC b) = (a = b) := propext ⟨stC_inj, fun h => by rw [h]⟩
theorem stC_ok {l : List Nat} (h : CodeOk l) : PyData.strOk (stC l) = true := by
  unfold PyData.strOk stC
  rw [Array.all_eq_true']
  intro x hx
  rw [List.mem_toArray] at hx
  have := h x hx
  rw [decide_eq_true_eq]
  omega
theorem stC_cps (l : List Nat) : (stC l).cps.toList = l := rfl
theorem stC_line {l : List Nat} (h : l.length ≤ 100000) : (stC l).length ≤ sizeLine := by rw [stC_len]; exact Nat.le_trans h (by decide)
theorem stC_cut (l : List Nat) (lo hi : Option Int) : cutS (stC l) lo hi = stC ((l.drop (HT.sIx l.length 0 lo)).take (HT.sIx l.length l.length hi - HT.sIx l.length 0 lo)) := by
  unfold cutS
  rw [stC_len]
  rfl
theorem joinC_eq : ∀ ys : List (List Nat), TL.joinL [44] ys = joinC ys
  | [] => rfl
  | [_] => rfl
  | t :: u :: r => by
    show t ++ ([44] ++ TL.joinL [44] (u :: r)) = t ++ 44 :: joinC (u :: r)
    rw [joinC_eq (u :: r)]
    rfl
theorem join_C (ys : List (List Nat)) : Txt.join (stC [44]) (ys.map stC) = stC (joinC ys) := by
  have e := TL.tl_join (stC [44]) (ys.map stC)
  have m : (ys.map stC).map TL.tl = ys := by
    rw [List.map_map]
    have : (TL.tl ∘ stC) = id := by funext l; rfl
    rw [this, List.map_id]
  rw [m] at e
  refine TL.ext_tl ((congrArg TL.tl (TL.join_eq (stC [44]) (ys.map stC))).trans (e.trans ?_))
  exact joinC_eq ys
end TXG


set_option Elab.async false
set_option linter.all false
set_option maxRecDepth 100000
set_option maxHeartbeats 4000000
namespace K06D
open PySem L2 TG DL K06 SK TXG
section
variable {P : Program} {w : World} {K : PySem.W.Frag} {mg : Str → Option Value} {base : Heap}
theorem nfD_nG : ∀ x : Nf, nfD x = gD (nG x)
  | .z => by rw [nfD, nG, gD_mk]; rfl
  | .l x => by rw [nfD, nG, gD_mk, nfD_nG x]; rfl
  | .r x => by rw [nfD, nG, gD_mk, nfD_nG x]; rfl
  | .b x y => by rw [nfD, nG, gD_mk, nfD_nG x, nfD_nG y]; rfl
theorem dZ : PyData.tuple [.tuple [], .tuple []] = gD z := by rw [z, gD_mk]; rfl
theorem dS : PyData.tuple [.tuple [gD z], .tuple [gD z]] = gD star := by rw [star, gD_mk]; rfl
theorem dU : PyData.tuple [.tuple [gD z], .tuple [gD star]] = gD up := by rw [up, gD_mk]; rfl
theorem dD : PyData.tuple [.tuple [gD star], .tuple [gD z]] = gD down := by rw [down, gD_mk]; rfl
theorem dUS : PyData.tuple [.tuple [gD z, gD star], .tuple [gD z]] = gD upS := by rw [upS, gD_mk]; rfl
theorem dDS : PyData.tuple [.tuple [gD z], .tuple [gD z, gD star]] = gD downS := by rw [downS, gD_mk]; rfl
/-- a game that is small enough to be compared -/
def Sm (g : G) : Prop := ht g ≤ 28 ∧ nd g ≤ 1500
theorem Sm.sh {g : G} (h : Sm g) : SeqAt.shaped (gD g) = true := sh_g (by have := h.1; omega) (by have := h.2; omega)
theorem Sm.of {g x : G} (h : Sm g) (hx : x ∈ g.lf ∨ x ∈ g.rt) : Sm x := ⟨by have := ht_lt hx; have := h.1; omega, by have := nd_lt hx; have := h.2; omega⟩
theorem sm_z : Sm z := by unfold Sm; decide +kernel
theorem sm_star : Sm star := by unfold Sm; decide +kernel
theorem sm_up : Sm up := by unfold Sm; decide +kernel
theorem sm_down : Sm down := by unfold Sm; decide +kernel
theorem sm_upS : Sm upS := by unfold Sm; decide +kernel
theorem sm_downS : Sm downS := by unfold Sm; decide +kernel
def pnD (p : G × Nat) : PyData := .tuple [gD p.1, .int (p.2 : Int)]
def ndS (st : List (G × Nat)) : Nat := (st.map fun p => nd p.1).sum
def F_is_game : FSp := fun args P => ∃ g : G, args = [some (.dat (gD g))] ∧ Sm g ∧ P (.dat (.bool true)) [none]
theorem ok_is_game {k : Nat} (T : Txt K mg)  : FnOk P w K mg base CX0 (k + 1) T.a_is_game T.d_is_game ["value"] (spD K F_is_game) := by
  refine T.F_is_game.ok sc_is_game (fun vs H Q E h => spD_len (fun args P hF => ?_) h) (fun cdv A outer s H vs Q E hr h => ⟨_, (pss_cons (ps_par (i := 1) (j := 2) rfl sc_is_game.nd rfl rfl (by decide) rfl rfl (pa_cons (pe_lst (pa_cons (pe_tup (pa_cons (pv 0) (pa_cons pe_int pa_nil))) pa_nil)) (pa_cons pe_int pa_nil)) rfl)
  (pss_cons (ps_while PassesOwn.never (pt_cmpR (op_neDK (K := K) rfl hr.units) (pv 1) (pe_lst pa_nil) (nomark _))
  (pss_cons (ps_asg (pe_bm0K (K := K) rfl PySem.F.plainAttrs_list PySem.F.slot_list_pop PySem.F.type_list_pop mt_pop (pv 1)) (pg_tupK (K := K) (n := 2) rfl rfl (pgs_cons (pg_name (i := 3) sc_is_game.nd rfl (Or.inl rfl)) (pgs_cons (pg_name (i := 4) sc_is_game.nd rfl (Or.inr rfl)) pgs_nil))))
  (pss_cons (ps_aug (i := 2) sc_is_game.nd rfl (Or.inl rfl) pe_int ip_add)
  (pss_cons (ps_if (PW.pt (pw_or (pt_cmpR op_gt (pv 2) (pe_glob (v := .int 2000) rfl T.c_MOST_GAME_NODES ⟨_, rfl⟩) (nomark _)) (pw_or (pt_cmpR op_gt (pv 4) (pe_glob (v := .int 40) rfl T.c_MOST_HEIGHT ⟨_, rfl⟩) (nomark _)) (pw_or (pt_not (pt_val (pe_callB (call_isiX (K := K) rfl) rfl T.m_isinstance (by decide +kernel) (pa_cons (pv 3) (pa_cons (pe_bltn (v := .ty "tuple") (u := .type "tuple") rfl T.m_tuple (by decide +kernel) rfl) pa_nil))))) (pw_or1 (pt_cmpR (op_neDK (K := K) rfl hr.units) (pe_callB (call_lenK (K := K) rfl) rfl T.m_len PySem.boot_len (pa_cons (pv 3) pa_nil)) pe_int (nomark _)))))))
  (pss_one (ps_ret pe_bl))
  pss_nil)
  (pss_one (ps_for PassesOwn.never rfl (pi_tupK (K := K) rfl (pv 3)) (pg_name (i := 5) sc_is_game.nd rfl (Or.inl rfl))
  (pss_cons (ps_if (PW.pt (pw_or (pt_not (pt_val (pe_callB (call_isiX (K := K) rfl) rfl T.m_isinstance (by decide +kernel) (pa_cons (pv 5) (pa_cons (pe_bltn (v := .ty "tuple") (u := .type "tuple") rfl T.m_tuple (by decide +kernel) rfl) pa_nil))))) (pw_or1 (pt_cmpR op_gt (pe_callB (call_lenK (K := K) rfl) rfl T.m_len PySem.boot_len (pa_cons (pv 5) pa_nil)) (pe_glob (v := .int 2000) rfl T.c_MOST_GAME_NODES ⟨_, rfl⟩) (nomark _)))))
  (pss_one (ps_ret pe_bl))
  pss_nil)
  (pss_one (ps_expr (pe_bmK (K := K) rfl PySem.F.plainAttrs_list PySem.F.slot_list_extend PySem.F.type_list_extend mt_extend (pv 1) (pa_cons (pe_lc (own := [("option", 6)]) rfl sc_is_game.nd (pi_tupK (K := K) rfl (pv 5)) (blkOk_by (N := ["value", "pending", "many", "told", "depth", "side", "option"]) (sc := defScope s_is_game) (by decide +kernel)) (fun _ _ _ _ _ => (pg_name (i := 6) sc_is_game.nd rfl (Or.inl rfl))) (fun _ _ _ _ _ => pts_nil) (fun _ _ _ _ _ => (pe_tup (pa_cons (pv 6) (pa_cons (pe_op op_add (pv 4) pe_int) pa_nil))))) pa_nil)))))))))))
  (pss_one (ps_ret pe_bl)))), fn_run (N := ["value", "pending", "many", "told", "depth", "side", "option"]) h (fun A' Hz' => (ss_seq (ss_par (by decide) (se_lst (sa_cons (se_tup (sa_cons se_var (sa_cons se_int sa_nil))) sa_nil)) se_int)
  (ss_seq (ss_while (st_test (se_op sr_neD se_var (se_lst sa_nil)))
  (ss_seq (ss_asg se_pop (sg_tup (sgs_cons sg_name (sgs_cons sg_name sgs_nil))))
  (ss_seq (ss_augI se_int)
  (ss_seq (ss_if (st_or (st_test (se_op (sr_I0 (fun _ _ => rfl)) se_var se_int)) (st_or (st_test (se_op (sr_I0 (fun _ _ => rfl)) se_var se_int)) (st_or (st_not (st_B (se_isi rfl se_var))) (st_test (se_op sr_neD (se_cb1 sc_len se_var) se_int)))))
  (ss_ret se_bl)
  ss_next)
  (ss_for (si_tup se_var) sg_name
  (ss_seq (ss_if (st_or (st_not (st_B (se_isi rfl se_var))) (st_test (se_op (sr_I0 (fun _ _ => rfl)) (se_cb1 sc_len se_var) se_int)))
  (ss_ret se_bl)
  ss_next)
  (ss_drop (se_ext (se_lc (si_tup se_var) sg_name st_yes (se_tup (sa_cons se_var (sa_cons (se_op (sr_I0 (fun _ _ => rfl)) se_var se_int) sa_nil))) (by decide))))))))))
  (ss_ret se_bl)))) (fun args P hl hF => ?_)⟩)
  · obtain ⟨g, rfl, _⟩ := hF
    rfl
  obtain ⟨g, rfl, hg, hP⟩ := hF
  simp -implicitDefEqProofs only [DL.WW, List.isEmpty_nil, List.map, List.length, List.length_cons, List.length_nil, List.length_set, List.replicate, List.append, List.cons_append, List.nil_append, List.append_nil, List.getElem?_cons_zero, List.getElem?_cons_succ, List.getElem?_nil, List.set_cons_zero, List.set_cons_succ, ↓reduceIte, Bool.false_eq_true, Bool.not_true, Bool.not_false, Bool.true_and, Bool.false_and, Bool.and_true, Bool.and_false, Bool.or_true, Bool.or_false, Bool.true_or, Bool.false_or, Nat.reduceAdd, Nat.reduceSub, Nat.reduceLT, Nat.reduceLeDiff, true_and, and_true, and_self, decide_eq_true_eq, Nat.zero_lt_succ, Nat.lt_add_left_iff_pos, beq_self_eq_true, String.reduceBEq, String.reduceEq, Nat.le_refl, Nat.zero_le, Bool.true_eq_false, decide_true, decide_false, Int.reduceEq, Int.reduceLT, Int.reduceLE, Int.reduceSub, Int.reduceAdd, DL.wIfT, DL.wListRg, DL.eSortT, DL.eAddS, DL.eInS, DL.eLenS, DL.wSlS, DL.wI2, DL.evd_mx, DL.evd_mn, DL.evd_gcd, DL.wIStr, DL.wIEnumS, DL.eJnL, DL.eJnT, DL.wJoin, DL.eStrI, DL.eIntS, DL.strsD_map]
  refine ⟨fun m e => ∃ (st : List (G × Nat)) (many : Nat) (z3 z4 z5 : Option B), m = ndS st ∧ many + ndS st = nd g ∧ (∀ p ∈ st, ht p.1 + p.2 ≤ 28) ∧
    e = [some (.dat (gD g)), some (.ob none (.lst (st.map pnD))), some (.dat (.int many)), z3, z4, z5, none], ⟨nd g, [(g, 0)], 0, none, none, none, ?_, ?_, ?_, rfl⟩, ?_⟩
  · simp [ndS]
  · simp [ndS]
  · intro p hp
    rw [List.mem_singleton] at hp
    subst hp
    exact hg.1
  rintro m e ⟨st, many, z3, z4, z5, rfl, hm, hh, rfl⟩
  simp -implicitDefEqProofs only [DL.WW, List.isEmpty_nil, List.map, List.length, List.length_cons, List.length_nil, List.length_set, List.replicate, List.append, List.cons_append, List.nil_append, List.append_nil, List.getElem?_cons_zero, List.getElem?_cons_succ, List.getElem?_nil, List.set_cons_zero, List.set_cons_succ, ↓reduceIte, Bool.false_eq_true, Bool.not_true, Bool.not_false, Bool.true_and, Bool.false_and, Bool.and_true, Bool.and_false, Bool.or_true, Bool.or_false, Bool.true_or, Bool.false_or, Nat.reduceAdd, Nat.reduceSub, Nat.reduceLT, Nat.reduceLeDiff, true_and, and_true, and_self, decide_eq_true_eq, Nat.zero_lt_succ, Nat.lt_add_left_iff_pos, beq_self_eq_true, String.reduceBEq, String.reduceEq, Nat.le_refl, Nat.zero_le, Bool.true_eq_false, decide_true, decide_false, Int.reduceEq, Int.reduceLT, Int.reduceLE, Int.reduceSub, Int.reduceAdd, DL.wIfT, DL.wListRg, DL.eSortT, DL.eAddS, DL.eInS, DL.eLenS, DL.wSlS, DL.wI2, DL.evd_mx, DL.evd_mn, DL.evd_gcd, DL.wIStr, DL.wIEnumS, DL.eJnL, DL.eJnT, DL.wJoin, DL.eStrI, DL.eIntS, DL.strsD_map]
  have hsl : ∀ st : List (G × Nat), st.length ≤ ndS st := fun st => by
    induction st with
    | nil => exact Nat.zero_le _
    | cons p st ih =>
      have := nd_pos p.1
      simp only [ndS, List.map_cons, List.sum_cons, List.length_cons] at ih ⊢
      omega
  have hmem : ∀ (st : List (G × Nat)) (p : G × Nat), p ∈ st → nd p.1 ≤ ndS st := fun st p hp => by
    induction st with
    | nil => cases hp
    | cons q st ih =>
      simp only [ndS, List.map_cons, List.sum_cons] at ih ⊢
      rcases List.mem_cons.mp hp with rfl | hp
      · omega
      · have := ih hp; omega
  have hg2 := hg.2
  have hl := hsl st
  have shp : SeqAt.shaped (.list (st.map pnD)) = true := by
    refine (Fine.lst (m := 63) (by rw [List.length_map]; omega) fun x hx => ?_).ok (by decide)
    obtain ⟨p, hp, rfl⟩ := List.mem_map.mp hx
    have h1 := hh p hp
    have h2 := hmem st p hp
    refine Fine.tup (m := 62) (by simp) fun y hy => ?_
    simp at hy
    rcases hy with rfl | rfl
    · exact fine_g 31 _ (by omega) (by omega)
    · exact Fine.int _
  refine ⟨shp, ?_⟩
  rcases List.eq_nil_or_concat st with rfl | ⟨st', ⟨h, d⟩, rfl⟩
  · simp -implicitDefEqProofs only [DL.WW, List.isEmpty_nil, List.map, List.length, List.length_cons, List.length_nil, List.length_set, List.replicate, List.append, List.cons_append, List.nil_append, List.append_nil, List.getElem?_cons_zero, List.getElem?_cons_succ, List.getElem?_nil, List.set_cons_zero, List.set_cons_succ, ↓reduceIte, Bool.false_eq_true, Bool.not_true, Bool.not_false, Bool.true_and, Bool.false_and, Bool.and_true, Bool.and_false, Bool.or_true, Bool.or_false, Bool.true_or, Bool.false_or, Nat.reduceAdd, Nat.reduceSub, Nat.reduceLT, Nat.reduceLeDiff, true_and, and_true, and_self, decide_eq_true_eq, Nat.zero_lt_succ, Nat.lt_add_left_iff_pos, beq_self_eq_true, String.reduceBEq, String.reduceEq, Nat.le_refl, Nat.zero_le, Bool.true_eq_false, decide_true, decide_false, Int.reduceEq, Int.reduceLT, Int.reduceLE, Int.reduceSub, Int.reduceAdd, DL.wIfT, DL.wListRg, DL.eSortT, DL.eAddS, DL.eInS, DL.eLenS, DL.wSlS, DL.wI2, DL.evd_mx, DL.evd_mn, DL.evd_gcd, DL.wIStr, DL.wIEnumS, DL.eJnL, DL.eJnT, DL.wJoin, DL.eStrI, DL.eIntS, DL.strsD_map, List.map_nil]
    exact hP
  · have e1 : (List.map pnD (st'.concat (h, d)))[(List.map pnD (st'.concat (h, d))).length - 1]? = some (pnD (h, d)) := by simp
    have e2 : (List.map pnD (st'.concat (h, d))).isEmpty = false := by simp
    have e3 : (List.map pnD (st'.concat (h, d))).dropLast = st'.map pnD := by simp
    have e4 : ndS (st'.concat (h, d)) = ndS st' + nd h := by simp [ndS]
    rw [e1, e2, e3, e4]
    rw [e4] at hm
    have hdep : ht h + d ≤ 28 := hh (h, d) (by simp)
    have hpos := nd_pos h
    have c1 : ¬ (2000 : Int) < (many : Int) + 1 := by omega
    have c2 : ¬ (40 : Int) < (d : Int) := by omega
    have ep : pnD (h, d) = .tuple [gD h, .int (d : Int)] := rfl
    rw [ep]
    simp -implicitDefEqProofs only [DL.WW, List.isEmpty_nil, List.map, List.length, List.length_cons, List.length_nil, List.length_set, List.replicate, List.append, List.cons_append, List.nil_append, List.append_nil, List.getElem?_cons_zero, List.getElem?_cons_succ, List.getElem?_nil, List.set_cons_zero, List.set_cons_succ, ↓reduceIte, Bool.false_eq_true, Bool.not_true, Bool.not_false, Bool.true_and, Bool.false_and, Bool.and_true, Bool.and_false, Bool.or_true, Bool.or_false, Bool.true_or, Bool.false_or, Nat.reduceAdd, Nat.reduceSub, Nat.reduceLT, Nat.reduceLeDiff, true_and, and_true, and_self, decide_eq_true_eq, Nat.zero_lt_succ, Nat.lt_add_left_iff_pos, beq_self_eq_true, String.reduceBEq, String.reduceEq, Nat.le_refl, Nat.zero_le, Bool.true_eq_false, decide_true, decide_false, Int.reduceEq, Int.reduceLT, Int.reduceLE, Int.reduceSub, Int.reduceAdd, DL.wIfT, DL.wListRg, DL.eSortT, DL.eAddS, DL.eInS, DL.eLenS, DL.wSlS, DL.wI2, DL.evd_mx, DL.evd_mn, DL.evd_gcd, DL.wIStr, DL.wIEnumS, DL.eJnL, DL.eJnT, DL.wJoin, DL.eStrI, DL.eIntS, DL.strsD_map, c1, c2, gD_eq h]
    have e7 : ndS (st' ++ ([h.lf, h.rt].take [PyData.tuple (List.map gD h.lf), PyData.tuple (List.map gD h.rt)].length).flatten.map (fun x => (x, d + 1))) = ndS st' + ndL h.lf + ndL h.rt := by
      have q : ∀ l : List G, (l.map nd).sum = ndL l := fun l => by
        induction l with
        | nil => rfl
        | cons x l ih => rw [List.map_cons, List.sum_cons, ih, ndL]
      have q2 : ((fun p : G × Nat => nd p.1) ∘ fun x : G => (x, d + 1)) = nd := rfl
      simp only [ndS, List.length_cons, List.length_nil, List.take_succ_cons, List.take_zero, List.flatten_cons, List.flatten_nil, List.append_nil, List.map_append, List.sum_append, List.map_map, q2, q]
      omega
    refine for_use ?_
    simp -implicitDefEqProofs only [DL.WW, List.isEmpty_nil, List.map, List.length, List.length_cons, List.length_nil, List.length_set, List.replicate, List.append, List.cons_append, List.nil_append, List.append_nil, List.getElem?_cons_zero, List.getElem?_cons_succ, List.getElem?_nil, List.set_cons_zero, List.set_cons_succ, ↓reduceIte, Bool.false_eq_true, Bool.not_true, Bool.not_false, Bool.true_and, Bool.false_and, Bool.and_true, Bool.and_false, Bool.or_true, Bool.or_false, Bool.true_or, Bool.false_or, Nat.reduceAdd, Nat.reduceSub, Nat.reduceLT, Nat.reduceLeDiff, true_and, and_true, and_self, decide_eq_true_eq, Nat.zero_lt_succ, Nat.lt_add_left_iff_pos, beq_self_eq_true, String.reduceBEq, String.reduceEq, Nat.le_refl, Nat.zero_le, Bool.true_eq_false, decide_true, decide_false, Int.reduceEq, Int.reduceLT, Int.reduceLE, Int.reduceSub, Int.reduceAdd, DL.wIfT, DL.wListRg, DL.eSortT, DL.eAddS, DL.eInS, DL.eLenS, DL.wSlS, DL.wI2, DL.evd_mx, DL.evd_mn, DL.evd_gcd, DL.wIStr, DL.wIEnumS, DL.eJnL, DL.eJnT, DL.wJoin, DL.eStrI, DL.eIntS, DL.strsD_map]
    refine ⟨fun j e => ∃ z5, e = [some (.dat (gD g)), some (.ob none (.lst ((st' ++ ([h.lf, h.rt].take j).flatten.map (fun x => (x, d + 1))).map pnD))), some (.dat (.int (((many + 1 : Nat)) : Int))), some (.dat (gD h)), some (.dat (.int d)), z5, none], ⟨z5, ?_⟩, ?_, ?_⟩
    · rw [gD_eq h]
      simp
    · rintro j x e hx ⟨z5, rfl⟩
      obtain ⟨sd, rfl, hsd, ht2⟩ : ∃ sd : List G, x = .tuple (sd.map gD) ∧ (sd = h.lf ∨ sd = h.rt) ∧ ([h.lf, h.rt].take (j + 1)).flatten = ([h.lf, h.rt].take j).flatten ++ sd := by
        have hj := (List.getElem?_eq_some_iff.mp hx).1
        have : j = 0 ∨ j = 1 := by simp at hj; omega
        rcases this with rfl | rfl
        · simp at hx
          exact ⟨h.lf, hx.symm, .inl rfl, by simp⟩
        · simp at hx
          exact ⟨h.rt, hx.symm, .inr rfl, by simp⟩
      have hsl2 := sides_len h
      have hsdl : sd.length ≤ 1500 := by rcases hsd with rfl | rfl <;> omega
      have c3 : ¬ (2000 : Int) < ((sd.length : Nat) : Int) := by omega
      dsimp only
      rw [ht2]
      have hl5 : (st' ++ ([h.lf, h.rt].take j).flatten.map (fun x => (x, d + 1))).length ≤ 4000 := by
        have hj := (List.getElem?_eq_some_iff.mp hx).1
        have h9 : st'.length ≤ ndS st' := hsl st'
        have : j = 0 ∨ j = 1 := by simp at hj; omega
        rcases this with rfl | rfl <;> simp <;> omega
      have e9 : st' ++ (([h.lf, h.rt].take j).flatten ++ sd).map (fun x => (x, d + 1)) = (st' ++ ([h.lf, h.rt].take j).flatten.map (fun x => (x, d + 1))) ++ sd.map (fun x => (x, d + 1)) := by simp
      rw [e9]
      generalize st' ++ ([h.lf, h.rt].take j).flatten.map (fun x => (x, d + 1)) = AC at hl5 ⊢
      simp -implicitDefEqProofs only [DL.WW, List.isEmpty_nil, List.map, List.length, List.length_cons, List.length_nil, List.length_set, List.replicate, List.append, List.cons_append, List.nil_append, List.append_nil, List.getElem?_cons_zero, List.getElem?_cons_succ, List.getElem?_nil, List.set_cons_zero, List.set_cons_succ, ↓reduceIte, Bool.false_eq_true, Bool.not_true, Bool.not_false, Bool.true_and, Bool.false_and, Bool.and_true, Bool.and_false, Bool.or_true, Bool.or_false, Bool.true_or, Bool.false_or, Nat.reduceAdd, Nat.reduceSub, Nat.reduceLT, Nat.reduceLeDiff, true_and, and_true, and_self, decide_eq_true_eq, Nat.zero_lt_succ, Nat.lt_add_left_iff_pos, beq_self_eq_true, String.reduceBEq, String.reduceEq, Nat.le_refl, Nat.zero_le, Bool.true_eq_false, decide_true, decide_false, Int.reduceEq, Int.reduceLT, Int.reduceLE, Int.reduceSub, Int.reduceAdd, DL.wIfT, DL.wListRg, DL.eSortT, DL.eAddS, DL.eInS, DL.eLenS, DL.wSlS, DL.wI2, DL.evd_mx, DL.evd_mn, DL.evd_gcd, DL.wIStr, DL.wIEnumS, DL.eJnL, DL.eJnT, DL.wJoin, DL.eStrI, DL.eIntS, DL.strsD_map, List.length_map, c3]
      refine lc_use ?_
      simp -implicitDefEqProofs only [DL.WW, List.isEmpty_nil, List.map, List.length, List.length_cons, List.length_nil, List.length_set, List.replicate, List.append, List.cons_append, List.nil_append, List.append_nil, List.getElem?_cons_zero, List.getElem?_cons_succ, List.getElem?_nil, List.set_cons_zero, List.set_cons_succ, ↓reduceIte, Bool.false_eq_true, Bool.not_true, Bool.not_false, Bool.true_and, Bool.false_and, Bool.and_true, Bool.and_false, Bool.or_true, Bool.or_false, Bool.true_or, Bool.false_or, Nat.reduceAdd, Nat.reduceSub, Nat.reduceLT, Nat.reduceLeDiff, true_and, and_true, and_self, decide_eq_true_eq, Nat.zero_lt_succ, Nat.lt_add_left_iff_pos, beq_self_eq_true, String.reduceBEq, String.reduceEq, Nat.le_refl, Nat.zero_le, Bool.true_eq_false, decide_true, decide_false, Int.reduceEq, Int.reduceLT, Int.reduceLE, Int.reduceSub, Int.reduceAdd, DL.wIfT, DL.wListRg, DL.eSortT, DL.eAddS, DL.eInS, DL.eLenS, DL.wSlS, DL.wI2, DL.evd_mx, DL.evd_mn, DL.evd_gcd, DL.wIStr, DL.wIEnumS, DL.eJnL, DL.eJnT, DL.wJoin, DL.eStrI, DL.eIntS, DL.strsD_map]
      refine lc_acc (fun j => (sd.take j).map fun x => pnD (x, d + 1)) rfl rfl (fun j hj => ?_) (fun j y hy => ?_) ?_
      · rw [List.length_map] at hj
        rw [List.length_map, List.length_take]
        omega
      · obtain ⟨y', hy', rfl⟩ := map_get hy
        simp -implicitDefEqProofs only [DL.WW, List.isEmpty_nil, List.map, List.length, List.length_cons, List.length_nil, List.length_set, List.replicate, List.append, List.cons_append, List.nil_append, List.append_nil, List.getElem?_cons_zero, List.getElem?_cons_succ, List.getElem?_nil, List.set_cons_zero, List.set_cons_succ, ↓reduceIte, Bool.false_eq_true, Bool.not_true, Bool.not_false, Bool.true_and, Bool.false_and, Bool.and_true, Bool.and_false, Bool.or_true, Bool.or_false, Bool.true_or, Bool.false_or, Nat.reduceAdd, Nat.reduceSub, Nat.reduceLT, Nat.reduceLeDiff, true_and, and_true, and_self, decide_eq_true_eq, Nat.zero_lt_succ, Nat.lt_add_left_iff_pos, beq_self_eq_true, String.reduceBEq, String.reduceEq, Nat.le_refl, Nat.zero_le, Bool.true_eq_false, decide_true, decide_false, Int.reduceEq, Int.reduceLT, Int.reduceLE, Int.reduceSub, Int.reduceAdd, DL.wIfT, DL.wListRg, DL.eSortT, DL.eAddS, DL.eInS, DL.eLenS, DL.wSlS, DL.wI2, DL.evd_mx, DL.evd_mn, DL.evd_gcd, DL.wIStr, DL.wIEnumS, DL.eJnL, DL.eJnT, DL.wJoin, DL.eStrI, DL.eIntS, DL.strsD_map]
        rw [List.take_succ, hy', List.map_append]
        rfl
      · have e8 : (sd.take (sd.map gD).length).map (fun x => pnD (x, d + 1)) = (sd.map (fun x => (x, d + 1))).map pnD := by rw [List.length_map, List.take_length, List.map_map]; rfl
        rw [e8]
        simp -implicitDefEqProofs only [DL.WW, List.isEmpty_nil, List.map, List.length, List.length_cons, List.length_nil, List.length_set, List.replicate, List.append, List.cons_append, List.nil_append, List.append_nil, List.getElem?_cons_zero, List.getElem?_cons_succ, List.getElem?_nil, List.set_cons_zero, List.set_cons_succ, ↓reduceIte, Bool.false_eq_true, Bool.not_true, Bool.not_false, Bool.true_and, Bool.false_and, Bool.and_true, Bool.and_false, Bool.or_true, Bool.or_false, Bool.true_or, Bool.false_or, Nat.reduceAdd, Nat.reduceSub, Nat.reduceLT, Nat.reduceLeDiff, true_and, and_true, and_self, decide_eq_true_eq, Nat.zero_lt_succ, Nat.lt_add_left_iff_pos, beq_self_eq_true, String.reduceBEq, String.reduceEq, Nat.le_refl, Nat.zero_le, Bool.true_eq_false, decide_true, decide_false, Int.reduceEq, Int.reduceLT, Int.reduceLE, Int.reduceSub, Int.reduceAdd, DL.wIfT, DL.wListRg, DL.eSortT, DL.eAddS, DL.eInS, DL.eLenS, DL.wSlS, DL.wI2, DL.evd_mx, DL.evd_mn, DL.evd_gcd, DL.wIStr, DL.wIEnumS, DL.eJnL, DL.eJnT, DL.wJoin, DL.eStrI, DL.eIntS, DL.strsD_map, List.length_map, List.map_append]
        exact ⟨by omega, _, rfl⟩
    · rintro e ⟨z5, rfl⟩
      refine ⟨ndS st' + ndL h.lf + ndL h.rt, by rw [nd_eq h]; omega, _, many + 1, _, _, _, ?_, ?_, ?_, rfl⟩
      · rw [e7]
      · rw [e7]
        rw [nd_eq h] at hm
        omega
      · intro p hp
        rcases List.mem_append.mp hp with hp | hp
        · exact hh p (by simp [hp])
        · obtain ⟨x, hx, rfl⟩ := List.mem_map.mp hp
          have : x ∈ h.lf ∨ x ∈ h.rt := by simpa using hx
          have := ht_lt this
          show ht x + (d + 1) ≤ 28
          omega
def F_need_game : FSp := fun args P => ∃ g : G, args = [some (.dat (gD g))] ∧ Sm g ∧ P (.dat .none) [none]
theorem ok_need_game {k : Nat} (T : Txt K mg) (G_is_game : FnOk P w K mg base CX0 k T.a_is_game T.d_is_game ["value"] (spD K F_is_game)) : FnOk P w K mg base CX0 (k + 1) T.a_need_game T.d_need_game ["value"] (spD K F_need_game) := by
  refine T.F_need_game.ok sc_need_game (fun vs H Q E h => spD_len (fun args P hF => ?_) h) (fun cdv A outer s H vs Q E hr h => ⟨_, (pss_one (ps_if (pt_not (pt_val (pe_call G_is_game hr rfl T.g_is_game T.F_is_game.kp T.b_is_game .nil pass0 (pa_cons (pv 0) pa_nil))))
  (pss_one ps_never)
  pss_nil)), fn_run (N := ["value"]) h (fun A' Hz' => (ss_if (st_not (st_B (se_call (sa_cons se_var sa_nil))))
  ss_never
  ss_next)) (fun args P hl hF => ?_)⟩)
  · obtain ⟨g, rfl, _⟩ := hF
    rfl
  obtain ⟨g, rfl, hg, hP⟩ := hF
  simp -implicitDefEqProofs only [DL.WW, List.isEmpty_nil, List.map, List.length, List.length_cons, List.length_nil, List.length_set, List.replicate, List.append, List.cons_append, List.nil_append, List.append_nil, List.getElem?_cons_zero, List.getElem?_cons_succ, List.getElem?_nil, List.set_cons_zero, List.set_cons_succ, ↓reduceIte, Bool.false_eq_true, Bool.not_true, Bool.not_false, Bool.true_and, Bool.false_and, Bool.and_true, Bool.and_false, Bool.or_true, Bool.or_false, Bool.true_or, Bool.false_or, Nat.reduceAdd, Nat.reduceSub, Nat.reduceLT, Nat.reduceLeDiff, true_and, and_true, and_self, decide_eq_true_eq, Nat.zero_lt_succ, Nat.lt_add_left_iff_pos, beq_self_eq_true, String.reduceBEq, String.reduceEq, Nat.le_refl, Nat.zero_le, Bool.true_eq_false, decide_true, decide_false, Int.reduceEq, Int.reduceLT, Int.reduceLE, Int.reduceSub, Int.reduceAdd, DL.wIfT, DL.wListRg, DL.eSortT, DL.eAddS, DL.eInS, DL.eLenS, DL.wSlS, DL.wI2, DL.evd_mx, DL.evd_mn, DL.evd_gcd, DL.wIStr, DL.wIEnumS, DL.eJnL, DL.eJnT, DL.wJoin, DL.eStrI, DL.eIntS, DL.strsD_map]
  refine ⟨g, rfl, hg, ?_⟩
  simp -implicitDefEqProofs only [DL.WW, List.isEmpty_nil, List.map, List.length, List.length_cons, List.length_nil, List.length_set, List.replicate, List.append, List.cons_append, List.nil_append, List.append_nil, List.getElem?_cons_zero, List.getElem?_cons_succ, List.getElem?_nil, List.set_cons_zero, List.set_cons_succ, ↓reduceIte, Bool.false_eq_true, Bool.not_true, Bool.not_false, Bool.true_and, Bool.false_and, Bool.and_true, Bool.and_false, Bool.or_true, Bool.or_false, Bool.true_or, Bool.false_or, Nat.reduceAdd, Nat.reduceSub, Nat.reduceLT, Nat.reduceLeDiff, true_and, and_true, and_self, decide_eq_true_eq, Nat.zero_lt_succ, Nat.lt_add_left_iff_pos, beq_self_eq_true, String.reduceBEq, String.reduceEq, Nat.le_refl, Nat.zero_le, Bool.true_eq_false, decide_true, decide_false, Int.reduceEq, Int.reduceLT, Int.reduceLE, Int.reduceSub, Int.reduceAdd, DL.wIfT, DL.wListRg, DL.eSortT, DL.eAddS, DL.eInS, DL.eLenS, DL.wSlS, DL.wI2, DL.evd_mx, DL.evd_mn, DL.evd_gcd, DL.wIStr, DL.wIEnumS, DL.eJnL, DL.eJnT, DL.wJoin, DL.eStrI, DL.eIntS, DL.strsD_map]
  exact hP
def F_nimber_form : FSp := fun args P => ∃ k : Nat, args = [some (.dat (.int (k : Int)))] ∧ k ≤ 10 ∧ P (.dat (gD (nimG k))) [none]
theorem ok_nimber_form {k : Nat} (T : Txt K mg)  : FnOk P w K mg base CX0 (k + 1) T.a_nimber_form T.d_nimber_form ["size"] (spD K F_nimber_form) := by
  refine T.F_nimber_form.ok sc_nimber_form (fun vs H Q E h => spD_len (fun args P hF => ?_) h) (fun cdv A outer s H vs Q E hr h => ⟨_, (pss_cons (ps_set (i := 1) sc_nimber_form.nd rfl (Or.inl rfl) (pe_lst pa_nil))
  (pss_cons (ps_for PassesOwn.never rfl (pi_range1 rfl T.m_range (pa_cons (pv 0) pa_nil)) (pg_name (i := 2) sc_nimber_form.nd rfl (Or.inl rfl))
  (pss_one (ps_expr (pe_bmK (K := K) rfl PySem.F.plainAttrs_list PySem.F.slot_list_append PySem.F.type_list_append mt_append (pv 1) (pa_cons (pe_tup (pa_cons (pe_callTy (call_tuple_ofK (K := K) rfl) rfl T.m_tuple (by decide +kernel) (pa_cons (pv 1) pa_nil)) (pa_cons (pe_callTy (call_tuple_ofK (K := K) rfl) rfl T.m_tuple (by decide +kernel) (pa_cons (pv 1) pa_nil)) pa_nil))) pa_nil)))))
  (pss_one (ps_ret (pe_tup (pa_cons (pe_callTy (call_tuple_ofK (K := K) rfl) rfl T.m_tuple (by decide +kernel) (pa_cons (pv 1) pa_nil)) (pa_cons (pe_callTy (call_tuple_ofK (K := K) rfl) rfl T.m_tuple (by decide +kernel) (pa_cons (pv 1) pa_nil)) pa_nil))))))), fn_run (N := ["size", "rows", "at"]) h (fun A' Hz' => (ss_seq (ss_asg (se_lst sa_nil) sg_name)
  (ss_seq (ss_for (si_rng1 se_var) sg_name
  (ss_drop (se_app (se_tup (sa_cons (se_cb1 sc_tupOf se_var) (sa_cons (se_cb1 sc_tupOf se_var) sa_nil))))))
  (ss_ret (se_tup (sa_cons (se_cb1 sc_tupOf se_var) (sa_cons (se_cb1 sc_tupOf se_var) sa_nil))))))) (fun args P hl hF => ?_)⟩)
  · obtain ⟨k, rfl, _⟩ := hF
    rfl
  obtain ⟨k, rfl, hk, hP⟩ := hF
  simp -implicitDefEqProofs only [DL.WW, List.isEmpty_nil, List.map, List.length, List.length_cons, List.length_nil, List.length_set, List.replicate, List.append, List.cons_append, List.nil_append, List.append_nil, List.getElem?_cons_zero, List.getElem?_cons_succ, List.getElem?_nil, List.set_cons_zero, List.set_cons_succ, ↓reduceIte, Bool.false_eq_true, Bool.not_true, Bool.not_false, Bool.true_and, Bool.false_and, Bool.and_true, Bool.and_false, Bool.or_true, Bool.or_false, Bool.true_or, Bool.false_or, Nat.reduceAdd, Nat.reduceSub, Nat.reduceLT, Nat.reduceLeDiff, true_and, and_true, and_self, decide_eq_true_eq, Nat.zero_lt_succ, Nat.lt_add_left_iff_pos, beq_self_eq_true, String.reduceBEq, String.reduceEq, Nat.le_refl, Nat.zero_le, Bool.true_eq_false, decide_true, decide_false, Int.reduceEq, Int.reduceLT, Int.reduceLE, Int.reduceSub, Int.reduceAdd, DL.wIfT, DL.wListRg, DL.eSortT, DL.eAddS, DL.eInS, DL.eLenS, DL.wSlS, DL.wI2, DL.evd_mx, DL.evd_mn, DL.evd_gcd, DL.wIStr, DL.wIEnumS, DL.eJnL, DL.eJnT, DL.wJoin, DL.eStrI, DL.eIntS, DL.strsD_map]
  refine for_use ?_
  simp -implicitDefEqProofs only [DL.WW, List.isEmpty_nil, List.map, List.length, List.length_cons, List.length_nil, List.length_set, List.replicate, List.append, List.cons_append, List.nil_append, List.append_nil, List.getElem?_cons_zero, List.getElem?_cons_succ, List.getElem?_nil, List.set_cons_zero, List.set_cons_succ, ↓reduceIte, Bool.false_eq_true, Bool.not_true, Bool.not_false, Bool.true_and, Bool.false_and, Bool.and_true, Bool.and_false, Bool.or_true, Bool.or_false, Bool.true_or, Bool.false_or, Nat.reduceAdd, Nat.reduceSub, Nat.reduceLT, Nat.reduceLeDiff, true_and, and_true, and_self, decide_eq_true_eq, Nat.zero_lt_succ, Nat.lt_add_left_iff_pos, beq_self_eq_true, String.reduceBEq, String.reduceEq, Nat.le_refl, Nat.zero_le, Bool.true_eq_false, decide_true, decide_false, Int.reduceEq, Int.reduceLT, Int.reduceLE, Int.reduceSub, Int.reduceAdd, DL.wIfT, DL.wListRg, DL.eSortT, DL.eAddS, DL.eInS, DL.eLenS, DL.wSlS, DL.wI2, DL.evd_mx, DL.evd_mn, DL.evd_gcd, DL.wIStr, DL.wIEnumS, DL.eJnL, DL.eJnT, DL.wJoin, DL.eStrI, DL.eIntS, DL.strsD_map]
  have hrl : ∀ m, (rangeD 0 m).length = m := fun m => by simp [rangeD]
  have nl : ∀ k, (nimL k).length = k := fun k => by
    induction k with
    | zero => rfl
    | succ k ih => rw [nimL, List.length_append, ih]; rfl
  refine ⟨⟨by omega, by omega⟩, fun i e => ∃ z, e = [some (.dat (.int k)), some (.ob none (.lst ((nimL i).map gD))), z], ⟨none, rfl⟩, ?_, ?_⟩
  · rintro i d e hd ⟨z, rfl⟩
    have hi := (List.getElem?_eq_some_iff.mp hd).1
    rw [hrl] at hi
    simp -implicitDefEqProofs only [DL.WW, List.isEmpty_nil, List.map, List.length, List.length_cons, List.length_nil, List.length_set, List.replicate, List.append, List.cons_append, List.nil_append, List.append_nil, List.getElem?_cons_zero, List.getElem?_cons_succ, List.getElem?_nil, List.set_cons_zero, List.set_cons_succ, ↓reduceIte, Bool.false_eq_true, Bool.not_true, Bool.not_false, Bool.true_and, Bool.false_and, Bool.and_true, Bool.and_false, Bool.or_true, Bool.or_false, Bool.true_or, Bool.false_or, Nat.reduceAdd, Nat.reduceSub, Nat.reduceLT, Nat.reduceLeDiff, true_and, and_true, and_self, decide_eq_true_eq, Nat.zero_lt_succ, Nat.lt_add_left_iff_pos, beq_self_eq_true, String.reduceBEq, String.reduceEq, Nat.le_refl, Nat.zero_le, Bool.true_eq_false, decide_true, decide_false, Int.reduceEq, Int.reduceLT, Int.reduceLE, Int.reduceSub, Int.reduceAdd, DL.wIfT, DL.wListRg, DL.eSortT, DL.eAddS, DL.eInS, DL.eLenS, DL.wSlS, DL.wI2, DL.evd_mx, DL.evd_mn, DL.evd_gcd, DL.wIStr, DL.wIEnumS, DL.eJnL, DL.eJnT, DL.wJoin, DL.eStrI, DL.eIntS, DL.strsD_map, List.length_map, nl]
    refine ⟨by omega, some (.dat d), ?_⟩
    rw [nimL, List.map_append, List.map_singleton, gD_mk]
  · rintro e ⟨z, rfl⟩
    rw [hrl]
    simp -implicitDefEqProofs only [DL.WW, List.isEmpty_nil, List.map, List.length, List.length_cons, List.length_nil, List.length_set, List.replicate, List.append, List.cons_append, List.nil_append, List.append_nil, List.getElem?_cons_zero, List.getElem?_cons_succ, List.getElem?_nil, List.set_cons_zero, List.set_cons_succ, ↓reduceIte, Bool.false_eq_true, Bool.not_true, Bool.not_false, Bool.true_and, Bool.false_and, Bool.and_true, Bool.and_false, Bool.or_true, Bool.or_false, Bool.true_or, Bool.false_or, Nat.reduceAdd, Nat.reduceSub, Nat.reduceLT, Nat.reduceLeDiff, true_and, and_true, and_self, decide_eq_true_eq, Nat.zero_lt_succ, Nat.lt_add_left_iff_pos, beq_self_eq_true, String.reduceBEq, String.reduceEq, Nat.le_refl, Nat.zero_le, Bool.true_eq_false, decide_true, decide_false, Int.reduceEq, Int.reduceLT, Int.reduceLE, Int.reduceSub, Int.reduceAdd, DL.wIfT, DL.wListRg, DL.eSortT, DL.eAddS, DL.eInS, DL.eLenS, DL.wSlS, DL.wI2, DL.evd_mx, DL.evd_mn, DL.evd_gcd, DL.wIStr, DL.wIEnumS, DL.eJnL, DL.eJnT, DL.wJoin, DL.eStrI, DL.eIntS, DL.strsD_map]
    unfold nimG at hP
    rw [gD_mk] at hP
    exact hP
theorem side_sh {h : G} (hs : Sm h) (gs : List G) (hg : gs = h.lf ∨ gs = h.rt) : SeqAt.shaped (.tuple (gs.map gD)) = true := by
  have sl := sides_len h
  have h1 := hs.1
  have h2 := hs.2
  refine (Fine.tup (m := 63) (by rw [List.length_map]; rcases hg with rfl | rfl <;> omega) fun x hx => ?_).ok (by decide)
  obtain ⟨y, hy, rfl⟩ := List.mem_map.mp hx
  have hy' : y ∈ h.lf ∨ y ∈ h.rt := by
    rcases hg with rfl | rfl
    · exact .inl hy
    · exact .inr hy
  have := ht_lt hy'
  have := nd_lt hy'
  exact (fine_g 31 y (by omega) (by omega)).mono (by decide)
def F_integer_of : FSp := fun args P => ∃ g : G, args = [some (.dat (gD g))] ∧ Sm g ∧ P (.dat (match intOf 18 0 g with | none => .none | some n => .int n)) [none]
theorem ok_integer_of {k : Nat} (T : Txt K mg)  : FnOk P w K mg base CX0 (k + 1) T.a_integer_of T.d_integer_of ["game"] (spD K F_integer_of) := by
  refine T.F_integer_of.ok sc_integer_of (fun vs H Q E h => spD_len (fun args P hF => ?_) h) (fun cdv A outer s H vs Q E hr h => ⟨_, (pss_cons (ps_set (i := 1) sc_integer_of.nd rfl (Or.inl rfl) pe_int)
  (pss_cons (ps_while PassesOwn.never (pt_cmpR (op_neDK (K := K) rfl hr.units) (pv 0) (pe_glob (v := T.v_ZERO) rfl T.c_ZERO T.r_ZERO) (nomark _))
  (pss_cons (ps_asg (pv 0) (pg_tupK (K := K) (n := 2) rfl rfl (pgs_cons (pg_name (i := 2) sc_integer_of.nd rfl (Or.inl rfl)) (pgs_cons (pg_name (i := 3) sc_integer_of.nd rfl (Or.inl rfl)) pgs_nil))))
  (pss_cons (ps_if (PW.pt (pw_or (pt_cmpR (op_neDK (K := K) rfl hr.units) (pe_op op_add (pe_callB (call_lenK (K := K) rfl) rfl T.m_len PySem.boot_len (pa_cons (pv 2) pa_nil)) (pe_callB (call_lenK (K := K) rfl) rfl T.m_len PySem.boot_len (pa_cons (pv 3) pa_nil))) pe_int (nomark _)) (pw_or1 (pt_cmpR (op_eqDK (K := K) rfl hr.units) (pe_callB call_abs rfl T.m_abs (by decide +kernel) (pa_cons (pv 1) pa_nil)) (pe_glob (v := .int 16) rfl T.c_MOST_INTEGER ⟨_, rfl⟩) (nomark _)))))
  (pss_one (ps_ret pe_non))
  pss_nil)
  (pss_cons (ps_set (i := 4) sc_integer_of.nd rfl (Or.inl rfl) (pe_ifExp (pt_cmpR (op_eqDK (K := K) rfl hr.units) (pv 3) (pe_tup pa_nil) (nomark _)) pe_int (pe_un un_neg pe_int)))
  (pss_cons (ps_if (pt_cmpR op_lt (pe_op op_mul (pv 1) (pv 4)) pe_int (nomark _))
  (pss_one (ps_ret pe_non))
  pss_nil)
  (pss_one (ps_par (i := 1) (j := 0) rfl sc_integer_of.nd rfl rfl (by decide) rfl rfl (pa_cons (pe_op op_add (pv 1) (pv 4)) (pa_cons (pe_ix (ix_tupK (K := K) rfl) (pe_op (op_catAK (K := K) rfl) (pv 2) (pv 3)) pe_int (fun _ _ => rfl)) pa_nil)) rfl)))))))
  (pss_one (ps_ret (pv 1))))), fn_run (N := ["game", "found", "lefts", "rights", "step"]) h (fun A' Hz' => (ss_seq (ss_asg se_int sg_name)
  (ss_seq (ss_while (st_test (se_op sr_neD se_var (se_gd T.q_ZERO)))
  (ss_seq (ss_asg se_var (sg_tup (sgs_cons sg_name (sgs_cons sg_name sgs_nil))))
  (ss_seq (ss_if (st_or (st_test (se_op sr_neD (se_op (sr_I0 (fun _ _ => rfl)) (se_cb1 sc_len se_var) (se_cb1 sc_len se_var)) se_int)) (st_test (se_op sr_eqD (se_cb1 sc_abs se_var) se_int)))
  (ss_ret se_non)
  ss_next)
  (ss_seq (ss_asg (se_if (st_test (se_op sr_eqD se_var (se_tup sa_nil))) se_int (se_un (fun _ => rfl) se_int)) sg_name)
  (ss_seq (ss_if (st_test (se_op (sr_I0 (fun _ _ => rfl)) (se_op (sr_I (fun _ _ => rfl)) se_var se_var) se_int))
  (ss_ret se_non)
  ss_next)
  (ss_par (by decide) (se_op (sr_I0 (fun _ _ => rfl)) se_var se_var) (se_op sr_ixT (se_op sr_catA se_var se_var) se_int)))))))
  (ss_ret se_var)))) (fun args P hl hF => ?_)⟩)
  · obtain ⟨g, rfl, _⟩ := hF
    rfl
  obtain ⟨g, rfl, hg, hP⟩ := hF
  simp -implicitDefEqProofs only [DL.WW, List.isEmpty_nil, List.map, List.length, List.length_cons, List.length_nil, List.length_set, List.replicate, List.append, List.cons_append, List.nil_append, List.append_nil, List.getElem?_cons_zero, List.getElem?_cons_succ, List.getElem?_nil, List.set_cons_zero, List.set_cons_succ, ↓reduceIte, Bool.false_eq_true, Bool.not_true, Bool.not_false, Bool.true_and, Bool.false_and, Bool.and_true, Bool.and_false, Bool.or_true, Bool.or_false, Bool.true_or, Bool.false_or, Nat.reduceAdd, Nat.reduceSub, Nat.reduceLT, Nat.reduceLeDiff, true_and, and_true, and_self, decide_eq_true_eq, Nat.zero_lt_succ, Nat.lt_add_left_iff_pos, beq_self_eq_true, String.reduceBEq, String.reduceEq, Nat.le_refl, Nat.zero_le, Bool.true_eq_false, decide_true, decide_false, Int.reduceEq, Int.reduceLT, Int.reduceLE, Int.reduceSub, Int.reduceAdd, DL.wIfT, DL.wListRg, DL.eSortT, DL.eAddS, DL.eInS, DL.eLenS, DL.wSlS, DL.wI2, DL.evd_mx, DL.evd_mn, DL.evd_gcd, DL.wIStr, DL.wIEnumS, DL.eJnL, DL.eJnT, DL.wJoin, DL.eStrI, DL.eIntS, DL.strsD_map]
  refine ⟨fun m e => ∃ (n : Int) (h : G) (z2 z3 z4 : Option B), Sm h ∧ n.natAbs ≤ 16 ∧ m + n.natAbs = 18 ∧ intOf m n h = intOf 18 0 g ∧ e = [some (.dat (gD h)), some (.dat (.int n)), z2, z3, z4], ⟨18, 0, g, none, none, none, hg, by decide, rfl, rfl, rfl⟩, ?_⟩
  rintro m e ⟨n, h, z2, z3, z4, hh, hm, hmn, hi, rfl⟩
  simp -implicitDefEqProofs only [DL.WW, List.isEmpty_nil, List.map, List.length, List.length_cons, List.length_nil, List.length_set, List.replicate, List.append, List.cons_append, List.nil_append, List.append_nil, List.getElem?_cons_zero, List.getElem?_cons_succ, List.getElem?_nil, List.set_cons_zero, List.set_cons_succ, ↓reduceIte, Bool.false_eq_true, Bool.not_true, Bool.not_false, Bool.true_and, Bool.false_and, Bool.and_true, Bool.and_false, Bool.or_true, Bool.or_false, Bool.true_or, Bool.false_or, Nat.reduceAdd, Nat.reduceSub, Nat.reduceLT, Nat.reduceLeDiff, true_and, and_true, and_self, decide_eq_true_eq, Nat.zero_lt_succ, Nat.lt_add_left_iff_pos, beq_self_eq_true, String.reduceBEq, String.reduceEq, Nat.le_refl, Nat.zero_le, Bool.true_eq_false, decide_true, decide_false, Int.reduceEq, Int.reduceLT, Int.reduceLE, Int.reduceSub, Int.reduceAdd, DL.wIfT, DL.wListRg, DL.eSortT, DL.eAddS, DL.eInS, DL.eLenS, DL.wSlS, DL.wI2, DL.evd_mx, DL.evd_mn, DL.evd_gcd, DL.wIStr, DL.wIEnumS, DL.eJnL, DL.eJnT, DL.wJoin, DL.eStrI, DL.eIntS, DL.strsD_map, dZ, eqv_g]
  refine ⟨hh.sh, sm_z.sh, ?_⟩
  obtain ⟨f, rfl⟩ : ∃ f, m = f + 1 := ⟨m - 1, by omega⟩
  rw [intOf] at hi
  by_cases c : eqG h z = true
  · rw [if_pos c] at hi
    rw [← hi] at hP
    simp -implicitDefEqProofs only [DL.WW, List.isEmpty_nil, List.map, List.length, List.length_cons, List.length_nil, List.length_set, List.replicate, List.append, List.cons_append, List.nil_append, List.append_nil, List.getElem?_cons_zero, List.getElem?_cons_succ, List.getElem?_nil, List.set_cons_zero, List.set_cons_succ, ↓reduceIte, Bool.false_eq_true, Bool.not_true, Bool.not_false, Bool.true_and, Bool.false_and, Bool.and_true, Bool.and_false, Bool.or_true, Bool.or_false, Bool.true_or, Bool.false_or, Nat.reduceAdd, Nat.reduceSub, Nat.reduceLT, Nat.reduceLeDiff, true_and, and_true, and_self, decide_eq_true_eq, Nat.zero_lt_succ, Nat.lt_add_left_iff_pos, beq_self_eq_true, String.reduceBEq, String.reduceEq, Nat.le_refl, Nat.zero_le, Bool.true_eq_false, decide_true, decide_false, Int.reduceEq, Int.reduceLT, Int.reduceLE, Int.reduceSub, Int.reduceAdd, DL.wIfT, DL.wListRg, DL.eSortT, DL.eAddS, DL.eInS, DL.eLenS, DL.wSlS, DL.wI2, DL.evd_mx, DL.evd_mn, DL.evd_gcd, DL.wIStr, DL.wIEnumS, DL.eJnL, DL.eJnT, DL.wJoin, DL.eStrI, DL.eIntS, DL.strsD_map, c]
    exact hP
  · rw [if_neg c] at hi
    have cf : eqG h z = false := by simpa using c
    simp -implicitDefEqProofs only [DL.WW, List.isEmpty_nil, List.map, List.length, List.length_cons, List.length_nil, List.length_set, List.replicate, List.append, List.cons_append, List.nil_append, List.append_nil, List.getElem?_cons_zero, List.getElem?_cons_succ, List.getElem?_nil, List.set_cons_zero, List.set_cons_succ, ↓reduceIte, Bool.false_eq_true, Bool.not_true, Bool.not_false, Bool.true_and, Bool.false_and, Bool.and_true, Bool.and_false, Bool.or_true, Bool.or_false, Bool.true_or, Bool.false_or, Nat.reduceAdd, Nat.reduceSub, Nat.reduceLT, Nat.reduceLeDiff, true_and, and_true, and_self, decide_eq_true_eq, Nat.zero_lt_succ, Nat.lt_add_left_iff_pos, beq_self_eq_true, String.reduceBEq, String.reduceEq, Nat.le_refl, Nat.zero_le, Bool.true_eq_false, decide_true, decide_false, Int.reduceEq, Int.reduceLT, Int.reduceLE, Int.reduceSub, Int.reduceAdd, DL.wIfT, DL.wListRg, DL.eSortT, DL.eAddS, DL.eInS, DL.eLenS, DL.wSlS, DL.wI2, DL.evd_mx, DL.evd_mn, DL.evd_gcd, DL.wIStr, DL.wIEnumS, DL.eJnL, DL.eJnT, DL.wJoin, DL.eStrI, DL.eIntS, DL.strsD_map, cf, gD_eq h, List.length_map, List.length_append]
    by_cases hl1 : h.lf.length + h.rt.length = 1
    · have d1 : decide (((h.lf.length : Nat) : Int) + ((h.rt.length : Nat) : Int) = 1) = true := by rw [decide_eq_true_eq]; omega
      have d2 : (((if n < 0 then -n else n) : Int) = 16) = (n.natAbs = 16) := propext ⟨fun h => by split at h <;> omega, fun h => by split <;> omega⟩
      simp -implicitDefEqProofs only [DL.WW, List.isEmpty_nil, List.map, List.length, List.length_cons, List.length_nil, List.length_set, List.replicate, List.append, List.cons_append, List.nil_append, List.append_nil, List.getElem?_cons_zero, List.getElem?_cons_succ, List.getElem?_nil, List.set_cons_zero, List.set_cons_succ, ↓reduceIte, Bool.false_eq_true, Bool.not_true, Bool.not_false, Bool.true_and, Bool.false_and, Bool.and_true, Bool.and_false, Bool.or_true, Bool.or_false, Bool.true_or, Bool.false_or, Nat.reduceAdd, Nat.reduceSub, Nat.reduceLT, Nat.reduceLeDiff, true_and, and_true, and_self, decide_eq_true_eq, Nat.zero_lt_succ, Nat.lt_add_left_iff_pos, beq_self_eq_true, String.reduceBEq, String.reduceEq, Nat.le_refl, Nat.zero_le, Bool.true_eq_false, decide_true, decide_false, Int.reduceEq, Int.reduceLT, Int.reduceLE, Int.reduceSub, Int.reduceAdd, DL.wIfT, DL.wListRg, DL.eSortT, DL.eAddS, DL.eInS, DL.eLenS, DL.wSlS, DL.wI2, DL.evd_mx, DL.evd_mn, DL.evd_gcd, DL.wIStr, DL.wIEnumS, DL.eJnL, DL.eJnT, DL.wJoin, DL.eStrI, DL.eIntS, DL.strsD_map, d1, d2]
      by_cases c16 : n.natAbs = 16
      · rw [if_pos (.inr c16)] at hi
        rw [← hi] at hP
        simp -implicitDefEqProofs only [DL.WW, List.isEmpty_nil, List.map, List.length, List.length_cons, List.length_nil, List.length_set, List.replicate, List.append, List.cons_append, List.nil_append, List.append_nil, List.getElem?_cons_zero, List.getElem?_cons_succ, List.getElem?_nil, List.set_cons_zero, List.set_cons_succ, ↓reduceIte, Bool.false_eq_true, Bool.not_true, Bool.not_false, Bool.true_and, Bool.false_and, Bool.and_true, Bool.and_false, Bool.or_true, Bool.or_false, Bool.true_or, Bool.false_or, Nat.reduceAdd, Nat.reduceSub, Nat.reduceLT, Nat.reduceLeDiff, true_and, and_true, and_self, decide_eq_true_eq, Nat.zero_lt_succ, Nat.lt_add_left_iff_pos, beq_self_eq_true, String.reduceBEq, String.reduceEq, Nat.le_refl, Nat.zero_le, Bool.true_eq_false, decide_true, decide_false, Int.reduceEq, Int.reduceLT, Int.reduceLE, Int.reduceSub, Int.reduceAdd, DL.wIfT, DL.wListRg, DL.eSortT, DL.eAddS, DL.eInS, DL.eLenS, DL.wSlS, DL.wI2, DL.evd_mx, DL.evd_mn, DL.evd_gcd, DL.wIStr, DL.wIEnumS, DL.eJnL, DL.eJnT, DL.wJoin, DL.eStrI, DL.eIntS, DL.strsD_map, c16]
        exact hP
      · rw [if_neg (by omega)] at hi
        simp -implicitDefEqProofs only [DL.WW, List.isEmpty_nil, List.map, List.length, List.length_cons, List.length_nil, List.length_set, List.replicate, List.append, List.cons_append, List.nil_append, List.append_nil, List.getElem?_cons_zero, List.getElem?_cons_succ, List.getElem?_nil, List.set_cons_zero, List.set_cons_succ, ↓reduceIte, Bool.false_eq_true, Bool.not_true, Bool.not_false, Bool.true_and, Bool.false_and, Bool.and_true, Bool.and_false, Bool.or_true, Bool.or_false, Bool.true_or, Bool.false_or, Nat.reduceAdd, Nat.reduceSub, Nat.reduceLT, Nat.reduceLeDiff, true_and, and_true, and_self, decide_eq_true_eq, Nat.zero_lt_succ, Nat.lt_add_left_iff_pos, beq_self_eq_true, String.reduceBEq, String.reduceEq, Nat.le_refl, Nat.zero_le, Bool.true_eq_false, decide_true, decide_false, Int.reduceEq, Int.reduceLT, Int.reduceLE, Int.reduceSub, Int.reduceAdd, DL.wIfT, DL.wListRg, DL.eSortT, DL.eAddS, DL.eInS, DL.eLenS, DL.wSlS, DL.wI2, DL.evd_mx, DL.evd_mn, DL.evd_gcd, DL.wIStr, DL.wIEnumS, DL.eJnL, DL.eJnT, DL.wJoin, DL.eStrI, DL.eIntS, DL.strsD_map, c16]
        refine ⟨side_sh hh _ (.inr rfl), ?_⟩
        obtain ⟨l, r⟩ := h
        cases r with
        | nil =>
          obtain ⟨x, rfl⟩ : ∃ x, l = [x] := by
            cases l with
            | nil => cases hl1
            | cons x l =>
              cases l with
              | nil => exact ⟨x, rfl⟩
              | cons y l => simp [G.lf, G.rt] at hl1
          have es : stp (G.mk [x] []) = 1 := rfl
          have e1 : (G.mk [x] []).rt = [] := rfl
          have e2 : (G.mk [x] []).lf = [x] := rfl
          rw [es] at hi
          simp -implicitDefEqProofs only [DL.WW, List.isEmpty_nil, List.map, List.length, List.length_cons, List.length_nil, List.length_set, List.replicate, List.append, List.cons_append, List.nil_append, List.append_nil, List.getElem?_cons_zero, List.getElem?_cons_succ, List.getElem?_nil, List.set_cons_zero, List.set_cons_succ, ↓reduceIte, Bool.false_eq_true, Bool.not_true, Bool.not_false, Bool.true_and, Bool.false_and, Bool.and_true, Bool.and_false, Bool.or_true, Bool.or_false, Bool.true_or, Bool.false_or, Nat.reduceAdd, Nat.reduceSub, Nat.reduceLT, Nat.reduceLeDiff, true_and, and_true, and_self, decide_eq_true_eq, Nat.zero_lt_succ, Nat.lt_add_left_iff_pos, beq_self_eq_true, String.reduceBEq, String.reduceEq, Nat.le_refl, Nat.zero_le, Bool.true_eq_false, decide_true, decide_false, Int.reduceEq, Int.reduceLT, Int.reduceLE, Int.reduceSub, Int.reduceAdd, DL.wIfT, DL.wListRg, DL.eSortT, DL.eAddS, DL.eInS, DL.eLenS, DL.wSlS, DL.wI2, DL.evd_mx, DL.evd_mn, DL.evd_gcd, DL.wIStr, DL.wIEnumS, DL.eJnL, DL.eJnT, DL.wJoin, DL.eStrI, DL.eIntS, DL.strsD_map, e1, e2, List.map_nil]
          refine ⟨.inr ⟨by decide, by decide⟩, ?_⟩
          by_cases cn : n * 1 < 0
          · rw [if_pos cn] at hi ⊢
            rw [← hi] at hP
            exact hP
          · rw [if_neg cn] at hi ⊢
            exact ⟨by decide, f, by omega, n + 1, x, _, _, _, hh.of (.inl (by rw [e2]; exact List.mem_singleton_self _)), by omega, by omega, hi, rfl⟩
        | cons y r =>
          have hr : l = [] ∧ r = [] := by
            cases l with
            | nil =>
              cases r with
              | nil => exact ⟨rfl, rfl⟩
              | cons y' r => simp [G.lf, G.rt] at hl1
            | cons x l => simp [G.lf, G.rt] at hl1; omega
          obtain ⟨rfl, rfl⟩ := hr
          have es : stp (G.mk [] [y]) = -1 := rfl
          have e1 : (G.mk [] [y]).rt = [y] := rfl
          have e2 : (G.mk [] [y]).lf = [] := rfl
          rw [es] at hi
          simp -implicitDefEqProofs only [DL.WW, List.isEmpty_nil, List.map, List.length, List.length_cons, List.length_nil, List.length_set, List.replicate, List.append, List.cons_append, List.nil_append, List.append_nil, List.getElem?_cons_zero, List.getElem?_cons_succ, List.getElem?_nil, List.set_cons_zero, List.set_cons_succ, ↓reduceIte, Bool.false_eq_true, Bool.not_true, Bool.not_false, Bool.true_and, Bool.false_and, Bool.and_true, Bool.and_false, Bool.or_true, Bool.or_false, Bool.true_or, Bool.false_or, Nat.reduceAdd, Nat.reduceSub, Nat.reduceLT, Nat.reduceLeDiff, true_and, and_true, and_self, decide_eq_true_eq, Nat.zero_lt_succ, Nat.lt_add_left_iff_pos, beq_self_eq_true, String.reduceBEq, String.reduceEq, Nat.le_refl, Nat.zero_le, Bool.true_eq_false, decide_true, decide_false, Int.reduceEq, Int.reduceLT, Int.reduceLE, Int.reduceSub, Int.reduceAdd, DL.wIfT, DL.wListRg, DL.eSortT, DL.eAddS, DL.eInS, DL.eLenS, DL.wSlS, DL.wI2, DL.evd_mx, DL.evd_mn, DL.evd_gcd, DL.wIStr, DL.wIEnumS, DL.eJnL, DL.eJnT, DL.wJoin, DL.eStrI, DL.eIntS, DL.strsD_map, e1, e2, List.map_nil]
          have e3 : [gD y].isEmpty = false := rfl
          rw [e3, if_neg (by decide)]
          refine ⟨.inr ⟨by decide, by decide⟩, ?_⟩
          by_cases cn : n * -1 < 0
          · rw [if_pos cn] at hi ⊢
            rw [← hi] at hP
            exact hP
          · rw [if_neg cn] at hi ⊢
            exact ⟨by decide, f, by omega, n + -1, y, _, _, _, hh.of (.inr (by rw [e1]; exact List.mem_singleton_self _)), by omega, by omega, hi, rfl⟩
    · rw [if_pos (.inl hl1)] at hi
      rw [← hi] at hP
      have d1 : decide (((h.lf.length : Nat) : Int) + ((h.rt.length : Nat) : Int) = 1) = false := by rw [decide_eq_false_iff_not]; omega
      simp -implicitDefEqProofs only [DL.WW, List.isEmpty_nil, List.map, List.length, List.length_cons, List.length_nil, List.length_set, List.replicate, List.append, List.cons_append, List.nil_append, List.append_nil, List.getElem?_cons_zero, List.getElem?_cons_succ, List.getElem?_nil, List.set_cons_zero, List.set_cons_succ, ↓reduceIte, Bool.false_eq_true, Bool.not_true, Bool.not_false, Bool.true_and, Bool.false_and, Bool.and_true, Bool.and_false, Bool.or_true, Bool.or_false, Bool.true_or, Bool.false_or, Nat.reduceAdd, Nat.reduceSub, Nat.reduceLT, Nat.reduceLeDiff, true_and, and_true, and_self, decide_eq_true_eq, Nat.zero_lt_succ, Nat.lt_add_left_iff_pos, beq_self_eq_true, String.reduceBEq, String.reduceEq, Nat.le_refl, Nat.zero_le, Bool.true_eq_false, decide_true, decide_false, Int.reduceEq, Int.reduceLT, Int.reduceLE, Int.reduceSub, Int.reduceAdd, DL.wIfT, DL.wListRg, DL.eSortT, DL.eAddS, DL.eInS, DL.eLenS, DL.wSlS, DL.wI2, DL.evd_mx, DL.evd_mn, DL.evd_gcd, DL.wIStr, DL.wIEnumS, DL.eJnL, DL.eJnT, DL.wJoin, DL.eStrI, DL.eIntS, DL.strsD_map, d1]
      exact hP
end
end K06D


set_option linter.all false
set_option maxRecDepth 100000
set_option maxHeartbeats 4000000
namespace TXG
open PySem SK
def smB (p : Int) (a : Nat) : Bool := decide (ht (numG p a) ≤ 28) && decide (nd (numG p a) ≤ 1500)
theorem sm_all : (List.range 5).all (fun a => (List.range (32 * 2 ^ a + 1)).all fun k => smB ((k : Int) - 16 * 2 ^ a) a) = true := by decide +kernel
theorem sm_num {p : Int} {a : Nat} (ha : a ≤ 4) (h : p.natAbs ≤ 16 * 2 ^ a) : ht (numG p a) ≤ 28 ∧ nd (numG p a) ≤ 1500 := by
  have := List.all_eq_true.mp sm_all a (List.mem_range.mpr (by omega))
  have e : ((16 * 2 ^ a : Nat) : Int) = 16 * 2 ^ a := by simp
  have := List.all_eq_true.mp this (p + (16 * 2 ^ a : Nat)).toNat (List.mem_range.mpr (by omega))
  have e2 : (((p + (16 * 2 ^ a : Nat)).toNat : Nat) : Int) - 16 * 2 ^ a = p := by omega
  rw [e2] at this
  unfold smB at this
  simpa using this
theorem digs_len {n : Nat} (h : n ≤ 256) : (digs n).length ≤ 3 := (dig h).len
theorem intT_len {n : Int} (h : n.natAbs ≤ 256) : (intT n).length ≤ 4 := by
  have := digs_len h
  unfold intT
  split
  · rw [List.length_cons]; omega
  · omega
def CdOk (l : List Nat) : Prop := ∀ c ∈ l, c < 128
theorem digs_cd {n : Nat} (h : n ≤ 256) : CdOk (digs n) := fun c hc => by have := (dig h).dg c hc; omega
theorem intT_cd {n : Int} (h : n.natAbs ≤ 256) : CdOk (intT n) := by
  have := digs_cd h
  unfold intT
  split
  · intro c hc
    rcases List.mem_cons.mp hc with rfl | hc
    · decide
    · exact this c hc
  · exact this
theorem cd_app {a b : List Nat} (h : CdOk a) (h' : CdOk b) : CdOk (a ++ b) := fun c hc => by
  rcases List.mem_append.mp hc with hc | hc
  · exact h c hc
  · exact h' c hc
theorem cd_cons {x : Nat} {b : List Nat} (h : x < 128) (h' : CdOk b) : CdOk (x :: b) := fun c hc => by
  rcases List.mem_cons.mp hc with rfl | hc
  · exact h
  · exact h' c hc
theorem cd_nil : CdOk [] := fun c hc => by cases hc
theorem name_ok {g : G} {t : List Nat} (h : nameOf g = some t) : t.length ≤ 8 ∧ CdOk t := by
  unfold nameOf at h
  split at h
  · rename_i n hn
    cases h
    have h16 := (intOf_iG hn).2
    exact ⟨by have := intT_len (n := n) (by omega); omega, intT_cd (by omega)⟩
  · rename_i hn
    repeat'
      first
        | (split at h; · cases h; exact ⟨by decide, by unfold CdOk; decide⟩)
    cases hf : frac 50 g with
    | none => rw [hf] at h; cases h
    | some q =>
      rw [hf] at h
      cases h
      obtain ⟨p, b⟩ := q
      obtain ⟨hp, hq⟩ := frac_spec _ _ _ _ hf
      have hb : b ≤ 16 := by unfold PowB at hp; omega
      have hpp : p.natAbs ≤ 256 := by
        rcases hq with ⟨rfl, _, h1⟩ | ⟨_, _, _, h3⟩ <;> omega
      have l1 := intT_len (n := p) hpp
      have l2 := digs_len (n := b) (by omega)
      refine ⟨?_, cd_app (intT_cd hpp) (cd_cons (by decide) (digs_cd (by omega)))⟩
      show (intT p ++ 47 :: digs b).length ≤ 8
      rw [List.length_append, List.length_cons]
      omega
theorem joinC_len : ∀ ts : List (List Nat), (joinC ts).length ≤ (ts.map List.length).sum + ts.length
  | [] => Nat.le_refl _
  | [t] => by simp [joinC]
  | t :: u :: r => by
    have := joinC_len (u :: r)
    simp only [joinC, List.length_append, List.length_cons, List.map_cons, List.sum_cons] at this ⊢
    omega
theorem joinC_cd : ∀ ts : List (List Nat), (∀ t ∈ ts, CdOk t) → CdOk (joinC ts)
  | [], _ => cd_nil
  | [t], h => h t (List.mem_singleton_self _)
  | t :: u :: r, h => cd_app (h t List.mem_cons_self) (cd_cons (by decide) (joinC_cd (u :: r) fun t ht => h t (List.mem_cons_of_mem _ ht)))
theorem txts_len (f : Nat) (gs : List G) (h : ∀ g ∈ gs, (txt f g).length + 1 ≤ 9 * nd g) : ((gs.map (txt f)).map List.length).sum + gs.length ≤ 9 * ndL gs := by
  induction gs with
  | nil => simp [ndL]
  | cons g gs ih =>
    have h1 := h g List.mem_cons_self
    have h2 := ih fun x hx => h x (List.mem_cons_of_mem _ hx)
    simp only [List.map_cons, List.sum_cons, List.length_cons, ndL]
    omega
theorem ndG (g : G) : nd g = 1 + ndL g.lf + ndL g.rt := by cases g; rw [nd]; rfl
theorem txt_len : ∀ (f : Nat) (g : G), (txt f g).length + 1 ≤ 9 * nd g
  | 0, g => by rw [ndG]; simp [txt]; omega
  | f + 1, g => by
    rw [txt]
    split
    · rename_i t hn
      have := (name_ok hn).1
      rw [ndG]
      omega
    · have a1 := txts_len f g.lf fun x _ => txt_len f x
      have a2 := txts_len f g.rt fun x _ => txt_len f x
      have b1 := joinC_len (g.lf.map (txt f))
      have b2 := joinC_len (g.rt.map (txt f))
      rw [List.length_map] at b1 b2
      rw [ndG]
      simp only [List.length_append, List.length_cons, List.length_nil]
      omega
theorem txt_cd : ∀ (f : Nat) (g : G), CdOk (txt f g)
  | 0, g => cd_nil
  | f + 1, g => by
    rw [txt]
    split
    · rename_i t hn
      exact (name_ok hn).2
    · have k : ∀ gs : List G, CdOk (joinC (gs.map (txt f))) := fun gs => joinC_cd _ fun t ht => by
        obtain ⟨x, _, rfl⟩ := List.mem_map.mp ht
        exact txt_cd f x
      exact cd_app (cd_app (cd_cons (by decide) (k _)) (cd_cons (by decide) (k _))) (cd_cons (by decide) cd_nil)
end TXG


set_option Elab.async false
set_option linter.all false
set_option maxRecDepth 100000
set_option maxHeartbeats 4000000
namespace K06D
open PySem L2 TG DL K06 SK TXG
section
variable {P : Program} {w : World} {K : PySem.W.Frag} {mg : Str → Option Value} {base : Heap}
def frD : Option (Int × Nat) → PyData
  | none => .none
  | some (p, b) => .tuple [.int p, .int (b : Int)]
def F_frac (d : Nat) : FSp := fun args P => ∃ g : G, args = [some (.dat (gD g))] ∧ Sm g ∧ ht g < d ∧ P (.dat (frD (frac d g))) [none]
def F_number_form : FSp := F_numf 6
section
variable {f : Nat}
theorem ok_fraction_of {k : Nat} (T : Txt K mg) (G_integer_of : FnOk P w K mg base CX0 k T.a_integer_of T.d_integer_of ["game"] (spD K F_integer_of)) (G_fraction_of : FnOk P w K mg base CX0 k T.a_fraction_of T.d_fraction_of ["game"] (spD K (F_frac f))) (G_number_form : FnOk P w K mg base CX0 k T.a_number_form T.d_number_form ["top", "bottom"] (spD K F_number_form)) : FnOk P w K mg base CX0 (k + 1) T.a_fraction_of T.d_fraction_of ["game"] (spD K (F_frac (f + 1))) := by
  refine T.F_fraction_of.ok sc_fraction_of (fun vs H Q E h => spD_len (fun args P hF => ?_) h) (fun cdv A outer s H vs Q E hr h => ⟨_, (pss_cons (ps_set (i := 1) sc_fraction_of.nd rfl (Or.inl rfl) (pe_call G_integer_of hr rfl T.g_integer_of T.F_integer_of.kp T.b_integer_of .nil pass0 (pa_cons (pv 0) pa_nil)))
  (pss_cons (ps_if (pt_cmpR op_notN (pv 1) pe_non (nomark _))
  (pss_one (ps_ret (pe_tup (pa_cons (pv 1) (pa_cons pe_int pa_nil)))))
  pss_nil)
  (pss_cons (ps_if (PW.pt (pw_or (pt_cmpR (op_neDK (K := K) rfl hr.units) (pe_callB (call_lenK (K := K) rfl) rfl T.m_len PySem.boot_len (pa_cons (pe_ix (ix_tupK (K := K) rfl) (pv 0) pe_int (fun _ _ => rfl)) pa_nil)) pe_int (nomark _)) (pw_or1 (pt_cmpR (op_neDK (K := K) rfl hr.units) (pe_callB (call_lenK (K := K) rfl) rfl T.m_len PySem.boot_len (pa_cons (pe_ix (ix_tupK (K := K) rfl) (pv 0) pe_int (fun _ _ => rfl)) pa_nil)) pe_int (nomark _)))))
  (pss_one (ps_ret pe_non))
  pss_nil)
  (pss_cons (ps_par (i := 2) (j := 3) rfl sc_fraction_of.nd rfl rfl (by decide) rfl rfl (pa_cons (pe_call G_fraction_of hr rfl T.g_fraction_of T.F_fraction_of.kp T.b_fraction_of .nil pass0 (pa_cons (pe_ix (ix_tupK (K := K) rfl) (pe_ix (ix_tupK (K := K) rfl) (pv 0) pe_int (fun _ _ => rfl)) pe_int (fun _ _ => rfl)) pa_nil)) (pa_cons (pe_call G_fraction_of hr rfl T.g_fraction_of T.F_fraction_of.kp T.b_fraction_of .nil pass0 (pa_cons (pe_ix (ix_tupK (K := K) rfl) (pe_ix (ix_tupK (K := K) rfl) (pv 0) pe_int (fun _ _ => rfl)) pe_int (fun _ _ => rfl)) pa_nil)) pa_nil)) rfl)
  (pss_cons (ps_if (PW.pt (pw_or (pt_cmpR op_isN (pv 2) pe_non (nomark _)) (pw_or1 (pt_cmpR op_isN (pv 3) pe_non (nomark _)))))
  (pss_one (ps_ret pe_non))
  pss_nil)
  (pss_cons (ps_set (i := 4) sc_fraction_of.nd rfl (Or.inl rfl) (pe_op op_mul pe_int (pe_callB (call_max2 rfl) rfl T.m_max (by decide +kernel) (pa_cons (pe_ix (ix_tupK (K := K) rfl) (pv 2) pe_int (fun _ _ => rfl)) (pa_cons (pe_ix (ix_tupK (K := K) rfl) (pv 3) pe_int (fun _ _ => rfl)) pa_nil)))))
  (pss_cons (ps_set (i := 5) sc_fraction_of.nd rfl (Or.inl rfl) (pe_op op_fdiv (pe_op op_add (pe_op op_mul (pe_ix (ix_tupK (K := K) rfl) (pv 2) pe_int (fun _ _ => rfl)) (pe_op op_fdiv (pv 4) (pe_ix (ix_tupK (K := K) rfl) (pv 2) pe_int (fun _ _ => rfl)))) (pe_op op_mul (pe_ix (ix_tupK (K := K) rfl) (pv 3) pe_int (fun _ _ => rfl)) (pe_op op_fdiv (pv 4) (pe_ix (ix_tupK (K := K) rfl) (pv 3) pe_int (fun _ _ => rfl))))) pe_int))
  (pss_cons (ps_if (PW.pt (pw_or (pt_cmpR op_gt (pv 4) (pe_glob (v := .int 16) rfl T.c_MOST_PARTS ⟨_, rfl⟩) (nomark _)) (pw_or (pt_cmpR (op_eqDK (K := K) rfl hr.units) (pe_op op_mod (pv 5) pe_int) pe_int (nomark _)) (pw_or1 (pt_cmpR op_gt (pe_callB call_abs rfl T.m_abs (by decide +kernel) (pa_cons (pv 5) pa_nil)) (pe_op op_mul (pe_glob (v := .int 16) rfl T.c_MOST_INTEGER ⟨_, rfl⟩) (pv 4)) (nomark _))))))
  (pss_one (ps_ret pe_non))
  pss_nil)
  (pss_one (ps_ret (pe_ifExp (pt_cmpR (op_eqDK (K := K) rfl hr.units) (pv 0) (pe_call G_number_form hr rfl T.g_number_form T.F_number_form.kp T.b_number_form .nil pass0 (pa_cons (pv 5) (pa_cons (pv 4) pa_nil))) (nomark _)) (pe_tup (pa_cons (pv 5) (pa_cons (pv 4) pa_nil))) pe_non))))))))))), fn_run (N := ["game", "whole", "low", "high", "bottom", "top"]) h (fun A' Hz' => (ss_seq (ss_asg (se_call (sa_cons se_var sa_nil)) sg_name)
  (ss_seq (ss_if (st_test (se_op sr_notN se_var se_non))
  (ss_ret (se_tup (sa_cons se_var (sa_cons se_int sa_nil))))
  ss_next)
  (ss_seq (ss_if (st_or (st_test (se_op sr_neD (se_cb1 sc_len (se_op sr_ixT se_var se_int)) se_int)) (st_test (se_op sr_neD (se_cb1 sc_len (se_op sr_ixT se_var se_int)) se_int)))
  (ss_ret se_non)
  ss_next)
  (ss_seq (ss_par (by decide) (se_call (sa_cons (se_op sr_ixT (se_op sr_ixT se_var se_int) se_int) sa_nil)) (se_call (sa_cons (se_op sr_ixT (se_op sr_ixT se_var se_int) se_int) sa_nil)))
  (ss_seq (ss_if (st_or (st_test (se_op sr_isN se_var se_non)) (st_test (se_op sr_isN se_var se_non)))
  (ss_ret se_non)
  ss_next)
  (ss_seq (ss_asg (se_op (sr_I (fun _ _ => rfl)) se_int (se_max2 (sa_cons (se_op sr_ixT se_var se_int) (sa_cons (se_op sr_ixT se_var se_int) sa_nil)))) sg_name)
  (ss_seq (ss_asg (se_op (sr_I (fun _ _ => rfl)) (se_op (sr_I0 (fun _ _ => rfl)) (se_op (sr_I (fun _ _ => rfl)) (se_op sr_ixT se_var se_int) (se_op (sr_I (fun _ _ => rfl)) se_var (se_op sr_ixT se_var se_int))) (se_op (sr_I (fun _ _ => rfl)) (se_op sr_ixT se_var se_int) (se_op (sr_I (fun _ _ => rfl)) se_var (se_op sr_ixT se_var se_int)))) se_int) sg_name)
  (ss_seq (ss_if (st_or (st_test (se_op (sr_I0 (fun _ _ => rfl)) se_var se_int)) (st_or (st_test (se_op sr_eqD (se_op (sr_I (fun _ _ => rfl)) se_var se_int) se_int)) (st_test (se_op (sr_I0 (fun _ _ => rfl)) (se_cb1 sc_abs se_var) (se_op (sr_I (fun _ _ => rfl)) se_int se_var)))))
  (ss_ret se_non)
  ss_next)
  (ss_ret (se_if (st_test (se_op sr_eqD se_var (se_call (sa_cons se_var (sa_cons se_var sa_nil))))) (se_tup (sa_cons se_var (sa_cons se_var sa_nil))) se_non))))))))))) (fun args P hl hF => ?_)⟩)
  · obtain ⟨g, rfl, _⟩ := hF
    rfl
  obtain ⟨g, rfl, hg, hh, hP⟩ := hF
  simp -implicitDefEqProofs only [DL.WW, List.isEmpty_nil, List.map, List.length, List.length_cons, List.length_nil, List.length_set, List.replicate, List.append, List.cons_append, List.nil_append, List.append_nil, List.getElem?_cons_zero, List.getElem?_cons_succ, List.getElem?_nil, List.set_cons_zero, List.set_cons_succ, ↓reduceIte, Bool.false_eq_true, Bool.not_true, Bool.not_false, Bool.true_and, Bool.false_and, Bool.and_true, Bool.and_false, Bool.or_true, Bool.or_false, Bool.true_or, Bool.false_or, Nat.reduceAdd, Nat.reduceSub, Nat.reduceLT, Nat.reduceLeDiff, true_and, and_true, and_self, decide_eq_true_eq, Nat.zero_lt_succ, Nat.lt_add_left_iff_pos, beq_self_eq_true, String.reduceBEq, String.reduceEq, Nat.le_refl, Nat.zero_le, Bool.true_eq_false, decide_true, decide_false, Int.reduceEq, Int.reduceLT, Int.reduceLE, Int.reduceSub, Int.reduceAdd, DL.wIfT, DL.wListRg, DL.eSortT, DL.eAddS, DL.eInS, DL.eLenS, DL.wSlS, DL.wI2, DL.evd_mx, DL.evd_mn, DL.evd_gcd, DL.wIStr, DL.wIEnumS, DL.eJnL, DL.eJnT, DL.wJoin, DL.eStrI, DL.eIntS, DL.strsD_map]
  refine ⟨g, rfl, hg, ?_⟩
  cases hi : intOf 18 0 g with
  | some n =>
    rw [frac, hi] at hP
    simp -implicitDefEqProofs only [DL.WW, List.isEmpty_nil, List.map, List.length, List.length_cons, List.length_nil, List.length_set, List.replicate, List.append, List.cons_append, List.nil_append, List.append_nil, List.getElem?_cons_zero, List.getElem?_cons_succ, List.getElem?_nil, List.set_cons_zero, List.set_cons_succ, ↓reduceIte, Bool.false_eq_true, Bool.not_true, Bool.not_false, Bool.true_and, Bool.false_and, Bool.and_true, Bool.and_false, Bool.or_true, Bool.or_false, Bool.true_or, Bool.false_or, Nat.reduceAdd, Nat.reduceSub, Nat.reduceLT, Nat.reduceLeDiff, true_and, and_true, and_self, decide_eq_true_eq, Nat.zero_lt_succ, Nat.lt_add_left_iff_pos, beq_self_eq_true, String.reduceBEq, String.reduceEq, Nat.le_refl, Nat.zero_le, Bool.true_eq_false, decide_true, decide_false, Int.reduceEq, Int.reduceLT, Int.reduceLE, Int.reduceSub, Int.reduceAdd, DL.wIfT, DL.wListRg, DL.eSortT, DL.eAddS, DL.eInS, DL.eLenS, DL.wSlS, DL.wI2, DL.evd_mx, DL.evd_mn, DL.evd_gcd, DL.wIStr, DL.wIEnumS, DL.eJnL, DL.eJnT, DL.wJoin, DL.eStrI, DL.eIntS, DL.strsD_map]
    exact hP
  | none =>
    simp -implicitDefEqProofs only [DL.WW, List.isEmpty_nil, List.map, List.length, List.length_cons, List.length_nil, List.length_set, List.replicate, List.append, List.cons_append, List.nil_append, List.append_nil, List.getElem?_cons_zero, List.getElem?_cons_succ, List.getElem?_nil, List.set_cons_zero, List.set_cons_succ, ↓reduceIte, Bool.false_eq_true, Bool.not_true, Bool.not_false, Bool.true_and, Bool.false_and, Bool.and_true, Bool.and_false, Bool.or_true, Bool.or_false, Bool.true_or, Bool.false_or, Nat.reduceAdd, Nat.reduceSub, Nat.reduceLT, Nat.reduceLeDiff, true_and, and_true, and_self, decide_eq_true_eq, Nat.zero_lt_succ, Nat.lt_add_left_iff_pos, beq_self_eq_true, String.reduceBEq, String.reduceEq, Nat.le_refl, Nat.zero_le, Bool.true_eq_false, decide_true, decide_false, Int.reduceEq, Int.reduceLT, Int.reduceLE, Int.reduceSub, Int.reduceAdd, DL.wIfT, DL.wListRg, DL.eSortT, DL.eAddS, DL.eInS, DL.eLenS, DL.wSlS, DL.wI2, DL.evd_mx, DL.evd_mn, DL.evd_gcd, DL.wIStr, DL.wIEnumS, DL.eJnL, DL.eJnT, DL.wJoin, DL.eStrI, DL.eIntS, DL.strsD_map, gD_eq g, List.length_map]
    by_cases c1 : g.lf.length = 1
    case neg =>
      have d1 : decide (((g.lf.length : Nat) : Int) = 1) = false := by rw [decide_eq_false_iff_not]; omega
      have e0 : frac (f + 1) g = none := by
        rw [frac, hi]
        dsimp only
        split
        · rename_i x y e1 e2
          rw [e1] at c1
          exact absurd rfl c1
        · rfl
      rw [e0] at hP
      simp -implicitDefEqProofs only [DL.WW, List.isEmpty_nil, List.map, List.length, List.length_cons, List.length_nil, List.length_set, List.replicate, List.append, List.cons_append, List.nil_append, List.append_nil, List.getElem?_cons_zero, List.getElem?_cons_succ, List.getElem?_nil, List.set_cons_zero, List.set_cons_succ, ↓reduceIte, Bool.false_eq_true, Bool.not_true, Bool.not_false, Bool.true_and, Bool.false_and, Bool.and_true, Bool.and_false, Bool.or_true, Bool.or_false, Bool.true_or, Bool.false_or, Nat.reduceAdd, Nat.reduceSub, Nat.reduceLT, Nat.reduceLeDiff, true_and, and_true, and_self, decide_eq_true_eq, Nat.zero_lt_succ, Nat.lt_add_left_iff_pos, beq_self_eq_true, String.reduceBEq, String.reduceEq, Nat.le_refl, Nat.zero_le, Bool.true_eq_false, decide_true, decide_false, Int.reduceEq, Int.reduceLT, Int.reduceLE, Int.reduceSub, Int.reduceAdd, DL.wIfT, DL.wListRg, DL.eSortT, DL.eAddS, DL.eInS, DL.eLenS, DL.wSlS, DL.wI2, DL.evd_mx, DL.evd_mn, DL.evd_gcd, DL.wIStr, DL.wIEnumS, DL.eJnL, DL.eJnT, DL.wJoin, DL.eStrI, DL.eIntS, DL.strsD_map, d1]
      exact hP
    by_cases c2 : g.rt.length = 1
    case neg =>
      have d1 : decide (((g.lf.length : Nat) : Int) = 1) = true := by rw [decide_eq_true_eq]; omega
      have d2 : decide (((g.rt.length : Nat) : Int) = 1) = false := by rw [decide_eq_false_iff_not]; omega
      have e0 : frac (f + 1) g = none := by
        rw [frac, hi]
        dsimp only
        split
        · rename_i x y e1 e2
          rw [e2] at c2
          exact absurd rfl c2
        · rfl
      rw [e0] at hP
      simp -implicitDefEqProofs only [DL.WW, List.isEmpty_nil, List.map, List.length, List.length_cons, List.length_nil, List.length_set, List.replicate, List.append, List.cons_append, List.nil_append, List.append_nil, List.getElem?_cons_zero, List.getElem?_cons_succ, List.getElem?_nil, List.set_cons_zero, List.set_cons_succ, ↓reduceIte, Bool.false_eq_true, Bool.not_true, Bool.not_false, Bool.true_and, Bool.false_and, Bool.and_true, Bool.and_false, Bool.or_true, Bool.or_false, Bool.true_or, Bool.false_or, Nat.reduceAdd, Nat.reduceSub, Nat.reduceLT, Nat.reduceLeDiff, true_and, and_true, and_self, decide_eq_true_eq, Nat.zero_lt_succ, Nat.lt_add_left_iff_pos, beq_self_eq_true, String.reduceBEq, String.reduceEq, Nat.le_refl, Nat.zero_le, Bool.true_eq_false, decide_true, decide_false, Int.reduceEq, Int.reduceLT, Int.reduceLE, Int.reduceSub, Int.reduceAdd, DL.wIfT, DL.wListRg, DL.eSortT, DL.eAddS, DL.eInS, DL.eLenS, DL.wSlS, DL.wI2, DL.evd_mx, DL.evd_mn, DL.evd_gcd, DL.wIStr, DL.wIEnumS, DL.eJnL, DL.eJnT, DL.wJoin, DL.eStrI, DL.eIntS, DL.strsD_map, d1, d2]
      exact hP
    obtain ⟨x, hx⟩ := List.length_eq_one_iff.mp c1
    obtain ⟨y, hy⟩ := List.length_eq_one_iff.mp c2
    rw [frac, hi, hx, hy] at hP
    have hgd : PyData.tuple [.tuple (g.lf.map gD), .tuple (g.rt.map gD)] = gD g := (gD_eq g).symm
    rw [hgd]
    have mx : x ∈ g.lf ∨ x ∈ g.rt := .inl (by rw [hx]; exact List.mem_singleton_self _)
    have my : y ∈ g.lf ∨ y ∈ g.rt := .inr (by rw [hy]; exact List.mem_singleton_self _)
    have lx := ht_lt mx
    have ly := ht_lt my
    have sx := hg.of mx
    have sy := hg.of my
    dsimp only at hP
    simp -implicitDefEqProofs only [DL.WW, List.isEmpty_nil, List.map, List.length, List.length_cons, List.length_nil, List.length_set, List.replicate, List.append, List.cons_append, List.nil_append, List.append_nil, List.getElem?_cons_zero, List.getElem?_cons_succ, List.getElem?_nil, List.set_cons_zero, List.set_cons_succ, ↓reduceIte, Bool.false_eq_true, Bool.not_true, Bool.not_false, Bool.true_and, Bool.false_and, Bool.and_true, Bool.and_false, Bool.or_true, Bool.or_false, Bool.true_or, Bool.false_or, Nat.reduceAdd, Nat.reduceSub, Nat.reduceLT, Nat.reduceLeDiff, true_and, and_true, and_self, decide_eq_true_eq, Nat.zero_lt_succ, Nat.lt_add_left_iff_pos, beq_self_eq_true, String.reduceBEq, String.reduceEq, Nat.le_refl, Nat.zero_le, Bool.true_eq_false, decide_true, decide_false, Int.reduceEq, Int.reduceLT, Int.reduceLE, Int.reduceSub, Int.reduceAdd, DL.wIfT, DL.wListRg, DL.eSortT, DL.eAddS, DL.eInS, DL.eLenS, DL.wSlS, DL.wI2, DL.evd_mx, DL.evd_mn, DL.evd_gcd, DL.wIStr, DL.wIEnumS, DL.eJnL, DL.eJnT, DL.wJoin, DL.eStrI, DL.eIntS, DL.strsD_map, hx, hy, List.map_cons, List.map_nil]
    refine ⟨x, rfl, sx, by omega, ?_⟩
    simp -implicitDefEqProofs only [DL.WW, List.isEmpty_nil, List.map, List.length, List.length_cons, List.length_nil, List.length_set, List.replicate, List.append, List.cons_append, List.nil_append, List.append_nil, List.getElem?_cons_zero, List.getElem?_cons_succ, List.getElem?_nil, List.set_cons_zero, List.set_cons_succ, ↓reduceIte, Bool.false_eq_true, Bool.not_true, Bool.not_false, Bool.true_and, Bool.false_and, Bool.and_true, Bool.and_false, Bool.or_true, Bool.or_false, Bool.true_or, Bool.false_or, Nat.reduceAdd, Nat.reduceSub, Nat.reduceLT, Nat.reduceLeDiff, true_and, and_true, and_self, decide_eq_true_eq, Nat.zero_lt_succ, Nat.lt_add_left_iff_pos, beq_self_eq_true, String.reduceBEq, String.reduceEq, Nat.le_refl, Nat.zero_le, Bool.true_eq_false, decide_true, decide_false, Int.reduceEq, Int.reduceLT, Int.reduceLE, Int.reduceSub, Int.reduceAdd, DL.wIfT, DL.wListRg, DL.eSortT, DL.eAddS, DL.eInS, DL.eLenS, DL.wSlS, DL.wI2, DL.evd_mx, DL.evd_mn, DL.evd_gcd, DL.wIStr, DL.wIEnumS, DL.eJnL, DL.eJnT, DL.wJoin, DL.eStrI, DL.eIntS, DL.strsD_map]
    refine ⟨y, rfl, sy, by omega, ?_⟩
    simp -implicitDefEqProofs only [DL.WW, List.isEmpty_nil, List.map, List.length, List.length_cons, List.length_nil, List.length_set, List.replicate, List.append, List.cons_append, List.nil_append, List.append_nil, List.getElem?_cons_zero, List.getElem?_cons_succ, List.getElem?_nil, List.set_cons_zero, List.set_cons_succ, ↓reduceIte, Bool.false_eq_true, Bool.not_true, Bool.not_false, Bool.true_and, Bool.false_and, Bool.and_true, Bool.and_false, Bool.or_true, Bool.or_false, Bool.true_or, Bool.false_or, Nat.reduceAdd, Nat.reduceSub, Nat.reduceLT, Nat.reduceLeDiff, true_and, and_true, and_self, decide_eq_true_eq, Nat.zero_lt_succ, Nat.lt_add_left_iff_pos, beq_self_eq_true, String.reduceBEq, String.reduceEq, Nat.le_refl, Nat.zero_le, Bool.true_eq_false, decide_true, decide_false, Int.reduceEq, Int.reduceLT, Int.reduceLE, Int.reduceSub, Int.reduceAdd, DL.wIfT, DL.wListRg, DL.eSortT, DL.eAddS, DL.eInS, DL.eLenS, DL.wSlS, DL.wI2, DL.evd_mx, DL.evd_mn, DL.evd_gcd, DL.wIStr, DL.wIEnumS, DL.eJnL, DL.eJnT, DL.wJoin, DL.eStrI, DL.eIntS, DL.strsD_map]
    cases hfx : frac f x with
    | none =>
      rw [hfx] at hP
      simp -implicitDefEqProofs only [DL.WW, List.isEmpty_nil, List.map, List.length, List.length_cons, List.length_nil, List.length_set, List.replicate, List.append, List.cons_append, List.nil_append, List.append_nil, List.getElem?_cons_zero, List.getElem?_cons_succ, List.getElem?_nil, List.set_cons_zero, List.set_cons_succ, ↓reduceIte, Bool.false_eq_true, Bool.not_true, Bool.not_false, Bool.true_and, Bool.false_and, Bool.and_true, Bool.and_false, Bool.or_true, Bool.or_false, Bool.true_or, Bool.false_or, Nat.reduceAdd, Nat.reduceSub, Nat.reduceLT, Nat.reduceLeDiff, true_and, and_true, and_self, decide_eq_true_eq, Nat.zero_lt_succ, Nat.lt_add_left_iff_pos, beq_self_eq_true, String.reduceBEq, String.reduceEq, Nat.le_refl, Nat.zero_le, Bool.true_eq_false, decide_true, decide_false, Int.reduceEq, Int.reduceLT, Int.reduceLE, Int.reduceSub, Int.reduceAdd, DL.wIfT, DL.wListRg, DL.eSortT, DL.eAddS, DL.eInS, DL.eLenS, DL.wSlS, DL.wI2, DL.evd_mx, DL.evd_mn, DL.evd_gcd, DL.wIStr, DL.wIEnumS, DL.eJnL, DL.eJnT, DL.wJoin, DL.eStrI, DL.eIntS, DL.strsD_map, frD]
      exact hP
    | some q1 =>
      obtain ⟨p, b⟩ := q1
      rw [hfx] at hP
      cases hfy : frac f y with
      | none =>
        rw [hfy] at hP
        simp -implicitDefEqProofs only [DL.WW, List.isEmpty_nil, List.map, List.length, List.length_cons, List.length_nil, List.length_set, List.replicate, List.append, List.cons_append, List.nil_append, List.append_nil, List.getElem?_cons_zero, List.getElem?_cons_succ, List.getElem?_nil, List.set_cons_zero, List.set_cons_succ, ↓reduceIte, Bool.false_eq_true, Bool.not_true, Bool.not_false, Bool.true_and, Bool.false_and, Bool.and_true, Bool.and_false, Bool.or_true, Bool.or_false, Bool.true_or, Bool.false_or, Nat.reduceAdd, Nat.reduceSub, Nat.reduceLT, Nat.reduceLeDiff, true_and, and_true, and_self, decide_eq_true_eq, Nat.zero_lt_succ, Nat.lt_add_left_iff_pos, beq_self_eq_true, String.reduceBEq, String.reduceEq, Nat.le_refl, Nat.zero_le, Bool.true_eq_false, decide_true, decide_false, Int.reduceEq, Int.reduceLT, Int.reduceLE, Int.reduceSub, Int.reduceAdd, DL.wIfT, DL.wListRg, DL.eSortT, DL.eAddS, DL.eInS, DL.eLenS, DL.wSlS, DL.wI2, DL.evd_mx, DL.evd_mn, DL.evd_gcd, DL.wIStr, DL.wIEnumS, DL.eJnL, DL.eJnT, DL.wJoin, DL.eStrI, DL.eIntS, DL.strsD_map, frD]
        exact hP
      | some q2 =>
        obtain ⟨q, c⟩ := q2
        rw [hfy] at hP
        have b1 := frac_spec _ _ _ _ hfx
        have b2 := frac_spec _ _ _ _ hfy
        obtain ⟨m, hm⟩ : ∃ m, m = 2 * max b c := ⟨_, rfl⟩
        have hmx : (if ((c : Nat) : Int) > (b : Int) then (c : Int) else (b : Int)) = ((max b c : Nat) : Int) := by split <;> omega
        have e2 : (2 : Int) * ((max b c : Nat) : Int) = (m : Int) := by omega
        have hbp : 0 < b ∧ b ≤ 16 := by have := b1.1; unfold PowB at this; omega
        have hcp : 0 < c ∧ c ≤ 16 := by have := b2.1; unfold PowB at this; omega
        have hpp : p.natAbs ≤ 256 := by rcases b1.2 with ⟨_, _, h⟩ | ⟨_, _, _, h⟩ <;> omega
        have hqp : q.natAbs ≤ 256 := by rcases b2.2 with ⟨_, _, h⟩ | ⟨_, _, _, h⟩ <;> omega
        have m1 : ∀ i j : Int, -256 ≤ i ∧ i ≤ 256 → CMul i j := fun i j h => .inl ⟨by omega, by omega⟩
        dsimp only at hP
        rw [← hm] at hP
        simp -implicitDefEqProofs only [DL.WW, List.isEmpty_nil, List.map, List.length, List.length_cons, List.length_nil, List.length_set, List.replicate, List.append, List.cons_append, List.nil_append, List.append_nil, List.getElem?_cons_zero, List.getElem?_cons_succ, List.getElem?_nil, List.set_cons_zero, List.set_cons_succ, ↓reduceIte, Bool.false_eq_true, Bool.not_true, Bool.not_false, Bool.true_and, Bool.false_and, Bool.and_true, Bool.and_false, Bool.or_true, Bool.or_false, Bool.true_or, Bool.false_or, Nat.reduceAdd, Nat.reduceSub, Nat.reduceLT, Nat.reduceLeDiff, true_and, and_true, and_self, decide_eq_true_eq, Nat.zero_lt_succ, Nat.lt_add_left_iff_pos, beq_self_eq_true, String.reduceBEq, String.reduceEq, Nat.le_refl, Nat.zero_le, Bool.true_eq_false, decide_true, decide_false, Int.reduceEq, Int.reduceLT, Int.reduceLE, Int.reduceSub, Int.reduceAdd, DL.wIfT, DL.wListRg, DL.eSortT, DL.eAddS, DL.eInS, DL.eLenS, DL.wSlS, DL.wI2, DL.evd_mx, DL.evd_mn, DL.evd_gcd, DL.wIStr, DL.wIEnumS, DL.eJnL, DL.eJnT, DL.wJoin, DL.eStrI, DL.eIntS, DL.strsD_map, frD, hmx, e2]
        simp only [Int.natCast_ediv] at hP
        generalize (p * ((m : Int) / (b : Int)) + q * ((m : Int) / (c : Int))) / 2 = t at hP ⊢
        have hab : (if t < 0 then -t else t) = ((t.natAbs : Nat) : Int) := by split <;> omega
        rw [hab]
        refine ⟨m1 _ _ (by omega), ⟨by omega, by omega⟩, m1 _ _ (by omega), ⟨by omega, by omega⟩, m1 _ _ (by omega), ⟨by decide, by decide⟩, ?_⟩
        by_cases k1 : 16 < m
        · rw [if_pos (.inl k1)] at hP
          rw [if_pos (by omega)]
          exact hP
        by_cases k2 : t % 2 = 0
        · rw [if_pos (.inr (.inl k2))] at hP
          rw [if_neg (by omega), if_pos k2]
          exact hP
        rw [if_neg (by omega), if_neg k2]
        refine ⟨m1 _ _ (by omega), ?_⟩
        by_cases k3 : 16 * m < t.natAbs
        · rw [if_pos (.inr (.inr k3))] at hP
          rw [if_pos (by omega)]
          exact hP
        rw [if_neg (by omega)] at hP
        rw [if_neg (by omega)]
        have hpm : PowB m := by have := b1.1; have := b2.1; unfold PowB at *; omega
        obtain ⟨g1, g2, g3⟩ := logB_pow hpm
        have hsm := sm_num (p := t) g2 (by rw [g1]; omega)
        have emm : (m : Int) = ((2 ^ logB m : Nat) : Int) := by rw [g1]
        conv => arg 1; rw [emm]
        refine ⟨t, logB m, rfl, by omega, by omega, .inr (by omega), by omega, ?_⟩
        have en : nfD (numN 6 t (logB m)) = gD (numG t (logB m)) := nfD_nG _
        simp -implicitDefEqProofs only [DL.WW, List.isEmpty_nil, List.map, List.length, List.length_cons, List.length_nil, List.length_set, List.replicate, List.append, List.cons_append, List.nil_append, List.append_nil, List.getElem?_cons_zero, List.getElem?_cons_succ, List.getElem?_nil, List.set_cons_zero, List.set_cons_succ, ↓reduceIte, Bool.false_eq_true, Bool.not_true, Bool.not_false, Bool.true_and, Bool.false_and, Bool.and_true, Bool.and_false, Bool.or_true, Bool.or_false, Bool.true_or, Bool.false_or, Nat.reduceAdd, Nat.reduceSub, Nat.reduceLT, Nat.reduceLeDiff, true_and, and_true, and_self, decide_eq_true_eq, Nat.zero_lt_succ, Nat.lt_add_left_iff_pos, beq_self_eq_true, String.reduceBEq, String.reduceEq, Nat.le_refl, Nat.zero_le, Bool.true_eq_false, decide_true, decide_false, Int.reduceEq, Int.reduceLT, Int.reduceLE, Int.reduceSub, Int.reduceAdd, DL.wIfT, DL.wListRg, DL.eSortT, DL.eAddS, DL.eInS, DL.eLenS, DL.wSlS, DL.wI2, DL.evd_mx, DL.evd_mn, DL.evd_gcd, DL.wIStr, DL.wIEnumS, DL.eJnL, DL.eJnT, DL.wJoin, DL.eStrI, DL.eIntS, DL.strsD_map, en, eqv_g]
        refine ⟨hg.sh, Sm.sh hsm, ?_⟩
        by_cases k4 : eqG g (numG t (logB m)) = true
        · rw [if_pos k4] at hP
          simp -implicitDefEqProofs only [DL.WW, List.isEmpty_nil, List.map, List.length, List.length_cons, List.length_nil, List.length_set, List.replicate, List.append, List.cons_append, List.nil_append, List.append_nil, List.getElem?_cons_zero, List.getElem?_cons_succ, List.getElem?_nil, List.set_cons_zero, List.set_cons_succ, ↓reduceIte, Bool.false_eq_true, Bool.not_true, Bool.not_false, Bool.true_and, Bool.false_and, Bool.and_true, Bool.and_false, Bool.or_true, Bool.or_false, Bool.true_or, Bool.false_or, Nat.reduceAdd, Nat.reduceSub, Nat.reduceLT, Nat.reduceLeDiff, true_and, and_true, and_self, decide_eq_true_eq, Nat.zero_lt_succ, Nat.lt_add_left_iff_pos, beq_self_eq_true, String.reduceBEq, String.reduceEq, Nat.le_refl, Nat.zero_le, Bool.true_eq_false, decide_true, decide_false, Int.reduceEq, Int.reduceLT, Int.reduceLE, Int.reduceSub, Int.reduceAdd, DL.wIfT, DL.wListRg, DL.eSortT, DL.eAddS, DL.eInS, DL.eLenS, DL.wSlS, DL.wI2, DL.evd_mx, DL.evd_mn, DL.evd_gcd, DL.wIStr, DL.wIEnumS, DL.eJnL, DL.eJnT, DL.wJoin, DL.eStrI, DL.eIntS, DL.strsD_map, k4]
          exact hP
        · rw [if_neg k4] at hP
          have kf : eqG g (numG t (logB m)) = false := by simpa using k4
          simp -implicitDefEqProofs only [DL.WW, List.isEmpty_nil, List.map, List.length, List.length_cons, List.length_nil, List.length_set, List.replicate, List.append, List.cons_append, List.nil_append, List.append_nil, List.getElem?_cons_zero, List.getElem?_cons_succ, List.getElem?_nil, List.set_cons_zero, List.set_cons_succ, ↓reduceIte, Bool.false_eq_true, Bool.not_true, Bool.not_false, Bool.true_and, Bool.false_and, Bool.and_true, Bool.and_false, Bool.or_true, Bool.or_false, Bool.true_or, Bool.false_or, Nat.reduceAdd, Nat.reduceSub, Nat.reduceLT, Nat.reduceLeDiff, true_and, and_true, and_self, decide_eq_true_eq, Nat.zero_lt_succ, Nat.lt_add_left_iff_pos, beq_self_eq_true, String.reduceBEq, String.reduceEq, Nat.le_refl, Nat.zero_le, Bool.true_eq_false, decide_true, decide_false, Int.reduceEq, Int.reduceLT, Int.reduceLE, Int.reduceSub, Int.reduceAdd, DL.wIfT, DL.wListRg, DL.eSortT, DL.eAddS, DL.eInS, DL.eLenS, DL.wSlS, DL.wI2, DL.evd_mx, DL.evd_mn, DL.evd_gcd, DL.wIStr, DL.wIEnumS, DL.eJnL, DL.eJnT, DL.wJoin, DL.eStrI, DL.eIntS, DL.strsD_map, kf]
          exact hP
end
def F_fraction_of : FSp := F_frac 50
def stO : Option (List Nat) → PyData
  | none => .none
  | some t => .str (stC t)
theorem log_small {n : Nat} (h : n ≤ 256) : n.log2 < 1920 := by
  have := Nat.log2_le_self n
  omega
def nms : List (G × List Nat) := [(star, [42]), (up, [94]), (down, [118]), (upS, [94, 42]), (downS, [118, 42])]
def nmD (p : G × List Nat) : PyData := .tuple [gD p.1, .str (stC p.2)]
theorem nms_sm : ∀ p ∈ nms, Sm p.1 := fun p hp => by
  simp only [nms, List.mem_cons, List.mem_nil_iff, or_false] at hp
  rcases hp with rfl | rfl | rfl | rfl | rfl
  · exact sm_star
  · exact sm_up
  · exact sm_down
  · exact sm_upS
  · exact sm_downS
theorem find_at {α : Type} {q : α → Bool} : ∀ {l : List α} {i : Nat} {x : α}, l[i]? = some x → q x = true → (∀ y ∈ l.take i, q y = false) → l.find? q = some x
  | [], i, x, h, _, _ => by simp at h
  | a :: l, 0, x, h, hq, _ => by
    cases h
    rw [List.find?, hq]
  | a :: l, i + 1, x, h, hq, hn => by
    have ha : q a = false := hn a (by simp)
    rw [List.find?, ha]
    exact find_at (l := l) (i := i) (by simpa using h) hq fun y hy => hn y (by rw [List.take_succ_cons]; exact List.mem_cons_of_mem _ hy)
theorem find_no {α : Type} {q : α → Bool} {l : List α} (h : ∀ y ∈ l, q y = false) : l.find? q = none := by
  rw [List.find?_eq_none]
  intro y hy
  rw [h y hy]
  decide
theorem name_split {g : G} (hi : intOf 18 0 g = none) : nameOf g = match nms.find? (fun p => eqG g p.1) with
    | some p => some p.2
    | none => match [2, 3, 4, 5].find? (fun k => eqG g (nimG k)) with
      | some k => some [42, 48 + k]
      | none => (frac 50 g).map fun q => fracT q.1 q.2 := by
  unfold nameOf
  rw [hi]
  simp only [nms, List.find?]
  cases eqG g star <;> cases eqG g up <;> cases eqG g down <;> cases eqG g upS <;> cases eqG g downS <;> try rfl
  cases eqG g (nimG 2) <;> cases eqG g (nimG 3) <;> cases eqG g (nimG 4) <;> cases eqG g (nimG 5) <;> rfl
def F_fraction_name : FSp := fun args P => ∃ g : G, args = [some (.dat (gD g))] ∧ Sm g ∧ P (.dat (stO ((frac 50 g).map fun q => fracT q.1 q.2))) [none]
theorem ok_fraction_name {k : Nat} (T : Txt K mg) (G_fraction_of : FnOk P w K mg base CX0 k T.a_fraction_of T.d_fraction_of ["game"] (spD K F_fraction_of)) : FnOk P w K mg base CX0 (k + 1) T.a_fraction_name T.d_fraction_name ["game"] (spD K F_fraction_name) := by
  refine T.F_fraction_name.ok sc_fraction_name (fun vs H Q E h => spD_len (fun args P hF => ?_) h) (fun cdv A outer s H vs Q E hr h => ⟨_, (pss_cons (ps_set (i := 1) sc_fraction_name.nd rfl (Or.inl rfl) (pe_call G_fraction_of hr rfl T.g_fraction_of T.F_fraction_of.kp T.b_fraction_of .nil pass0 (pa_cons (pv 0) pa_nil)))
  (pss_one (ps_ret (pe_ifExp (pt_cmpR op_notN (pv 1) pe_non (nomark _)) (pe_op op_add_str (pe_op op_add_str (pe_callTy call_str_int rfl T.m_str (by decide +kernel) (pa_cons (pe_ix (ix_tupK (K := K) rfl) (pv 1) pe_int (fun _ _ => rfl)) pa_nil)) pe_str) (pe_callTy call_str_int rfl T.m_str (by decide +kernel) (pa_cons (pe_ix (ix_tupK (K := K) rfl) (pv 1) pe_int (fun _ _ => rfl)) pa_nil))) pe_non)))), fn_run (N := ["game", "found"]) h (fun A' Hz' => (ss_seq (ss_asg (se_call (sa_cons se_var sa_nil)) sg_name)
  (ss_ret (se_if (st_test (se_op sr_notN se_var se_non)) (se_op sr_addS (se_op sr_addS (se_cb1 sc_strI (se_op sr_ixT se_var se_int)) se_str) (se_cb1 sc_strI (se_op sr_ixT se_var se_int))) se_non)))) (fun args P hl hF => ?_)⟩)
  · obtain ⟨g, rfl, _⟩ := hF
    rfl
  obtain ⟨g, rfl, hg, hP⟩ := hF
  simp -implicitDefEqProofs only [DL.WW, List.isEmpty_nil, List.map, List.length, List.length_cons, List.length_nil, List.length_set, List.replicate, List.append, List.cons_append, List.nil_append, List.append_nil, List.getElem?_cons_zero, List.getElem?_cons_succ, List.getElem?_nil, List.set_cons_zero, List.set_cons_succ, ↓reduceIte, Bool.false_eq_true, Bool.not_true, Bool.not_false, Bool.true_and, Bool.false_and, Bool.and_true, Bool.and_false, Bool.or_true, Bool.or_false, Bool.true_or, Bool.false_or, Nat.reduceAdd, Nat.reduceSub, Nat.reduceLT, Nat.reduceLeDiff, true_and, and_true, and_self, decide_eq_true_eq, Nat.zero_lt_succ, Nat.lt_add_left_iff_pos, beq_self_eq_true, String.reduceBEq, String.reduceEq, Nat.le_refl, Nat.zero_le, Bool.true_eq_false, decide_true, decide_false, Int.reduceEq, Int.reduceLT, Int.reduceLE, Int.reduceSub, Int.reduceAdd, DL.wIfT, DL.wListRg, DL.eSortT, DL.eAddS, DL.eInS, DL.eLenS, DL.wSlS, DL.wI2, DL.evd_mx, DL.evd_mn, DL.evd_gcd, DL.wIStr, DL.wIEnumS, DL.eJnL, DL.eJnT, DL.wJoin, DL.eStrI, DL.eIntS, DL.strsD_map]
  refine ⟨g, rfl, hg, by have := hg.1; omega, ?_⟩
  cases hq : frac 50 g with
  | none =>
    rw [hq] at hP
    simp -implicitDefEqProofs only [DL.WW, List.isEmpty_nil, List.map, List.length, List.length_cons, List.length_nil, List.length_set, List.replicate, List.append, List.cons_append, List.nil_append, List.append_nil, List.getElem?_cons_zero, List.getElem?_cons_succ, List.getElem?_nil, List.set_cons_zero, List.set_cons_succ, ↓reduceIte, Bool.false_eq_true, Bool.not_true, Bool.not_false, Bool.true_and, Bool.false_and, Bool.and_true, Bool.and_false, Bool.or_true, Bool.or_false, Bool.true_or, Bool.false_or, Nat.reduceAdd, Nat.reduceSub, Nat.reduceLT, Nat.reduceLeDiff, true_and, and_true, and_self, decide_eq_true_eq, Nat.zero_lt_succ, Nat.lt_add_left_iff_pos, beq_self_eq_true, String.reduceBEq, String.reduceEq, Nat.le_refl, Nat.zero_le, Bool.true_eq_false, decide_true, decide_false, Int.reduceEq, Int.reduceLT, Int.reduceLE, Int.reduceSub, Int.reduceAdd, DL.wIfT, DL.wListRg, DL.eSortT, DL.eAddS, DL.eInS, DL.eLenS, DL.wSlS, DL.wI2, DL.evd_mx, DL.evd_mn, DL.evd_gcd, DL.wIStr, DL.wIEnumS, DL.eJnL, DL.eJnT, DL.wJoin, DL.eStrI, DL.eIntS, DL.strsD_map, frD]
    exact hP
  | some q =>
    obtain ⟨p, b⟩ := q
    rw [hq] at hP
    simp -implicitDefEqProofs only [DL.WW, List.isEmpty_nil, List.map, List.length, List.length_cons, List.length_nil, List.length_set, List.replicate, List.append, List.cons_append, List.nil_append, List.append_nil, List.getElem?_cons_zero, List.getElem?_cons_succ, List.getElem?_nil, List.set_cons_zero, List.set_cons_succ, ↓reduceIte, Bool.false_eq_true, Bool.not_true, Bool.not_false, Bool.true_and, Bool.false_and, Bool.and_true, Bool.and_false, Bool.or_true, Bool.or_false, Bool.true_or, Bool.false_or, Nat.reduceAdd, Nat.reduceSub, Nat.reduceLT, Nat.reduceLeDiff, true_and, and_true, and_self, decide_eq_true_eq, Nat.zero_lt_succ, Nat.lt_add_left_iff_pos, beq_self_eq_true, String.reduceBEq, String.reduceEq, Nat.le_refl, Nat.zero_le, Bool.true_eq_false, decide_true, decide_false, Int.reduceEq, Int.reduceLT, Int.reduceLE, Int.reduceSub, Int.reduceAdd, DL.wIfT, DL.wListRg, DL.eSortT, DL.eAddS, DL.eInS, DL.eLenS, DL.wSlS, DL.wI2, DL.evd_mx, DL.evd_mn, DL.evd_gcd, DL.wIStr, DL.wIEnumS, DL.eJnL, DL.eJnT, DL.wJoin, DL.eStrI, DL.eIntS, DL.strsD_map, frD]
    have hs := frac_spec _ _ _ _ hq
    have hb : b ≤ 256 := by have := hs.1; unfold PowB at this; omega
    have hpp : p.natAbs ≤ 256 := by
      have := hs.1
      unfold PowB at this
      rcases hs.2 with ⟨_, _, h⟩ | ⟨_, _, _, h⟩ <;> omega
    have e1 := str_int hpp
    have e2 : Str.ofString (toString (b : Int)) = stC (digs b) := (dig hb).pos
    have e3 : Str.ofString "/" = stC [47] := by decide +kernel
    have l1 := intT_len hpp
    have l2 := digs_len hb
    rw [e1, e2, e3, stC_app, stC_app]
    refine ⟨log_small hpp, ?_, log_small hb, ?_, ?_⟩
    · rw [stC_len, stC_len]
      exact Nat.le_trans (show _ ≤ 100 by simp; omega) (by decide)
    · rw [stC_len, stC_len]
      exact Nat.le_trans (show _ ≤ 100 by simp; omega) (by decide)
    · have e4 : intT p ++ [47] ++ digs b = fracT p b := by unfold fracT; simp
      rw [e4]
      exact hP
def F_named : FSp := fun args P => ∃ g : G, args = [some (.dat (gD g))] ∧ Sm g ∧ P (.dat (stO (nameOf g))) [none]
theorem ok_named {k : Nat} (T : Txt K mg) (G_integer_of : FnOk P w K mg base CX0 k T.a_integer_of T.d_integer_of ["game"] (spD K F_integer_of)) (G_fraction_name : FnOk P w K mg base CX0 k T.a_fraction_name T.d_fraction_name ["game"] (spD K F_fraction_name)) (G_nimber_form : FnOk P w K mg base CX0 k T.a_nimber_form T.d_nimber_form ["size"] (spD K F_nimber_form)) : FnOk P w K mg base CX0 (k + 1) T.a_named T.d_named ["game"] (spD K F_named) := by
  refine T.F_named.ok sc_named (fun vs H Q E h => spD_len (fun args P hF => ?_) h) (fun cdv A outer s H vs Q E hr h => ⟨_, (pss_cons (ps_set (i := 1) sc_named.nd rfl (Or.inl rfl) (pe_call G_integer_of hr rfl T.g_integer_of T.F_integer_of.kp T.b_integer_of .nil pass0 (pa_cons (pv 0) pa_nil)))
  (pss_cons (ps_if (pt_cmpR op_notN (pv 1) pe_non (nomark _))
  (pss_one (ps_ret (pe_callTy call_str_int rfl T.m_str (by decide +kernel) (pa_cons (pv 1) pa_nil))))
  pss_nil)
  (pss_cons (ps_for PassesOwn.never rfl (pi_tupK (K := K) rfl (pe_tup (pa_cons (pe_tup (pa_cons (pe_glob (v := T.v_STAR) rfl T.c_STAR T.r_STAR) (pa_cons pe_str pa_nil))) (pa_cons (pe_tup (pa_cons (pe_glob (v := T.v_UP) rfl T.c_UP T.r_UP) (pa_cons pe_str pa_nil))) (pa_cons (pe_tup (pa_cons (pe_glob (v := T.v_DOWN) rfl T.c_DOWN T.r_DOWN) (pa_cons pe_str pa_nil))) (pa_cons (pe_tup (pa_cons (pe_glob (v := T.v_UP_STAR) rfl T.c_UP_STAR T.r_UP_STAR) (pa_cons pe_str pa_nil))) (pa_cons (pe_tup (pa_cons (pe_glob (v := T.v_DOWN_STAR) rfl T.c_DOWN_STAR T.r_DOWN_STAR) (pa_cons pe_str pa_nil))) pa_nil))))))) (pg_tupK (K := K) (n := 2) rfl rfl (pgs_cons (pg_name (i := 2) sc_named.nd rfl (Or.inl rfl)) (pgs_cons (pg_name (i := 3) sc_named.nd rfl (Or.inl rfl)) pgs_nil)))
  (pss_one (ps_if (pt_cmpR (op_eqDK (K := K) rfl hr.units) (pv 0) (pv 2) (nomark _))
  (pss_one (ps_ret (pv 3)))
  pss_nil)))
  (pss_cons (ps_for PassesOwn.never rfl (pi_range2 rfl T.m_range (pa_cons pe_int (pa_cons (pe_op op_add (pe_glob (v := .int 5) rfl T.c_MOST_NIMBER ⟨_, rfl⟩) pe_int) pa_nil))) (pg_name (i := 4) sc_named.nd rfl (Or.inl rfl))
  (pss_one (ps_if (pt_cmpR (op_eqDK (K := K) rfl hr.units) (pv 0) (pe_call G_nimber_form hr rfl T.g_nimber_form T.F_nimber_form.kp T.b_nimber_form .nil pass0 (pa_cons (pv 4) pa_nil)) (nomark _))
  (pss_one (ps_ret (pe_op op_add_str pe_str (pe_callTy call_str_int rfl T.m_str (by decide +kernel) (pa_cons (pv 4) pa_nil)))))
  pss_nil)))
  (pss_one (ps_ret (pe_call G_fraction_name hr rfl T.g_fraction_name T.F_fraction_name.kp T.b_fraction_name .nil pass0 (pa_cons (pv 0) pa_nil)))))))), fn_run (N := ["game", "whole", "told", "name", "size"]) h (fun A' Hz' => (ss_seq (ss_asg (se_call (sa_cons se_var sa_nil)) sg_name)
  (ss_seq (ss_if (st_test (se_op sr_notN se_var se_non))
  (ss_ret (se_cb1 sc_strI se_var))
  ss_next)
  (ss_seq (ss_for (si_tup (se_tup (sa_cons (se_tup (sa_cons (se_gd T.q_STAR) (sa_cons se_str sa_nil))) (sa_cons (se_tup (sa_cons (se_gd T.q_UP) (sa_cons se_str sa_nil))) (sa_cons (se_tup (sa_cons (se_gd T.q_DOWN) (sa_cons se_str sa_nil))) (sa_cons (se_tup (sa_cons (se_gd T.q_UP_STAR) (sa_cons se_str sa_nil))) (sa_cons (se_tup (sa_cons (se_gd T.q_DOWN_STAR) (sa_cons se_str sa_nil))) sa_nil))))))) (sg_tup (sgs_cons sg_name (sgs_cons sg_name sgs_nil)))
  (ss_if (st_test (se_op sr_eqD se_var se_var))
  (ss_ret se_var)
  ss_next))
  (ss_seq (ss_for (si_rng2 se_int (se_op (sr_I0 (fun _ _ => rfl)) se_int se_int)) sg_name
  (ss_if (st_test (se_op sr_eqD se_var (se_call (sa_cons se_var sa_nil))))
  (ss_ret (se_op sr_addS se_str (se_cb1 sc_strI se_var)))
  ss_next))
  (ss_ret (se_call (sa_cons se_var sa_nil)))))))) (fun args P hl hF => ?_)⟩)
  · obtain ⟨g, rfl, _⟩ := hF
    rfl
  obtain ⟨g, rfl, hg, hP⟩ := hF
  simp -implicitDefEqProofs only [DL.WW, List.isEmpty_nil, List.map, List.length, List.length_cons, List.length_nil, List.length_set, List.replicate, List.append, List.cons_append, List.nil_append, List.append_nil, List.getElem?_cons_zero, List.getElem?_cons_succ, List.getElem?_nil, List.set_cons_zero, List.set_cons_succ, ↓reduceIte, Bool.false_eq_true, Bool.not_true, Bool.not_false, Bool.true_and, Bool.false_and, Bool.and_true, Bool.and_false, Bool.or_true, Bool.or_false, Bool.true_or, Bool.false_or, Nat.reduceAdd, Nat.reduceSub, Nat.reduceLT, Nat.reduceLeDiff, true_and, and_true, and_self, decide_eq_true_eq, Nat.zero_lt_succ, Nat.lt_add_left_iff_pos, beq_self_eq_true, String.reduceBEq, String.reduceEq, Nat.le_refl, Nat.zero_le, Bool.true_eq_false, decide_true, decide_false, Int.reduceEq, Int.reduceLT, Int.reduceLE, Int.reduceSub, Int.reduceAdd, DL.wIfT, DL.wListRg, DL.eSortT, DL.eAddS, DL.eInS, DL.eLenS, DL.wSlS, DL.wI2, DL.evd_mx, DL.evd_mn, DL.evd_gcd, DL.wIStr, DL.wIEnumS, DL.eJnL, DL.eJnT, DL.wJoin, DL.eStrI, DL.eIntS, DL.strsD_map]
  refine ⟨g, rfl, hg, ?_⟩
  unfold nameOf at hP
  cases hi : intOf 18 0 g with
  | some n =>
    rw [hi] at hP
    simp -implicitDefEqProofs only [DL.WW, List.isEmpty_nil, List.map, List.length, List.length_cons, List.length_nil, List.length_set, List.replicate, List.append, List.cons_append, List.nil_append, List.append_nil, List.getElem?_cons_zero, List.getElem?_cons_succ, List.getElem?_nil, List.set_cons_zero, List.set_cons_succ, ↓reduceIte, Bool.false_eq_true, Bool.not_true, Bool.not_false, Bool.true_and, Bool.false_and, Bool.and_true, Bool.and_false, Bool.or_true, Bool.or_false, Bool.true_or, Bool.false_or, Nat.reduceAdd, Nat.reduceSub, Nat.reduceLT, Nat.reduceLeDiff, true_and, and_true, and_self, decide_eq_true_eq, Nat.zero_lt_succ, Nat.lt_add_left_iff_pos, beq_self_eq_true, String.reduceBEq, String.reduceEq, Nat.le_refl, Nat.zero_le, Bool.true_eq_false, decide_true, decide_false, Int.reduceEq, Int.reduceLT, Int.reduceLE, Int.reduceSub, Int.reduceAdd, DL.wIfT, DL.wListRg, DL.eSortT, DL.eAddS, DL.eInS, DL.eLenS, DL.wSlS, DL.wI2, DL.evd_mx, DL.evd_mn, DL.evd_gcd, DL.wIStr, DL.wIEnumS, DL.eJnL, DL.eJnT, DL.wJoin, DL.eStrI, DL.eIntS, DL.strsD_map]
    have hn := (intOf_iG hi).2
    rw [str_int (by omega)]
    exact ⟨log_small (by omega), hP⟩
  | none =>
    rw [hi] at hP
    simp -implicitDefEqProofs only [DL.WW, List.isEmpty_nil, List.map, List.length, List.length_cons, List.length_nil, List.length_set, List.replicate, List.append, List.cons_append, List.nil_append, List.append_nil, List.getElem?_cons_zero, List.getElem?_cons_succ, List.getElem?_nil, List.set_cons_zero, List.set_cons_succ, ↓reduceIte, Bool.false_eq_true, Bool.not_true, Bool.not_false, Bool.true_and, Bool.false_and, Bool.and_true, Bool.and_false, Bool.or_true, Bool.or_false, Bool.true_or, Bool.false_or, Nat.reduceAdd, Nat.reduceSub, Nat.reduceLT, Nat.reduceLeDiff, true_and, and_true, and_self, decide_eq_true_eq, Nat.zero_lt_succ, Nat.lt_add_left_iff_pos, beq_self_eq_true, String.reduceBEq, String.reduceEq, Nat.le_refl, Nat.zero_le, Bool.true_eq_false, decide_true, decide_false, Int.reduceEq, Int.reduceLT, Int.reduceLE, Int.reduceSub, Int.reduceAdd, DL.wIfT, DL.wListRg, DL.eSortT, DL.eAddS, DL.eInS, DL.eLenS, DL.wSlS, DL.wI2, DL.evd_mx, DL.evd_mn, DL.evd_gcd, DL.wIStr, DL.wIEnumS, DL.eJnL, DL.eJnT, DL.wJoin, DL.eStrI, DL.eIntS, DL.strsD_map, dZ, dS, dU, dD, dUS, dDS]
    refine for_use ?_
    simp -implicitDefEqProofs only [DL.WW, List.isEmpty_nil, List.map, List.length, List.length_cons, List.length_nil, List.length_set, List.replicate, List.append, List.cons_append, List.nil_append, List.append_nil, List.getElem?_cons_zero, List.getElem?_cons_succ, List.getElem?_nil, List.set_cons_zero, List.set_cons_succ, ↓reduceIte, Bool.false_eq_true, Bool.not_true, Bool.not_false, Bool.true_and, Bool.false_and, Bool.and_true, Bool.and_false, Bool.or_true, Bool.or_false, Bool.true_or, Bool.false_or, Nat.reduceAdd, Nat.reduceSub, Nat.reduceLT, Nat.reduceLeDiff, true_and, and_true, and_self, decide_eq_true_eq, Nat.zero_lt_succ, Nat.lt_add_left_iff_pos, beq_self_eq_true, String.reduceBEq, String.reduceEq, Nat.le_refl, Nat.zero_le, Bool.true_eq_false, decide_true, decide_false, Int.reduceEq, Int.reduceLT, Int.reduceLE, Int.reduceSub, Int.reduceAdd, DL.wIfT, DL.wListRg, DL.eSortT, DL.eAddS, DL.eInS, DL.eLenS, DL.wSlS, DL.wI2, DL.evd_mx, DL.evd_mn, DL.evd_gcd, DL.wIStr, DL.wIEnumS, DL.eJnL, DL.eJnT, DL.wJoin, DL.eStrI, DL.eIntS, DL.strsD_map, dZ, dS, dU, dD, dUS, dDS]
    have eN : nms.map nmD = [PyData.tuple [gD star, PyData.str (Str.ofString "*")], PyData.tuple [gD up, PyData.str (Str.ofString "^")],
      PyData.tuple [gD down, PyData.str (Str.ofString "v")], PyData.tuple [gD upS, PyData.str (Str.ofString "^*")],
      PyData.tuple [gD downS, PyData.str (Str.ofString "v*")]] := by
      have a1 : Str.ofString "*" = stC [42] := by decide +kernel
      have a2 : Str.ofString "^" = stC [94] := by decide +kernel
      have a3 : Str.ofString "v" = stC [118] := by decide +kernel
      have a4 : Str.ofString "^*" = stC [94, 42] := by decide +kernel
      have a5 : Str.ofString "v*" = stC [118, 42] := by decide +kernel
      rw [a1, a2, a3, a4, a5]
      rfl
    rw [← eN]
    have hP2 : P (.dat (stO (nameOf g))) [none] := by unfold nameOf; rw [hi]; exact hP
    rw [name_split hi] at hP2
    refine ⟨fun i e => ∃ z2 z3, e = [some (.dat (gD g)), some (.dat .none), z2, z3, none] ∧ ∀ p ∈ nms.take i, eqG g p.1 = false, ⟨none, none, rfl, fun p hp => by cases hp⟩, ?_, ?_⟩
    · rintro i d e hd ⟨z2, z3, rfl, hno⟩
      obtain ⟨p, hp, rfl⟩ := map_get hd
      have hpm := nms_sm p (List.mem_of_getElem? hp)
      unfold nmD
      simp -implicitDefEqProofs only [DL.WW, List.isEmpty_nil, List.map, List.length, List.length_cons, List.length_nil, List.length_set, List.replicate, List.append, List.cons_append, List.nil_append, List.append_nil, List.getElem?_cons_zero, List.getElem?_cons_succ, List.getElem?_nil, List.set_cons_zero, List.set_cons_succ, ↓reduceIte, Bool.false_eq_true, Bool.not_true, Bool.not_false, Bool.true_and, Bool.false_and, Bool.and_true, Bool.and_false, Bool.or_true, Bool.or_false, Bool.true_or, Bool.false_or, Nat.reduceAdd, Nat.reduceSub, Nat.reduceLT, Nat.reduceLeDiff, true_and, and_true, and_self, decide_eq_true_eq, Nat.zero_lt_succ, Nat.lt_add_left_iff_pos, beq_self_eq_true, String.reduceBEq, String.reduceEq, Nat.le_refl, Nat.zero_le, Bool.true_eq_false, decide_true, decide_false, Int.reduceEq, Int.reduceLT, Int.reduceLE, Int.reduceSub, Int.reduceAdd, DL.wIfT, DL.wListRg, DL.eSortT, DL.eAddS, DL.eInS, DL.eLenS, DL.wSlS, DL.wI2, DL.evd_mx, DL.evd_mn, DL.evd_gcd, DL.wIStr, DL.wIEnumS, DL.eJnL, DL.eJnT, DL.wJoin, DL.eStrI, DL.eIntS, DL.strsD_map, eqv_g]
      refine ⟨hg.sh, hpm.sh, ?_⟩
      by_cases c : eqG g p.1 = true
      · rw [find_at hp c hno] at hP2
        simp -implicitDefEqProofs only [DL.WW, List.isEmpty_nil, List.map, List.length, List.length_cons, List.length_nil, List.length_set, List.replicate, List.append, List.cons_append, List.nil_append, List.append_nil, List.getElem?_cons_zero, List.getElem?_cons_succ, List.getElem?_nil, List.set_cons_zero, List.set_cons_succ, ↓reduceIte, Bool.false_eq_true, Bool.not_true, Bool.not_false, Bool.true_and, Bool.false_and, Bool.and_true, Bool.and_false, Bool.or_true, Bool.or_false, Bool.true_or, Bool.false_or, Nat.reduceAdd, Nat.reduceSub, Nat.reduceLT, Nat.reduceLeDiff, true_and, and_true, and_self, decide_eq_true_eq, Nat.zero_lt_succ, Nat.lt_add_left_iff_pos, beq_self_eq_true, String.reduceBEq, String.reduceEq, Nat.le_refl, Nat.zero_le, Bool.true_eq_false, decide_true, decide_false, Int.reduceEq, Int.reduceLT, Int.reduceLE, Int.reduceSub, Int.reduceAdd, DL.wIfT, DL.wListRg, DL.eSortT, DL.eAddS, DL.eInS, DL.eLenS, DL.wSlS, DL.wI2, DL.evd_mx, DL.evd_mn, DL.evd_gcd, DL.wIStr, DL.wIEnumS, DL.eJnL, DL.eJnT, DL.wJoin, DL.eStrI, DL.eIntS, DL.strsD_map, c]
        exact hP2
      · have cf : eqG g p.1 = false := by simpa using c
        simp -implicitDefEqProofs only [DL.WW, List.isEmpty_nil, List.map, List.length, List.length_cons, List.length_nil, List.length_set, List.replicate, List.append, List.cons_append, List.nil_append, List.append_nil, List.getElem?_cons_zero, List.getElem?_cons_succ, List.getElem?_nil, List.set_cons_zero, List.set_cons_succ, ↓reduceIte, Bool.false_eq_true, Bool.not_true, Bool.not_false, Bool.true_and, Bool.false_and, Bool.and_true, Bool.and_false, Bool.or_true, Bool.or_false, Bool.true_or, Bool.false_or, Nat.reduceAdd, Nat.reduceSub, Nat.reduceLT, Nat.reduceLeDiff, true_and, and_true, and_self, decide_eq_true_eq, Nat.zero_lt_succ, Nat.lt_add_left_iff_pos, beq_self_eq_true, String.reduceBEq, String.reduceEq, Nat.le_refl, Nat.zero_le, Bool.true_eq_false, decide_true, decide_false, Int.reduceEq, Int.reduceLT, Int.reduceLE, Int.reduceSub, Int.reduceAdd, DL.wIfT, DL.wListRg, DL.eSortT, DL.eAddS, DL.eInS, DL.eLenS, DL.wSlS, DL.wI2, DL.evd_mx, DL.evd_mn, DL.evd_gcd, DL.wIStr, DL.wIEnumS, DL.eJnL, DL.eJnT, DL.wJoin, DL.eStrI, DL.eIntS, DL.strsD_map, cf]
        refine ⟨_, _, rfl, fun p' hp' => ?_⟩
        rw [List.take_succ, hp] at hp'
        rcases List.mem_append.mp hp' with h | h
        · exact hno _ h
        · have : p' = p := by simpa using h
          rw [this]
          exact cf
    · rintro e ⟨z2, z3, rfl, hno⟩
      rw [List.length_map, List.take_length] at hno
      rw [find_no hno] at hP2
      dsimp only at hP2 ⊢
      simp -implicitDefEqProofs only [DL.WW, List.isEmpty_nil, List.map, List.length, List.length_cons, List.length_nil, List.length_set, List.replicate, List.append, List.cons_append, List.nil_append, List.append_nil, List.getElem?_cons_zero, List.getElem?_cons_succ, List.getElem?_nil, List.set_cons_zero, List.set_cons_succ, ↓reduceIte, Bool.false_eq_true, Bool.not_true, Bool.not_false, Bool.true_and, Bool.false_and, Bool.and_true, Bool.and_false, Bool.or_true, Bool.or_false, Bool.true_or, Bool.false_or, Nat.reduceAdd, Nat.reduceSub, Nat.reduceLT, Nat.reduceLeDiff, true_and, and_true, and_self, decide_eq_true_eq, Nat.zero_lt_succ, Nat.lt_add_left_iff_pos, beq_self_eq_true, String.reduceBEq, String.reduceEq, Nat.le_refl, Nat.zero_le, Bool.true_eq_false, decide_true, decide_false, Int.reduceEq, Int.reduceLT, Int.reduceLE, Int.reduceSub, Int.reduceAdd, DL.wIfT, DL.wListRg, DL.eSortT, DL.eAddS, DL.eInS, DL.eLenS, DL.wSlS, DL.wI2, DL.evd_mx, DL.evd_mn, DL.evd_gcd, DL.wIStr, DL.wIEnumS, DL.eJnL, DL.eJnT, DL.wJoin, DL.eStrI, DL.eIntS, DL.strsD_map]
      refine for_use ?_
      simp -implicitDefEqProofs only [DL.WW, List.isEmpty_nil, List.map, List.length, List.length_cons, List.length_nil, List.length_set, List.replicate, List.append, List.cons_append, List.nil_append, List.append_nil, List.getElem?_cons_zero, List.getElem?_cons_succ, List.getElem?_nil, List.set_cons_zero, List.set_cons_succ, ↓reduceIte, Bool.false_eq_true, Bool.not_true, Bool.not_false, Bool.true_and, Bool.false_and, Bool.and_true, Bool.and_false, Bool.or_true, Bool.or_false, Bool.true_or, Bool.false_or, Nat.reduceAdd, Nat.reduceSub, Nat.reduceLT, Nat.reduceLeDiff, true_and, and_true, and_self, decide_eq_true_eq, Nat.zero_lt_succ, Nat.lt_add_left_iff_pos, beq_self_eq_true, String.reduceBEq, String.reduceEq, Nat.le_refl, Nat.zero_le, Bool.true_eq_false, decide_true, decide_false, Int.reduceEq, Int.reduceLT, Int.reduceLE, Int.reduceSub, Int.reduceAdd, DL.wIfT, DL.wListRg, DL.eSortT, DL.eAddS, DL.eInS, DL.eLenS, DL.wSlS, DL.wI2, DL.evd_mx, DL.evd_mn, DL.evd_gcd, DL.wIStr, DL.wIEnumS, DL.eJnL, DL.eJnT, DL.wJoin, DL.eStrI, DL.eIntS, DL.strsD_map]
      have e24 : (Int.toNat 4) = 4 := rfl
      have ek : rangeD 2 4 = [2, 3, 4, 5].map fun k : Nat => PyData.int (k : Int) := rfl
      rw [e24, ek]
      have nsm : ∀ k ∈ [2, 3, 4, 5], Sm (nimG k) := fun k hk => by
        have : Sm (nimG 2) ∧ Sm (nimG 3) ∧ Sm (nimG 4) ∧ Sm (nimG 5) := by unfold Sm; decide +kernel
        simp at hk
        rcases hk with rfl | rfl | rfl | rfl
        · exact this.1
        · exact this.2.1
        · exact this.2.2.1
        · exact this.2.2.2
      refine ⟨⟨by decide, by decide, by decide, by decide⟩, fun i e => ∃ z4, e = [some (.dat (gD g)), some (.dat .none), z2, z3, z4] ∧ ∀ k ∈ [2, 3, 4, 5].take i, eqG g (nimG k) = false, ⟨none, rfl, fun p hp => by cases hp⟩, ?_, ?_⟩
      · rintro i d e hd ⟨z4, rfl, hno2⟩
        obtain ⟨k, hk, rfl⟩ := map_get hd
        have hkm := List.mem_of_getElem? hk
        have hk5 : 2 ≤ k ∧ k ≤ 5 := by simp at hkm; omega
        simp -implicitDefEqProofs only [DL.WW, List.isEmpty_nil, List.map, List.length, List.length_cons, List.length_nil, List.length_set, List.replicate, List.append, List.cons_append, List.nil_append, List.append_nil, List.getElem?_cons_zero, List.getElem?_cons_succ, List.getElem?_nil, List.set_cons_zero, List.set_cons_succ, ↓reduceIte, Bool.false_eq_true, Bool.not_true, Bool.not_false, Bool.true_and, Bool.false_and, Bool.and_true, Bool.and_false, Bool.or_true, Bool.or_false, Bool.true_or, Bool.false_or, Nat.reduceAdd, Nat.reduceSub, Nat.reduceLT, Nat.reduceLeDiff, true_and, and_true, and_self, decide_eq_true_eq, Nat.zero_lt_succ, Nat.lt_add_left_iff_pos, beq_self_eq_true, String.reduceBEq, String.reduceEq, Nat.le_refl, Nat.zero_le, Bool.true_eq_false, decide_true, decide_false, Int.reduceEq, Int.reduceLT, Int.reduceLE, Int.reduceSub, Int.reduceAdd, DL.wIfT, DL.wListRg, DL.eSortT, DL.eAddS, DL.eInS, DL.eLenS, DL.wSlS, DL.wI2, DL.evd_mx, DL.evd_mn, DL.evd_gcd, DL.wIStr, DL.wIEnumS, DL.eJnL, DL.eJnT, DL.wJoin, DL.eStrI, DL.eIntS, DL.strsD_map]
        refine ⟨k, rfl, by omega, ?_⟩
        simp -implicitDefEqProofs only [DL.WW, List.isEmpty_nil, List.map, List.length, List.length_cons, List.length_nil, List.length_set, List.replicate, List.append, List.cons_append, List.nil_append, List.append_nil, List.getElem?_cons_zero, List.getElem?_cons_succ, List.getElem?_nil, List.set_cons_zero, List.set_cons_succ, ↓reduceIte, Bool.false_eq_true, Bool.not_true, Bool.not_false, Bool.true_and, Bool.false_and, Bool.and_true, Bool.and_false, Bool.or_true, Bool.or_false, Bool.true_or, Bool.false_or, Nat.reduceAdd, Nat.reduceSub, Nat.reduceLT, Nat.reduceLeDiff, true_and, and_true, and_self, decide_eq_true_eq, Nat.zero_lt_succ, Nat.lt_add_left_iff_pos, beq_self_eq_true, String.reduceBEq, String.reduceEq, Nat.le_refl, Nat.zero_le, Bool.true_eq_false, decide_true, decide_false, Int.reduceEq, Int.reduceLT, Int.reduceLE, Int.reduceSub, Int.reduceAdd, DL.wIfT, DL.wListRg, DL.eSortT, DL.eAddS, DL.eInS, DL.eLenS, DL.wSlS, DL.wI2, DL.evd_mx, DL.evd_mn, DL.evd_gcd, DL.wIStr, DL.wIEnumS, DL.eJnL, DL.eJnT, DL.wJoin, DL.eStrI, DL.eIntS, DL.strsD_map, eqv_g]
        refine ⟨hg.sh, (nsm k hkm).sh, ?_⟩
        by_cases c : eqG g (nimG k) = true
        · rw [find_at hk c hno2] at hP2
          have a1 : Str.ofString "*" = stC [42] := by decide +kernel
          have a2 : Str.ofString (toString (k : Int)) = stC [48 + k] := by
            have : k = 2 ∨ k = 3 ∨ k = 4 ∨ k = 5 := by omega
            rcases this with rfl | rfl | rfl | rfl <;> decide +kernel
          simp -implicitDefEqProofs only [DL.WW, List.isEmpty_nil, List.map, List.length, List.length_cons, List.length_nil, List.length_set, List.replicate, List.append, List.cons_append, List.nil_append, List.append_nil, List.getElem?_cons_zero, List.getElem?_cons_succ, List.getElem?_nil, List.set_cons_zero, List.set_cons_succ, ↓reduceIte, Bool.false_eq_true, Bool.not_true, Bool.not_false, Bool.true_and, Bool.false_and, Bool.and_true, Bool.and_false, Bool.or_true, Bool.or_false, Bool.true_or, Bool.false_or, Nat.reduceAdd, Nat.reduceSub, Nat.reduceLT, Nat.reduceLeDiff, true_and, and_true, and_self, decide_eq_true_eq, Nat.zero_lt_succ, Nat.lt_add_left_iff_pos, beq_self_eq_true, String.reduceBEq, String.reduceEq, Nat.le_refl, Nat.zero_le, Bool.true_eq_false, decide_true, decide_false, Int.reduceEq, Int.reduceLT, Int.reduceLE, Int.reduceSub, Int.reduceAdd, DL.wIfT, DL.wListRg, DL.eSortT, DL.eAddS, DL.eInS, DL.eLenS, DL.wSlS, DL.wI2, DL.evd_mx, DL.evd_mn, DL.evd_gcd, DL.wIStr, DL.wIEnumS, DL.eJnL, DL.eJnT, DL.wJoin, DL.eStrI, DL.eIntS, DL.strsD_map, c, a1, a2, stC_app]
          exact ⟨log_small (by omega), by rw [stC_len, stC_len]; exact Nat.le_trans (show _ ≤ 2 from Nat.le_refl _) (by decide), hP2⟩
        · have cf : eqG g (nimG k) = false := by simpa using c
          simp -implicitDefEqProofs only [DL.WW, List.isEmpty_nil, List.map, List.length, List.length_cons, List.length_nil, List.length_set, List.replicate, List.append, List.cons_append, List.nil_append, List.append_nil, List.getElem?_cons_zero, List.getElem?_cons_succ, List.getElem?_nil, List.set_cons_zero, List.set_cons_succ, ↓reduceIte, Bool.false_eq_true, Bool.not_true, Bool.not_false, Bool.true_and, Bool.false_and, Bool.and_true, Bool.and_false, Bool.or_true, Bool.or_false, Bool.true_or, Bool.false_or, Nat.reduceAdd, Nat.reduceSub, Nat.reduceLT, Nat.reduceLeDiff, true_and, and_true, and_self, decide_eq_true_eq, Nat.zero_lt_succ, Nat.lt_add_left_iff_pos, beq_self_eq_true, String.reduceBEq, String.reduceEq, Nat.le_refl, Nat.zero_le, Bool.true_eq_false, decide_true, decide_false, Int.reduceEq, Int.reduceLT, Int.reduceLE, Int.reduceSub, Int.reduceAdd, DL.wIfT, DL.wListRg, DL.eSortT, DL.eAddS, DL.eInS, DL.eLenS, DL.wSlS, DL.wI2, DL.evd_mx, DL.evd_mn, DL.evd_gcd, DL.wIStr, DL.wIEnumS, DL.eJnL, DL.eJnT, DL.wJoin, DL.eStrI, DL.eIntS, DL.strsD_map, cf]
          refine ⟨_, rfl, fun k' hk' => ?_⟩
          rw [List.take_succ, hk] at hk'
          rcases List.mem_append.mp hk' with h | h
          · exact hno2 _ h
          · have : k' = k := by simpa using h
            rw [this]
            exact cf
      · rintro e ⟨z4, rfl, hno2⟩
        rw [List.length_map, List.take_length] at hno2
        rw [find_no hno2] at hP2
        dsimp only at hP2 ⊢
        simp -implicitDefEqProofs only [DL.WW, List.isEmpty_nil, List.map, List.length, List.length_cons, List.length_nil, List.length_set, List.replicate, List.append, List.cons_append, List.nil_append, List.append_nil, List.getElem?_cons_zero, List.getElem?_cons_succ, List.getElem?_nil, List.set_cons_zero, List.set_cons_succ, ↓reduceIte, Bool.false_eq_true, Bool.not_true, Bool.not_false, Bool.true_and, Bool.false_and, Bool.and_true, Bool.and_false, Bool.or_true, Bool.or_false, Bool.true_or, Bool.false_or, Nat.reduceAdd, Nat.reduceSub, Nat.reduceLT, Nat.reduceLeDiff, true_and, and_true, and_self, decide_eq_true_eq, Nat.zero_lt_succ, Nat.lt_add_left_iff_pos, beq_self_eq_true, String.reduceBEq, String.reduceEq, Nat.le_refl, Nat.zero_le, Bool.true_eq_false, decide_true, decide_false, Int.reduceEq, Int.reduceLT, Int.reduceLE, Int.reduceSub, Int.reduceAdd, DL.wIfT, DL.wListRg, DL.eSortT, DL.eAddS, DL.eInS, DL.eLenS, DL.wSlS, DL.wI2, DL.evd_mx, DL.evd_mn, DL.evd_gcd, DL.wIStr, DL.wIEnumS, DL.eJnL, DL.eJnT, DL.wJoin, DL.eStrI, DL.eIntS, DL.strsD_map]
        refine ⟨g, rfl, hg, ?_⟩
        simp -implicitDefEqProofs only [DL.WW, List.isEmpty_nil, List.map, List.length, List.length_cons, List.length_nil, List.length_set, List.replicate, List.append, List.cons_append, List.nil_append, List.append_nil, List.getElem?_cons_zero, List.getElem?_cons_succ, List.getElem?_nil, List.set_cons_zero, List.set_cons_succ, ↓reduceIte, Bool.false_eq_true, Bool.not_true, Bool.not_false, Bool.true_and, Bool.false_and, Bool.and_true, Bool.and_false, Bool.or_true, Bool.or_false, Bool.true_or, Bool.false_or, Nat.reduceAdd, Nat.reduceSub, Nat.reduceLT, Nat.reduceLeDiff, true_and, and_true, and_self, decide_eq_true_eq, Nat.zero_lt_succ, Nat.lt_add_left_iff_pos, beq_self_eq_true, String.reduceBEq, String.reduceEq, Nat.le_refl, Nat.zero_le, Bool.true_eq_false, decide_true, decide_false, Int.reduceEq, Int.reduceLT, Int.reduceLE, Int.reduceSub, Int.reduceAdd, DL.wIfT, DL.wListRg, DL.eSortT, DL.eAddS, DL.eInS, DL.eLenS, DL.wSlS, DL.wI2, DL.evd_mx, DL.evd_mn, DL.evd_gcd, DL.wIStr, DL.wIEnumS, DL.eJnL, DL.eJnT, DL.wJoin, DL.eStrI, DL.eIntS, DL.strsD_map]
        exact hP2
def F_txt (d : Nat) : FSp := fun args P => ∃ g : G, args = [some (.dat (gD g))] ∧ Sm g ∧ ht g < d ∧ P (.dat (.str (stC (txt d g)))) [none]
section
variable {f : Nat}
theorem ok_text_of {k : Nat} (T : Txt K mg) (G_named : FnOk P w K mg base CX0 k T.a_named T.d_named ["game"] (spD K F_named)) (G_text_of : FnOk P w K mg base CX0 k T.a_text_of T.d_text_of ["game"] (spD K (F_txt f))) : FnOk P w K mg base CX0 (k + 1) T.a_text_of T.d_text_of ["game"] (spD K (F_txt (f + 1))) := by
  refine T.F_text_of.ok sc_text_of (fun vs H Q E h => spD_len (fun args P hF => ?_) h) (fun cdv A outer s H vs Q E hr h => ⟨_, (pss_cons (ps_set (i := 1) sc_text_of.nd rfl (Or.inl rfl) (pe_call G_named hr rfl T.g_named T.F_named.kp T.b_named .nil pass0 (pa_cons (pv 0) pa_nil)))
  (pss_cons (ps_if (pt_cmpR op_notN (pv 1) pe_non (nomark _))
  (pss_one (ps_ret (pv 1)))
  pss_nil)
  (pss_cons (ps_par (i := 2) (j := 3) rfl sc_text_of.nd rfl rfl (by decide) rfl rfl (pa_cons (pe_lc (own := [("option", 4)]) rfl sc_text_of.nd (pi_tupK (K := K) rfl (pe_ix (ix_tupK (K := K) rfl) (pv 0) pe_int (fun _ _ => rfl))) (blkOk_by (N := ["game", "name", "lefts", "rights", "option"]) (sc := defScope s_text_of) (by decide +kernel)) (fun _ _ _ _ _ => (pg_name (i := 4) sc_text_of.nd rfl (Or.inl rfl))) (fun _ _ _ _ _ => pts_nil) (fun _ _ _ _ _ => (pe_call G_text_of hr rfl T.g_text_of T.F_text_of.kp T.b_text_of .nil pass0 (pa_cons (pv 4) pa_nil)))) (pa_cons (pe_lc (own := [("option", 4)]) rfl sc_text_of.nd (pi_tupK (K := K) rfl (pe_ix (ix_tupK (K := K) rfl) (pv 0) pe_int (fun _ _ => rfl))) (blkOk_by (N := ["game", "name", "lefts", "rights", "option"]) (sc := defScope s_text_of) (by decide +kernel)) (fun _ _ _ _ _ => (pg_name (i := 4) sc_text_of.nd rfl (Or.inl rfl))) (fun _ _ _ _ _ => pts_nil) (fun _ _ _ _ _ => (pe_call G_text_of hr rfl T.g_text_of T.F_text_of.kp T.b_text_of .nil pass0 (pa_cons (pv 4) pa_nil)))) pa_nil)) rfl)
  (pss_one (ps_ret (pe_op op_add_str (pe_op op_add_str (pe_op op_add_str (pe_op op_add_str pe_str (pe_joinK (K := K) rfl pe_str (pv 2))) pe_str) (pe_joinK (K := K) rfl pe_str (pv 3))) pe_str)))))), fn_run (N := ["game", "name", "lefts", "rights", "option"]) h (fun A' Hz' => (ss_seq (ss_asg (se_call (sa_cons se_var sa_nil)) sg_name)
  (ss_seq (ss_if (st_test (se_op sr_notN se_var se_non))
  (ss_ret se_var)
  ss_next)
  (ss_seq (ss_par (by decide) (se_lc (si_tup (se_op sr_ixT se_var se_int)) sg_name st_yes (se_call (sa_cons se_var sa_nil)) (by decide)) (se_lc (si_tup (se_op sr_ixT se_var se_int)) sg_name st_yes (se_call (sa_cons se_var sa_nil)) (by decide)))
  (ss_ret (se_op sr_addS (se_op sr_addS (se_op sr_addS (se_op sr_addS se_str (se_join se_str se_var)) se_str) (se_join se_str se_var)) se_str)))))) (fun args P hl hF => ?_)⟩)
  · obtain ⟨g, rfl, _⟩ := hF
    rfl
  obtain ⟨g, rfl, hg, hh, hP⟩ := hF
  simp -implicitDefEqProofs only [DL.WW, List.isEmpty_nil, List.map, List.length, List.length_cons, List.length_nil, List.length_set, List.replicate, List.append, List.cons_append, List.nil_append, List.append_nil, List.getElem?_cons_zero, List.getElem?_cons_succ, List.getElem?_nil, List.set_cons_zero, List.set_cons_succ, ↓reduceIte, Bool.false_eq_true, Bool.not_true, Bool.not_false, Bool.true_and, Bool.false_and, Bool.and_true, Bool.and_false, Bool.or_true, Bool.or_false, Bool.true_or, Bool.false_or, Nat.reduceAdd, Nat.reduceSub, Nat.reduceLT, Nat.reduceLeDiff, true_and, and_true, and_self, decide_eq_true_eq, Nat.zero_lt_succ, Nat.lt_add_left_iff_pos, beq_self_eq_true, String.reduceBEq, String.reduceEq, Nat.le_refl, Nat.zero_le, Bool.true_eq_false, decide_true, decide_false, Int.reduceEq, Int.reduceLT, Int.reduceLE, Int.reduceSub, Int.reduceAdd, DL.wIfT, DL.wListRg, DL.eSortT, DL.eAddS, DL.eInS, DL.eLenS, DL.wSlS, DL.wI2, DL.evd_mx, DL.evd_mn, DL.evd_gcd, DL.wIStr, DL.wIEnumS, DL.eJnL, DL.eJnT, DL.wJoin, DL.eStrI, DL.eIntS, DL.strsD_map]
  refine ⟨g, rfl, hg, ?_⟩
  rw [txt] at hP
  cases hn : nameOf g with
  | some t =>
    rw [hn] at hP
    simp -implicitDefEqProofs only [DL.WW, List.isEmpty_nil, List.map, List.length, List.length_cons, List.length_nil, List.length_set, List.replicate, List.append, List.cons_append, List.nil_append, List.append_nil, List.getElem?_cons_zero, List.getElem?_cons_succ, List.getElem?_nil, List.set_cons_zero, List.set_cons_succ, ↓reduceIte, Bool.false_eq_true, Bool.not_true, Bool.not_false, Bool.true_and, Bool.false_and, Bool.and_true, Bool.and_false, Bool.or_true, Bool.or_false, Bool.true_or, Bool.false_or, Nat.reduceAdd, Nat.reduceSub, Nat.reduceLT, Nat.reduceLeDiff, true_and, and_true, and_self, decide_eq_true_eq, Nat.zero_lt_succ, Nat.lt_add_left_iff_pos, beq_self_eq_true, String.reduceBEq, String.reduceEq, Nat.le_refl, Nat.zero_le, Bool.true_eq_false, decide_true, decide_false, Int.reduceEq, Int.reduceLT, Int.reduceLE, Int.reduceSub, Int.reduceAdd, DL.wIfT, DL.wListRg, DL.eSortT, DL.eAddS, DL.eInS, DL.eLenS, DL.wSlS, DL.wI2, DL.evd_mx, DL.evd_mn, DL.evd_gcd, DL.wIStr, DL.wIEnumS, DL.eJnL, DL.eJnT, DL.wJoin, DL.eStrI, DL.eIntS, DL.strsD_map, stO]
    exact hP
  | none =>
    rw [hn] at hP
    have hgd : PyData.tuple [.tuple (g.lf.map gD), .tuple (g.rt.map gD)] = gD g := (gD_eq g).symm
    have tD : ∀ gs : List G, (gs = g.lf ∨ gs = g.rt) → ∀ (Post : Vl → En → Prop) (e0 : En), Post (.ob (.lst (gs.map fun x => PyData.str (stC (txt f x))))) e0 → True := fun _ _ _ _ _ => trivial
    clear tD
    simp -implicitDefEqProofs only [DL.WW, List.isEmpty_nil, List.map, List.length, List.length_cons, List.length_nil, List.length_set, List.replicate, List.append, List.cons_append, List.nil_append, List.append_nil, List.getElem?_cons_zero, List.getElem?_cons_succ, List.getElem?_nil, List.set_cons_zero, List.set_cons_succ, ↓reduceIte, Bool.false_eq_true, Bool.not_true, Bool.not_false, Bool.true_and, Bool.false_and, Bool.and_true, Bool.and_false, Bool.or_true, Bool.or_false, Bool.true_or, Bool.false_or, Nat.reduceAdd, Nat.reduceSub, Nat.reduceLT, Nat.reduceLeDiff, true_and, and_true, and_self, decide_eq_true_eq, Nat.zero_lt_succ, Nat.lt_add_left_iff_pos, beq_self_eq_true, String.reduceBEq, String.reduceEq, Nat.le_refl, Nat.zero_le, Bool.true_eq_false, decide_true, decide_false, Int.reduceEq, Int.reduceLT, Int.reduceLE, Int.reduceSub, Int.reduceAdd, DL.wIfT, DL.wListRg, DL.eSortT, DL.eAddS, DL.eInS, DL.eLenS, DL.wSlS, DL.wI2, DL.evd_mx, DL.evd_mn, DL.evd_gcd, DL.wIStr, DL.wIEnumS, DL.eJnL, DL.eJnT, DL.wJoin, DL.eStrI, DL.eIntS, DL.strsD_map, stO, gD_eq g]
    refine lc_use ?_
    simp -implicitDefEqProofs only [DL.WW, List.isEmpty_nil, List.map, List.length, List.length_cons, List.length_nil, List.length_set, List.replicate, List.append, List.cons_append, List.nil_append, List.append_nil, List.getElem?_cons_zero, List.getElem?_cons_succ, List.getElem?_nil, List.set_cons_zero, List.set_cons_succ, ↓reduceIte, Bool.false_eq_true, Bool.not_true, Bool.not_false, Bool.true_and, Bool.false_and, Bool.and_true, Bool.and_false, Bool.or_true, Bool.or_false, Bool.true_or, Bool.false_or, Nat.reduceAdd, Nat.reduceSub, Nat.reduceLT, Nat.reduceLeDiff, true_and, and_true, and_self, decide_eq_true_eq, Nat.zero_lt_succ, Nat.lt_add_left_iff_pos, beq_self_eq_true, String.reduceBEq, String.reduceEq, Nat.le_refl, Nat.zero_le, Bool.true_eq_false, decide_true, decide_false, Int.reduceEq, Int.reduceLT, Int.reduceLE, Int.reduceSub, Int.reduceAdd, DL.wIfT, DL.wListRg, DL.eSortT, DL.eAddS, DL.eInS, DL.eLenS, DL.wSlS, DL.wI2, DL.evd_mx, DL.evd_mn, DL.evd_gcd, DL.wIStr, DL.wIEnumS, DL.eJnL, DL.eJnT, DL.wJoin, DL.eStrI, DL.eIntS, DL.strsD_map]
    have sl := sides_len g
    have g2 := hg.2
    refine lc_acc (fun j => (g.lf.take j).map fun x => PyData.str (stC (txt f x))) rfl rfl (fun j hj => ?_) (fun j y hy => ?_) ?_
    · rw [List.length_map] at hj
      rw [List.length_map, List.length_take]
      omega
    · obtain ⟨x, hx, rfl⟩ := map_get hy
      have mx : x ∈ g.lf ∨ x ∈ g.rt := .inl (List.mem_of_getElem? hx)
      have lx := ht_lt mx
      simp -implicitDefEqProofs only [DL.WW, List.isEmpty_nil, List.map, List.length, List.length_cons, List.length_nil, List.length_set, List.replicate, List.append, List.cons_append, List.nil_append, List.append_nil, List.getElem?_cons_zero, List.getElem?_cons_succ, List.getElem?_nil, List.set_cons_zero, List.set_cons_succ, ↓reduceIte, Bool.false_eq_true, Bool.not_true, Bool.not_false, Bool.true_and, Bool.false_and, Bool.and_true, Bool.and_false, Bool.or_true, Bool.or_false, Bool.true_or, Bool.false_or, Nat.reduceAdd, Nat.reduceSub, Nat.reduceLT, Nat.reduceLeDiff, true_and, and_true, and_self, decide_eq_true_eq, Nat.zero_lt_succ, Nat.lt_add_left_iff_pos, beq_self_eq_true, String.reduceBEq, String.reduceEq, Nat.le_refl, Nat.zero_le, Bool.true_eq_false, decide_true, decide_false, Int.reduceEq, Int.reduceLT, Int.reduceLE, Int.reduceSub, Int.reduceAdd, DL.wIfT, DL.wListRg, DL.eSortT, DL.eAddS, DL.eInS, DL.eLenS, DL.wSlS, DL.wI2, DL.evd_mx, DL.evd_mn, DL.evd_gcd, DL.wIStr, DL.wIEnumS, DL.eJnL, DL.eJnT, DL.wJoin, DL.eStrI, DL.eIntS, DL.strsD_map]
      refine ⟨x, rfl, hg.of mx, by omega, ?_⟩
      simp -implicitDefEqProofs only [DL.WW, List.isEmpty_nil, List.map, List.length, List.length_cons, List.length_nil, List.length_set, List.replicate, List.append, List.cons_append, List.nil_append, List.append_nil, List.getElem?_cons_zero, List.getElem?_cons_succ, List.getElem?_nil, List.set_cons_zero, List.set_cons_succ, ↓reduceIte, Bool.false_eq_true, Bool.not_true, Bool.not_false, Bool.true_and, Bool.false_and, Bool.and_true, Bool.and_false, Bool.or_true, Bool.or_false, Bool.true_or, Bool.false_or, Nat.reduceAdd, Nat.reduceSub, Nat.reduceLT, Nat.reduceLeDiff, true_and, and_true, and_self, decide_eq_true_eq, Nat.zero_lt_succ, Nat.lt_add_left_iff_pos, beq_self_eq_true, String.reduceBEq, String.reduceEq, Nat.le_refl, Nat.zero_le, Bool.true_eq_false, decide_true, decide_false, Int.reduceEq, Int.reduceLT, Int.reduceLE, Int.reduceSub, Int.reduceAdd, DL.wIfT, DL.wListRg, DL.eSortT, DL.eAddS, DL.eInS, DL.eLenS, DL.wSlS, DL.wI2, DL.evd_mx, DL.evd_mn, DL.evd_gcd, DL.wIStr, DL.wIEnumS, DL.eJnL, DL.eJnT, DL.wJoin, DL.eStrI, DL.eIntS, DL.strsD_map]
      rw [List.take_succ, hx, List.map_append]
      rfl
    rw [List.length_map, List.take_length]
    simp -implicitDefEqProofs only [DL.WW, List.isEmpty_nil, List.map, List.length, List.length_cons, List.length_nil, List.length_set, List.replicate, List.append, List.cons_append, List.nil_append, List.append_nil, List.getElem?_cons_zero, List.getElem?_cons_succ, List.getElem?_nil, List.set_cons_zero, List.set_cons_succ, ↓reduceIte, Bool.false_eq_true, Bool.not_true, Bool.not_false, Bool.true_and, Bool.false_and, Bool.and_true, Bool.and_false, Bool.or_true, Bool.or_false, Bool.true_or, Bool.false_or, Nat.reduceAdd, Nat.reduceSub, Nat.reduceLT, Nat.reduceLeDiff, true_and, and_true, and_self, decide_eq_true_eq, Nat.zero_lt_succ, Nat.lt_add_left_iff_pos, beq_self_eq_true, String.reduceBEq, String.reduceEq, Nat.le_refl, Nat.zero_le, Bool.true_eq_false, decide_true, decide_false, Int.reduceEq, Int.reduceLT, Int.reduceLE, Int.reduceSub, Int.reduceAdd, DL.wIfT, DL.wListRg, DL.eSortT, DL.eAddS, DL.eInS, DL.eLenS, DL.wSlS, DL.wI2, DL.evd_mx, DL.evd_mn, DL.evd_gcd, DL.wIStr, DL.wIEnumS, DL.eJnL, DL.eJnT, DL.wJoin, DL.eStrI, DL.eIntS, DL.strsD_map]
    refine lc_use ?_
    simp -implicitDefEqProofs only [DL.WW, List.isEmpty_nil, List.map, List.length, List.length_cons, List.length_nil, List.length_set, List.replicate, List.append, List.cons_append, List.nil_append, List.append_nil, List.getElem?_cons_zero, List.getElem?_cons_succ, List.getElem?_nil, List.set_cons_zero, List.set_cons_succ, ↓reduceIte, Bool.false_eq_true, Bool.not_true, Bool.not_false, Bool.true_and, Bool.false_and, Bool.and_true, Bool.and_false, Bool.or_true, Bool.or_false, Bool.true_or, Bool.false_or, Nat.reduceAdd, Nat.reduceSub, Nat.reduceLT, Nat.reduceLeDiff, true_and, and_true, and_self, decide_eq_true_eq, Nat.zero_lt_succ, Nat.lt_add_left_iff_pos, beq_self_eq_true, String.reduceBEq, String.reduceEq, Nat.le_refl, Nat.zero_le, Bool.true_eq_false, decide_true, decide_false, Int.reduceEq, Int.reduceLT, Int.reduceLE, Int.reduceSub, Int.reduceAdd, DL.wIfT, DL.wListRg, DL.eSortT, DL.eAddS, DL.eInS, DL.eLenS, DL.wSlS, DL.wI2, DL.evd_mx, DL.evd_mn, DL.evd_gcd, DL.wIStr, DL.wIEnumS, DL.eJnL, DL.eJnT, DL.wJoin, DL.eStrI, DL.eIntS, DL.strsD_map]
    refine lc_acc (fun j => (g.rt.take j).map fun x => PyData.str (stC (txt f x))) rfl rfl (fun j hj => ?_) (fun j y hy => ?_) ?_
    · rw [List.length_map] at hj
      rw [List.length_map, List.length_take]
      omega
    · obtain ⟨x, hx, rfl⟩ := map_get hy
      have mx : x ∈ g.lf ∨ x ∈ g.rt := .inr (List.mem_of_getElem? hx)
      have lx := ht_lt mx
      simp -implicitDefEqProofs only [DL.WW, List.isEmpty_nil, List.map, List.length, List.length_cons, List.length_nil, List.length_set, List.replicate, List.append, List.cons_append, List.nil_append, List.append_nil, List.getElem?_cons_zero, List.getElem?_cons_succ, List.getElem?_nil, List.set_cons_zero, List.set_cons_succ, ↓reduceIte, Bool.false_eq_true, Bool.not_true, Bool.not_false, Bool.true_and, Bool.false_and, Bool.and_true, Bool.and_false, Bool.or_true, Bool.or_false, Bool.true_or, Bool.false_or, Nat.reduceAdd, Nat.reduceSub, Nat.reduceLT, Nat.reduceLeDiff, true_and, and_true, and_self, decide_eq_true_eq, Nat.zero_lt_succ, Nat.lt_add_left_iff_pos, beq_self_eq_true, String.reduceBEq, String.reduceEq, Nat.le_refl, Nat.zero_le, Bool.true_eq_false, decide_true, decide_false, Int.reduceEq, Int.reduceLT, Int.reduceLE, Int.reduceSub, Int.reduceAdd, DL.wIfT, DL.wListRg, DL.eSortT, DL.eAddS, DL.eInS, DL.eLenS, DL.wSlS, DL.wI2, DL.evd_mx, DL.evd_mn, DL.evd_gcd, DL.wIStr, DL.wIEnumS, DL.eJnL, DL.eJnT, DL.wJoin, DL.eStrI, DL.eIntS, DL.strsD_map]
      refine ⟨x, rfl, hg.of mx, by omega, ?_⟩
      simp -implicitDefEqProofs only [DL.WW, List.isEmpty_nil, List.map, List.length, List.length_cons, List.length_nil, List.length_set, List.replicate, List.append, List.cons_append, List.nil_append, List.append_nil, List.getElem?_cons_zero, List.getElem?_cons_succ, List.getElem?_nil, List.set_cons_zero, List.set_cons_succ, ↓reduceIte, Bool.false_eq_true, Bool.not_true, Bool.not_false, Bool.true_and, Bool.false_and, Bool.and_true, Bool.and_false, Bool.or_true, Bool.or_false, Bool.true_or, Bool.false_or, Nat.reduceAdd, Nat.reduceSub, Nat.reduceLT, Nat.reduceLeDiff, true_and, and_true, and_self, decide_eq_true_eq, Nat.zero_lt_succ, Nat.lt_add_left_iff_pos, beq_self_eq_true, String.reduceBEq, String.reduceEq, Nat.le_refl, Nat.zero_le, Bool.true_eq_false, decide_true, decide_false, Int.reduceEq, Int.reduceLT, Int.reduceLE, Int.reduceSub, Int.reduceAdd, DL.wIfT, DL.wListRg, DL.eSortT, DL.eAddS, DL.eInS, DL.eLenS, DL.wSlS, DL.wI2, DL.evd_mx, DL.evd_mn, DL.evd_gcd, DL.wIStr, DL.wIEnumS, DL.eJnL, DL.eJnT, DL.wJoin, DL.eStrI, DL.eIntS, DL.strsD_map]
      rw [List.take_succ, hx, List.map_append]
      rfl
    rw [List.length_map, List.take_length]
    simp -implicitDefEqProofs only [DL.WW, List.isEmpty_nil, List.map, List.length, List.length_cons, List.length_nil, List.length_set, List.replicate, List.append, List.cons_append, List.nil_append, List.append_nil, List.getElem?_cons_zero, List.getElem?_cons_succ, List.getElem?_nil, List.set_cons_zero, List.set_cons_succ, ↓reduceIte, Bool.false_eq_true, Bool.not_true, Bool.not_false, Bool.true_and, Bool.false_and, Bool.and_true, Bool.and_false, Bool.or_true, Bool.or_false, Bool.true_or, Bool.false_or, Nat.reduceAdd, Nat.reduceSub, Nat.reduceLT, Nat.reduceLeDiff, true_and, and_true, and_self, decide_eq_true_eq, Nat.zero_lt_succ, Nat.lt_add_left_iff_pos, beq_self_eq_true, String.reduceBEq, String.reduceEq, Nat.le_refl, Nat.zero_le, Bool.true_eq_false, decide_true, decide_false, Int.reduceEq, Int.reduceLT, Int.reduceLE, Int.reduceSub, Int.reduceAdd, DL.wIfT, DL.wListRg, DL.eSortT, DL.eAddS, DL.eInS, DL.eLenS, DL.wSlS, DL.wI2, DL.evd_mx, DL.evd_mn, DL.evd_gcd, DL.wIStr, DL.wIEnumS, DL.eJnL, DL.eJnT, DL.wJoin, DL.eStrI, DL.eIntS, DL.strsD_map]
    have eS : ∀ gs : List G, strsD (gs.map fun x => PyData.str (stC (txt f x))) = some ((gs.map (txt f)).map stC) := fun gs => by
      have : (gs.map fun x => PyData.str (stC (txt f x))) = ((gs.map (txt f)).map stC).map PyData.str := by simp [List.map_map]
      rw [this, strsD_map]
    have c1 : Str.ofString "," = stC [44] := by decide +kernel
    have c2 : Str.ofString "{" = stC [123] := by decide +kernel
    have c3 : Str.ofString "|" = stC [124] := by decide +kernel
    have c4 : Str.ofString "}" = stC [125] := by decide +kernel
    have eL : ∀ gs : List G, (((gs.map (txt f)).map stC).map fun x => x.length).sum = ((gs.map (txt f)).map List.length).sum := fun gs => by
      rw [List.map_map, List.map_map, List.map_map]
      have : (((fun x : Str => x.length) ∘ stC) ∘ txt f) = (List.length ∘ txt f) := by funext x; exact stC_len _
      rw [this]
    have b1 := txts_len f g.lf fun x _ => txt_len f x
    have b2 := txts_len f g.rt fun x _ => txt_len f x
    have j1 := joinC_len (g.lf.map (txt f))
    have j2 := joinC_len (g.rt.map (txt f))
    rw [List.length_map] at j1 j2
    have n1 := nd_eq g
    have sz : ∀ n : Nat, n ≤ 100000 → n ≤ sizeLine := fun n h => Nat.le_trans h (by decide)
    rw [eS, eS, c1, c2, c3, c4]
    show _ ∧ _
    rw [join_C, eL, stC_app, stC_app]
    refine ⟨?_, ?_, ?_, ?_⟩
    · rw [List.length_map, List.length_map, stC_len]
      show _ + _ * 1 ≤ _
      omega
    · rw [stC_len, stC_len]
      exact sz _ (by simp; omega)
    · rw [stC_len, stC_len]
      exact sz _ (by simp; omega)
    show _ ∧ _
    rw [join_C, eL, stC_app, stC_app]
    refine ⟨?_, ?_, ?_, ?_⟩
    · rw [List.length_map, List.length_map, stC_len]
      show _ + _ * 1 ≤ _
      omega
    · rw [stC_len, stC_len]
      exact sz _ (by simp; omega)
    · rw [stC_len, stC_len]
      exact sz _ (by simp; omega)
    · have e9 : [123] ++ joinC (g.lf.map (txt f)) ++ [124] ++ joinC (g.rt.map (txt f)) ++ [125] = 123 :: joinC (g.lf.map (txt f)) ++ 124 :: joinC (g.rt.map (txt f)) ++ [125] := by simp
      rw [e9]
      exact hP
end
theorem ok_none {F : FSp} (h : ∀ args P, ¬ F args P) {k : Nat} {a : Addr} {d : FuncData} {ps : List Str} : FnOk P w K mg base CX0 k a d ps (spD K F) :=
  ⟨fun _ _ _ _ hs => by obtain ⟨args, A, Hz, P, y, hF, hQ⟩ := hs; exact absurd hF (h _ _), fun _ _ _ _ _ _ _ _ _ _ _ _ _ hs => by obtain ⟨args, A, Hz, P, y, hF, hQ⟩ := hs; exact absurd hF (h _ _)⟩
def F_write : FSp := fun args P => ∃ g : G, args = [some (.dat (gD g))] ∧ Sm g ∧ P (.dat (.str (stC (txt 50 g)))) [none]
def F_text_of : FSp := F_txt 50
theorem ok_write {k : Nat} (T : Txt K mg) (G_need_game : FnOk P w K mg base CX0 k T.a_need_game T.d_need_game ["value"] (spD K F_need_game)) (G_text_of : FnOk P w K mg base CX0 k T.a_text_of T.d_text_of ["game"] (spD K F_text_of)) : FnOk P w K mg base CX0 (k + 1) T.a_write T.d_write ["game"] (spD K F_write) := by
  refine T.F_write.ok sc_write (fun vs H Q E h => spD_len (fun args P hF => ?_) h) (fun cdv A outer s H vs Q E hr h => ⟨_, (pss_cons (ps_expr (pe_call G_need_game hr rfl T.g_need_game T.F_need_game.kp T.b_need_game .nil pass0 (pa_cons (pv 0) pa_nil)))
  (pss_one (ps_ret (pe_call G_text_of hr rfl T.g_text_of T.F_text_of.kp T.b_text_of .nil pass0 (pa_cons (pv 0) pa_nil))))), fn_run (N := ["game"]) h (fun A' Hz' => (ss_seq (ss_drop (se_call (sa_cons se_var sa_nil)))
  (ss_ret (se_call (sa_cons se_var sa_nil))))) (fun args P hl hF => ?_)⟩)
  · obtain ⟨g, rfl, _⟩ := hF
    rfl
  obtain ⟨g, rfl, hg, hP⟩ := hF
  simp -implicitDefEqProofs only [DL.WW, List.isEmpty_nil, List.map, List.length, List.length_cons, List.length_nil, List.length_set, List.replicate, List.append, List.cons_append, List.nil_append, List.append_nil, List.getElem?_cons_zero, List.getElem?_cons_succ, List.getElem?_nil, List.set_cons_zero, List.set_cons_succ, ↓reduceIte, Bool.false_eq_true, Bool.not_true, Bool.not_false, Bool.true_and, Bool.false_and, Bool.and_true, Bool.and_false, Bool.or_true, Bool.or_false, Bool.true_or, Bool.false_or, Nat.reduceAdd, Nat.reduceSub, Nat.reduceLT, Nat.reduceLeDiff, true_and, and_true, and_self, decide_eq_true_eq, Nat.zero_lt_succ, Nat.lt_add_left_iff_pos, beq_self_eq_true, String.reduceBEq, String.reduceEq, Nat.le_refl, Nat.zero_le, Bool.true_eq_false, decide_true, decide_false, Int.reduceEq, Int.reduceLT, Int.reduceLE, Int.reduceSub, Int.reduceAdd, DL.wIfT, DL.wListRg, DL.eSortT, DL.eAddS, DL.eInS, DL.eLenS, DL.wSlS, DL.wI2, DL.evd_mx, DL.evd_mn, DL.evd_gcd, DL.wIStr, DL.wIEnumS, DL.eJnL, DL.eJnT, DL.wJoin, DL.eStrI, DL.eIntS, DL.strsD_map]
  refine ⟨g, rfl, hg, ?_⟩
  simp -implicitDefEqProofs only [DL.WW, List.isEmpty_nil, List.map, List.length, List.length_cons, List.length_nil, List.length_set, List.replicate, List.append, List.cons_append, List.nil_append, List.append_nil, List.getElem?_cons_zero, List.getElem?_cons_succ, List.getElem?_nil, List.set_cons_zero, List.set_cons_succ, ↓reduceIte, Bool.false_eq_true, Bool.not_true, Bool.not_false, Bool.true_and, Bool.false_and, Bool.and_true, Bool.and_false, Bool.or_true, Bool.or_false, Bool.true_or, Bool.false_or, Nat.reduceAdd, Nat.reduceSub, Nat.reduceLT, Nat.reduceLeDiff, true_and, and_true, and_self, decide_eq_true_eq, Nat.zero_lt_succ, Nat.lt_add_left_iff_pos, beq_self_eq_true, String.reduceBEq, String.reduceEq, Nat.le_refl, Nat.zero_le, Bool.true_eq_false, decide_true, decide_false, Int.reduceEq, Int.reduceLT, Int.reduceLE, Int.reduceSub, Int.reduceAdd, DL.wIfT, DL.wListRg, DL.eSortT, DL.eAddS, DL.eInS, DL.eLenS, DL.wSlS, DL.wI2, DL.evd_mx, DL.evd_mn, DL.evd_gcd, DL.wIStr, DL.wIEnumS, DL.eJnL, DL.eJnT, DL.wJoin, DL.eStrI, DL.eIntS, DL.strsD_map]
  refine ⟨g, rfl, hg, by have := hg.1; omega, ?_⟩
  simp -implicitDefEqProofs only [DL.WW, List.isEmpty_nil, List.map, List.length, List.length_cons, List.length_nil, List.length_set, List.replicate, List.append, List.cons_append, List.nil_append, List.append_nil, List.getElem?_cons_zero, List.getElem?_cons_succ, List.getElem?_nil, List.set_cons_zero, List.set_cons_succ, ↓reduceIte, Bool.false_eq_true, Bool.not_true, Bool.not_false, Bool.true_and, Bool.false_and, Bool.and_true, Bool.and_false, Bool.or_true, Bool.or_false, Bool.true_or, Bool.false_or, Nat.reduceAdd, Nat.reduceSub, Nat.reduceLT, Nat.reduceLeDiff, true_and, and_true, and_self, decide_eq_true_eq, Nat.zero_lt_succ, Nat.lt_add_left_iff_pos, beq_self_eq_true, String.reduceBEq, String.reduceEq, Nat.le_refl, Nat.zero_le, Bool.true_eq_false, decide_true, decide_false, Int.reduceEq, Int.reduceLT, Int.reduceLE, Int.reduceSub, Int.reduceAdd, DL.wIfT, DL.wListRg, DL.eSortT, DL.eAddS, DL.eInS, DL.eLenS, DL.wSlS, DL.wI2, DL.evd_mx, DL.evd_mn, DL.evd_gcd, DL.wIStr, DL.wIEnumS, DL.eJnL, DL.eJnT, DL.wJoin, DL.eStrI, DL.eIntS, DL.strsD_map]
  exact hP
end
end K06D


set_option linter.all false
set_option maxRecDepth 100000
set_option maxHeartbeats 4000000
/-! Facts of texts that the reader rests on. -/
namespace TXG
open SK
def Dg (c : Nat) : Prop := 48 ≤ c ∧ c ≤ 57
/-- what may stand behind a game -/
def Sp (r : List Nat) : Prop := ∀ c, r[0]? = some c → c = 44 ∨ c = 124 ∨ c = 125
theorem tx_ne {d : Nat} {t : List Nat} {g : G} (h : Tx d t g) : ∃ c r, t = c :: r ∧ c ≠ 44 ∧ c ≠ 124 ∧ c ≠ 125 := by
  cases h with
  | num d neg p a h1 h2 h3 h4 =>
    have hp : p ≤ 256 := Nat.le_trans h2 (Nat.le_trans (Nat.mul_le_mul_left 16 (Nat.pow_le_pow_right (n := 2) (by decide) h1)) (by decide))
    have D := dig hp
    cases neg with
    | true => exact ⟨45, _, rfl, by decide, by decide, by decide⟩
    | false =>
      cases hd : digs p with
      | nil => exact absurd hd D.ne
      | cons c r =>
        have := D.dg c (by rw [hd]; exact List.mem_cons_self)
        exact ⟨c, _, rfl, by omega, by omega, by omega⟩
  | star d => exact ⟨_, _, rfl, by decide, by decide, by decide⟩
  | nim d k h1 h2 => exact ⟨_, _, rfl, by decide, by decide, by decide⟩
  | up d => exact ⟨_, _, rfl, by decide, by decide, by decide⟩
  | down d => exact ⟨_, _, rfl, by decide, by decide, by decide⟩
  | upS d => exact ⟨_, _, rfl, by decide, by decide, by decide⟩
  | downS d => exact ⟨_, _, rfl, by decide, by decide, by decide⟩
  | br d ts us l r h1 h2 h3 h4 => exact ⟨_, _, rfl, by decide, by decide, by decide⟩
/-- the depth of braces, none beyond 60 -/
def scan : Nat → List Nat → Option Nat
  | n, [] => some n
  | n, c :: r => if c = 123 then (if 60 < n + 1 then none else scan (n + 1) r) else if c = 125 then (if n = 0 then none else scan (n - 1) r) else scan n r
theorem scan_flat : ∀ (t : List Nat) (n : Nat) (r : List Nat), (∀ c ∈ t, c ≠ 123 ∧ c ≠ 125) → scan n (t ++ r) = scan n r
  | [], n, r, _ => rfl
  | c :: t, n, r, h => by
    have hc := h c List.mem_cons_self
    show (if c = 123 then _ else if c = 125 then _ else scan n (t ++ r)) = _
    rw [if_neg hc.1, if_neg hc.2]
    exact scan_flat t n r fun x hx => h x (List.mem_cons_of_mem _ hx)
theorem digs_flat {n : Nat} (h : n ≤ 256) : ∀ c ∈ digs n, c ≠ 123 ∧ c ≠ 125 := fun c hc => by
  have := (dig h).dg c hc
  omega
theorem scan_tx : ∀ (d : Nat) (t : List Nat) (g : G), Tx d t g → ∀ (n : Nat) (r : List Nat), n + d ≤ 60 → scan n (t ++ r) = scan n r := fun d => by
  induction d with
  | zero =>
    intro t g h n r _
    refine scan_flat t n r ?_
    cases h with
    | num _ neg p a h1 h2 h3 h4 =>
      have hp : p ≤ 256 := Nat.le_trans h2 (Nat.le_trans (Nat.mul_le_mul_left 16 (Nat.pow_le_pow_right (n := 2) (by decide) h1)) (by decide))
      have ha : 2 ^ a ≤ 256 := Nat.le_trans (Nat.pow_le_pow_right (n := 2) (by decide) h1) (by decide)
      intro c hc
      rw [List.mem_append, List.mem_append] at hc
      rcases hc with (hc | hc) | hc
      · cases neg <;> simp at hc; omega
      · exact digs_flat hp c hc
      · split at hc
        · cases hc
        · rcases List.mem_cons.mp hc with rfl | hc
          · decide
          · exact digs_flat ha c hc
    | star => decide
    | nim _ k h1 h2 => intro c hc; simp at hc; omega
    | up => decide
    | down => decide
    | upS => decide
    | downS => decide
  | succ d ih =>
    intro t g h n r hn
    cases h with
    | br _ ts us l r' h1 h2 h3 h4 =>
      have side : ∀ (ts : List (List Nat)) (gs : List G), ts.length = gs.length → (∀ (i : Nat) (t : List Nat) (g : G), ts[i]? = some t → gs[i]? = some g → Tx d t g) → ∀ r, scan (n + 1) (joinC ts ++ r) = scan (n + 1) r := fun ts => by
        induction ts with
        | nil => intro gs _ _ r; rfl
        | cons t ts iht =>
          intro gs hl ht r
          cases gs with
          | nil => simp at hl
          | cons x gs =>
            have h0 := ht 0 t x rfl rfl
            cases ts with
            | nil => exact ih t x h0 (n + 1) r (by omega)
            | cons u ts =>
              show scan (n + 1) ((t ++ 44 :: joinC (u :: ts)) ++ r) = _
              rw [List.append_assoc, ih t x h0 (n + 1) _ (by omega)]
              show scan (n + 1) ([44] ++ (joinC (u :: ts) ++ r)) = _
              rw [scan_flat [44] _ _ (by decide)]
              exact iht gs (by simpa using hl) (fun i t g a b => ht (i + 1) t g (by simpa using a) (by simpa using b)) r
      have e : (123 :: joinC ts ++ 124 :: joinC us ++ [125]) ++ r = 123 :: (joinC ts ++ ([124] ++ (joinC us ++ (125 :: r)))) := by simp
      rw [e]
      show (if 123 = 123 then (if 60 < n + 1 then none else scan (n + 1) _) else _) = _
      rw [if_pos rfl, if_neg (by omega), side ts l h1 h3, scan_flat [124] _ _ (by decide), side us r' h2 h4]
      show (if 125 = 123 then _ else if 125 = 125 then (if n + 1 = 0 then none else scan (n + 1 - 1) r) else _) = _
      rw [if_neg (by decide), if_pos rfl, if_neg (by omega), Nat.add_sub_cancel]
    | num _ neg p a h1 h2 h3 h4 => exact ih _ _ (.num d neg p a h1 h2 h3 h4) n r (by omega)
    | star => exact ih _ _ (.star d) n r (by omega)
    | nim _ k h1 h2 => exact ih _ _ (.nim d k h1 h2) n r (by omega)
    | up => exact ih _ _ (.up d) n r (by omega)
    | down => exact ih _ _ (.down d) n r (by omega)
    | upS => exact ih _ _ (.upS d) n r (by omega)
    | downS => exact ih _ _ (.downS d) n r (by omega)
end TXG


set_option Elab.async false
set_option linter.all false
set_option maxRecDepth 100000
set_option maxHeartbeats 4000000
namespace K06D
open PySem L2 TG DL K06 SK TXG
section
variable {P : Program} {w : World} {K : PySem.W.Frag} {mg : Str → Option Value} {base : Heap}
theorem at_drop {x ds r : List Nat} {a : Nat} (h : x.drop a = ds ++ r) {j : Nat} (hj : j < ds.length) : x[a + j]? = some ds[j] := by
  rw [← List.getElem?_drop, h, List.getElem?_append_left hj, List.getElem?_eq_getElem hj]
theorem at_rest {x ds r : List Nat} {a : Nat} (h : x.drop a = ds ++ r) : x[a + ds.length]? = r[0]? := by
  rw [← List.getElem?_drop, h, List.getElem?_append_right (Nat.le_refl _), Nat.sub_self]
theorem at_atI {x : List Nat} {a : Nat} {c : Nat} (h : x[a]? = some c) : atI (stC x).cps.toList (a : Int) = some c := atI_nat h
theorem len_drop {x ds r : List Nat} {a : Nat} (h : x.drop a = ds ++ r) (ha : a ≤ x.length) : x.length = a + ds.length + r.length := by
  have := congrArg List.length h
  rw [List.length_drop, List.length_append] at this
  omega
theorem dg_in {c : Nat} (h : Dg c) : decide (c ∈ ("0123456789" : Str).cps.toList) = true := by
  have : ∀ c ∈ List.range 58, 48 ≤ c → decide (c ∈ ("0123456789" : Str).cps.toList) = true := by decide +kernel
  exact this c (List.mem_range.mpr (by have := h.2; omega)) h.1
theorem dg_out {c : Nat} (h : ¬ Dg c) : decide (c ∈ ("0123456789" : Str).cps.toList) = false := by
  rw [decide_eq_false_iff_not]
  intro hc
  have : ∀ c ∈ ("0123456789" : Str).cps.toList, 48 ≤ c ∧ c ≤ 57 := by decide +kernel
  exact h (this c hc)
def Ndg (r : List Nat) : Prop := ∀ c, r[0]? = some c → ¬ Dg c
def F_digits_from : FSp := fun args P => ∃ (x ds r : List Nat) (a : Nat), args = [some (.dat (.str (stC x))), some (.dat (.int a))] ∧ x.length ≤ 50000 ∧ a ≤ x.length ∧ x.drop a = ds ++ r ∧ (∀ c ∈ ds, Dg c) ∧ Ndg r ∧
  P (.dat (.int ((a + ds.length : Nat) : Int))) [none, none]
theorem ok_digits_from {k : Nat} (T : Txt K mg)  : FnOk P w K mg base CX0 (k + 1) T.a_digits_from T.d_digits_from ["text", "at"] (spD K F_digits_from) := by
  refine T.F_digits_from.ok sc_digits_from (fun vs H Q E h => spD_len (fun args P hF => ?_) h) (fun cdv A outer s H vs Q E hr h => ⟨_, (pss_cons (ps_while PassesOwn.never (PW.pt (pw_and (pt_cmpR op_lt (pv 1) (pe_callB call_len_str rfl T.m_len PySem.boot_len (pa_cons (pv 0) pa_nil)) (nomark _)) (pw_and1 (pt_cmpR op_in_sign (pe_ix ix_str (pv 0) (pv 1) (fun _ _ => rfl)) (pe_glob (v := .str "0123456789") rfl T.c_DIGITS ⟨_, rfl⟩) rfl))))
  (pss_one (ps_aug (i := 1) sc_digits_from.nd rfl (Or.inl rfl) pe_int ip_add)))
  (pss_one (ps_ret (pv 1)))), fn_run (N := ["text", "at"]) h (fun A' Hz' => (ss_seq (ss_while (st_and (st_test (se_op (sr_I0 (fun _ _ => rfl)) se_var (se_cb1 sc_lenS se_var))) (st_test (se_op sr_inS (se_op sr_ixS se_var se_var) se_str)))
  (ss_augI se_int))
  (ss_ret se_var))) (fun args P hl hF => ?_)⟩)
  · obtain ⟨x, ds, r, a, rfl, _⟩ := hF
    rfl
  obtain ⟨x, ds, r, a, rfl, hx, ha, hd, hdg, hn, hP⟩ := hF
  have hl := len_drop hd ha
  simp -implicitDefEqProofs only [DL.WW, List.isEmpty_nil, List.map, List.length, List.length_cons, List.length_nil, List.length_set, List.replicate, List.append, List.cons_append, List.nil_append, List.append_nil, List.getElem?_cons_zero, List.getElem?_cons_succ, List.getElem?_nil, List.set_cons_zero, List.set_cons_succ, ↓reduceIte, Bool.false_eq_true, Bool.not_true, Bool.not_false, Bool.true_and, Bool.false_and, Bool.and_true, Bool.and_false, Bool.or_true, Bool.or_false, Bool.true_or, Bool.false_or, Nat.reduceAdd, Nat.reduceSub, Nat.reduceLT, Nat.reduceLeDiff, true_and, and_true, and_self, decide_eq_true_eq, Nat.zero_lt_succ, Nat.lt_add_left_iff_pos, beq_self_eq_true, String.reduceBEq, String.reduceEq, Nat.le_refl, Nat.zero_le, Bool.true_eq_false, decide_true, decide_false, Int.reduceEq, Int.reduceLT, Int.reduceLE, Int.reduceSub, Int.reduceAdd, DL.wIfT, DL.wListRg, DL.eSortT, DL.eAddS, DL.eInS, DL.eLenS, DL.wSlS, DL.wI2, DL.evd_mx, DL.evd_mn, DL.evd_gcd, DL.wIStr, DL.wIEnumS, DL.eJnL, DL.eJnT, DL.wJoin, DL.eStrI, DL.eIntS, DL.strsD_map]
  refine ⟨fun m e => ∃ j, j ≤ ds.length ∧ m = ds.length - j ∧ e = [some (.dat (.str (stC x))), some (.dat (.int ((a + j : Nat) : Int)))], ⟨_, 0, Nat.zero_le _, rfl, rfl⟩, ?_⟩
  rintro m e ⟨j, hj, rfl, rfl⟩
  simp -implicitDefEqProofs only [DL.WW, List.isEmpty_nil, List.map, List.length, List.length_cons, List.length_nil, List.length_set, List.replicate, List.append, List.cons_append, List.nil_append, List.append_nil, List.getElem?_cons_zero, List.getElem?_cons_succ, List.getElem?_nil, List.set_cons_zero, List.set_cons_succ, ↓reduceIte, Bool.false_eq_true, Bool.not_true, Bool.not_false, Bool.true_and, Bool.false_and, Bool.and_true, Bool.and_false, Bool.or_true, Bool.or_false, Bool.true_or, Bool.false_or, Nat.reduceAdd, Nat.reduceSub, Nat.reduceLT, Nat.reduceLeDiff, true_and, and_true, and_self, decide_eq_true_eq, Nat.zero_lt_succ, Nat.lt_add_left_iff_pos, beq_self_eq_true, String.reduceBEq, String.reduceEq, Nat.le_refl, Nat.zero_le, Bool.true_eq_false, decide_true, decide_false, Int.reduceEq, Int.reduceLT, Int.reduceLE, Int.reduceSub, Int.reduceAdd, DL.wIfT, DL.wListRg, DL.eSortT, DL.eAddS, DL.eInS, DL.eLenS, DL.wSlS, DL.wI2, DL.evd_mx, DL.evd_mn, DL.evd_gcd, DL.wIStr, DL.wIEnumS, DL.eJnL, DL.eJnT, DL.wJoin, DL.eStrI, DL.eIntS, DL.strsD_map, stC_len]
  refine ⟨stC_line (by omega), ?_⟩
  by_cases hj2 : j < ds.length
  · have hat := at_atI (at_drop hd hj2)
    have e1 : ((a + j : Nat) : Int) + 1 = ((a + (j + 1) : Nat) : Int) := by omega
    rw [if_pos (by omega), hat, e1]
    refine ⟨Nat.le_trans hx (by decide), ?_⟩
    show ∃ c1, _
    refine ⟨ds[j], rfl, ?_⟩
    rw [if_pos (of_decide_eq_true (dg_in (hdg _ (List.getElem_mem hj2))))]
    exact ⟨ds.length - (j + 1), by omega, j + 1, by omega, rfl, rfl⟩
  · have hje : j = ds.length := by omega
    subst hje
    split
    · rename_i hlt
      obtain ⟨c, hc⟩ : ∃ c, r[0]? = some c := by
        cases r with
        | nil => simp at hl; omega
        | cons c r => exact ⟨c, rfl⟩
      have hat := at_atI ((at_rest hd).trans hc)
      rw [hat]
      refine ⟨Nat.le_trans hx (by decide), ?_⟩
      show ∃ c1, _
      refine ⟨c, rfl, ?_⟩
      rw [if_neg (of_decide_eq_false (dg_out (hn c hc)))]
      exact hP
    · exact hP
theorem cutMid {x : List Nat} {a k m : Nat} (h : a + k + m = x.length) : cutS (stC x) (some (a : Int)) (some ((a + k : Nat) : Int)) = stC ((x.drop a).take k) := by
  rw [stC_cut, HT.sIx_nat, HT.sIx_nat, Nat.min_eq_left (by omega), Nat.min_eq_left (by omega), Nat.add_sub_cancel_left]
def F_read_whole : FSp := fun args P => ∃ (x r : List Nat) (n a : Nat) (s : Int), args = [some (.dat (.str (stC x))), some (.dat (.int a)), some (.dat (.int s))] ∧ x.length ≤ 50000 ∧ a ≤ x.length ∧ x.drop a = digs n ++ r ∧ n ≤ 256 ∧ Ndg r ∧
  P (.dat (.tuple [.int n, .int ((a + (digs n).length : Nat) : Int)])) [none, none, none]
theorem ok_read_whole {k : Nat} (T : Txt K mg) (G_digits_from : FnOk P w K mg base CX0 k T.a_digits_from T.d_digits_from ["text", "at"] (spD K F_digits_from)) : FnOk P w K mg base CX0 (k + 1) T.a_read_whole T.d_read_whole ["text", "at", "start"] (spD K F_read_whole) := by
  refine T.F_read_whole.ok sc_read_whole (fun vs H Q E h => spD_len (fun args P hF => ?_) h) (fun cdv A outer s H vs Q E hr h => ⟨_, (pss_cons (ps_set (i := 3) sc_read_whole.nd rfl (Or.inl rfl) (pe_call G_digits_from hr rfl T.g_digits_from T.F_digits_from.kp T.b_digits_from .nil pass0 (pa_cons (pv 0) (pa_cons (pv 1) pa_nil))))
  (pss_cons (ps_if (pt_cmpR (op_eqDK (K := K) rfl hr.units) (pv 3) (pv 1) (nomark _))
  (pss_one ps_never)
  pss_nil)
  (pss_cons (ps_if (PW.pt (pw_or (pt_cmpR op_gt (pe_op op_sub (pv 3) (pv 1)) pe_int (nomark _)) (pw_or1 (PW.pt (pw_and (pt_cmpR (op_eqDK (K := K) rfl hr.units) (pe_ix ix_str (pv 0) (pv 1) (fun _ _ => rfl)) pe_str (nomark _)) (pw_and1 (pt_cmpR op_gt (pv 3) (pe_op op_add (pv 1) pe_int) (nomark _))))))))
  (pss_one ps_never)
  pss_nil)
  (pss_one (ps_ret (pe_tup (pa_cons (pe_callTy call_int_str rfl T.m_int (by decide +kernel) (pa_cons (pe_slice sl_str (pv 0) (po_some (pv 1)) (po_some (pv 3))) pa_nil)) (pa_cons (pv 3) pa_nil)))))))), fn_run (N := ["text", "at", "start", "end"]) h (fun A' Hz' => (ss_seq (ss_asg (se_call (sa_cons se_var (sa_cons se_var sa_nil))) sg_name)
  (ss_seq (ss_if (st_test (se_op sr_eqD se_var se_var))
  ss_never
  ss_next)
  (ss_seq (ss_if (st_or (st_test (se_op (sr_I0 (fun _ _ => rfl)) (se_op (sr_I0 (fun _ _ => rfl)) se_var se_var) se_int)) (st_and (st_test (se_op sr_eqD (se_op sr_ixS se_var se_var) se_str)) (st_test (se_op (sr_I0 (fun _ _ => rfl)) se_var (se_op (sr_I0 (fun _ _ => rfl)) se_var se_int)))))
  ss_never
  ss_next)
  (ss_ret (se_tup (sa_cons (se_cb1 sc_intS (se_slS se_var (so_some se_var) (so_some se_var))) (sa_cons se_var sa_nil)))))))) (fun args P hl hF => ?_)⟩)
  · obtain ⟨x, r, n, a, s, rfl, _⟩ := hF
    rfl
  obtain ⟨x, r, n, a, s, rfl, hx, ha, hd, hn256, hn, hP⟩ := hF
  have hl := len_drop hd ha
  have D := dig hn256
  simp -implicitDefEqProofs only [DL.WW, List.isEmpty_nil, List.map, List.length, List.length_cons, List.length_nil, List.length_set, List.replicate, List.append, List.cons_append, List.nil_append, List.append_nil, List.getElem?_cons_zero, List.getElem?_cons_succ, List.getElem?_nil, List.set_cons_zero, List.set_cons_succ, ↓reduceIte, Bool.false_eq_true, Bool.not_true, Bool.not_false, Bool.true_and, Bool.false_and, Bool.and_true, Bool.and_false, Bool.or_true, Bool.or_false, Bool.true_or, Bool.false_or, Nat.reduceAdd, Nat.reduceSub, Nat.reduceLT, Nat.reduceLeDiff, true_and, and_true, and_self, decide_eq_true_eq, Nat.zero_lt_succ, Nat.lt_add_left_iff_pos, beq_self_eq_true, String.reduceBEq, String.reduceEq, Nat.le_refl, Nat.zero_le, Bool.true_eq_false, decide_true, decide_false, Int.reduceEq, Int.reduceLT, Int.reduceLE, Int.reduceSub, Int.reduceAdd, DL.wIfT, DL.wListRg, DL.eSortT, DL.eAddS, DL.eInS, DL.eLenS, DL.wSlS, DL.wI2, DL.evd_mx, DL.evd_mn, DL.evd_gcd, DL.wIStr, DL.wIEnumS, DL.eJnL, DL.eJnT, DL.wJoin, DL.eStrI, DL.eIntS, DL.strsD_map]
  refine ⟨x, digs n, r, a, rfl, hx, ha, hd, D.dg, hn, ?_⟩
  simp -implicitDefEqProofs only [DL.WW, List.isEmpty_nil, List.map, List.length, List.length_cons, List.length_nil, List.length_set, List.replicate, List.append, List.cons_append, List.nil_append, List.append_nil, List.getElem?_cons_zero, List.getElem?_cons_succ, List.getElem?_nil, List.set_cons_zero, List.set_cons_succ, ↓reduceIte, Bool.false_eq_true, Bool.not_true, Bool.not_false, Bool.true_and, Bool.false_and, Bool.and_true, Bool.and_false, Bool.or_true, Bool.or_false, Bool.true_or, Bool.false_or, Nat.reduceAdd, Nat.reduceSub, Nat.reduceLT, Nat.reduceLeDiff, true_and, and_true, and_self, decide_eq_true_eq, Nat.zero_lt_succ, Nat.lt_add_left_iff_pos, beq_self_eq_true, String.reduceBEq, String.reduceEq, Nat.le_refl, Nat.zero_le, Bool.true_eq_false, decide_true, decide_false, Int.reduceEq, Int.reduceLT, Int.reduceLE, Int.reduceSub, Int.reduceAdd, DL.wIfT, DL.wListRg, DL.eSortT, DL.eAddS, DL.eInS, DL.eLenS, DL.wSlS, DL.wI2, DL.evd_mx, DL.evd_mn, DL.evd_gcd, DL.wIStr, DL.wIEnumS, DL.eJnL, DL.eJnT, DL.wJoin, DL.eStrI, DL.eIntS, DL.strsD_map]
  have hlen := D.len
  have hne : 0 < (digs n).length := List.length_pos_iff.mpr D.ne
  rw [if_neg (by omega), if_neg (by omega)]
  have hcut : cutS (stC x) (some (a : Int)) (some ((a + (digs n).length : Nat) : Int)) = stC (digs n) := by rw [cutMid hl.symm, hd, List.take_left]
  rw [hcut]
  have hat := at_atI (by simpa using at_drop hd hne)
  have fin : (stC x).length ≤ sizeLine ∧ (stC (digs n)).length ≤ 640 ∧ ob1 (intText? (stC (digs n))) fun n_1 => P (Vl.dat (PyData.tuple [PyData.int n_1, PyData.int ((a + (digs n).length : Nat) : Int)])) [none, none, none] := by
    rw [D.val, stC_len, stC_len]
    exact ⟨stC_line (by omega), by omega, hP⟩
  rw [hat]
  have e0 : Str.ofString "0" = stC [48] := by decide +kernel
  rw [e0]
  refine ⟨stC_line (by omega), ?_⟩
  show _ ∧ _
  have hd0 := D.dg _ (List.getElem_mem hne)
  refine ⟨stC_ok (l := [(digs n)[0]]) (fun c hc => by rw [List.mem_singleton] at hc; omega), stC_ok (by unfold CodeOk; decide), ?_⟩
  split
  · rename_i he
    have he2 : (digs n)[0] = 48 := by
      have := stC_inj (a := [(digs n)[0]]) he
      exact (List.cons.inj this).1
    have h1 : (digs n).length = 1 := by
      rcases D.hd with h | h
      · exfalso
        apply h
        rw [List.headD_eq_head?_getD, List.head?_eq_getElem?, List.getElem?_eq_getElem hne]
        exact he2
      · exact h
    rw [if_neg (by omega)]
    exact fin
  · exact fin
end
end K06D


set_option Elab.async false
set_option linter.all false
set_option maxRecDepth 100000
set_option maxHeartbeats 4000000
namespace K06D
open PySem L2 TG DL K06 SK TXG
section
variable {P : Program} {w : World} {K : PySem.W.Frag} {mg : Str → Option Value} {base : Heap}
def Nsl (r : List Nat) : Prop := ∀ c, r[0]? = some c → c ≠ 47
def numT (neg : Bool) (p a : Nat) : List Nat := (if neg then [45] else []) ++ digs p ++ (if a = 0 then [] else 47 :: digs (2 ^ a))
theorem ite_neg {c d : Prop} [Decidable c] [Decidable d] {A : Prop} (h : c → ¬ d) (hA : A) : if c then (if d then False else A) else A := by
  split
  · rename_i hc
    rw [if_neg (h hc)]
    exact hA
  · exact hA
def F_read_number : FSp := fun args P => ∃ (x r : List Nat) (neg : Bool) (p a i : Nat), args = [some (.dat (.str (stC x))), some (.dat (.int i))] ∧ x.length ≤ 50000 ∧ CdOk x ∧ i ≤ x.length ∧ x.drop i = numT neg p a ++ r ∧
  a ≤ 4 ∧ p ≤ 16 * 2 ^ a ∧ (neg = true → p ≠ 0) ∧ (a = 0 ∨ p % 2 = 1) ∧ Ndg r ∧ Nsl r ∧
  P (.dat (.tuple [gD (numG (if neg then -(p : Int) else p) a), .int ((i + (numT neg p a).length : Nat) : Int)])) [none, none]
theorem ok_read_number {k : Nat} (T : Txt K mg) (G_read_whole : FnOk P w K mg base CX0 k T.a_read_whole T.d_read_whole ["text", "at", "start"] (spD K F_read_whole)) (G_number_form : FnOk P w K mg base CX0 k T.a_number_form T.d_number_form ["top", "bottom"] (spD K F_number_form)) : FnOk P w K mg base CX0 (k + 1) T.a_read_number T.d_read_number ["text", "start"] (spD K F_read_number) := by
  refine T.F_read_number.ok sc_read_number (fun vs H Q E h => spD_len (fun args P hF => ?_) h) (fun cdv A outer s H vs Q E hr h => ⟨_, (pss_cons (ps_set (i := 2) sc_read_number.nd rfl (Or.inl rfl) (pe_cmpR (op_eqDK (K := K) rfl hr.units) (pe_ix ix_str (pv 0) (pv 1) (fun _ _ => rfl)) pe_str (nomark _)))
  (pss_cons (ps_asg (pe_call G_read_whole hr rfl T.g_read_whole T.F_read_whole.kp T.b_read_whole .nil pass0 (pa_cons (pv 0) (pa_cons (pe_ifExp (pt_val (pv 2)) (pe_op op_add (pv 1) pe_int) (pv 1)) (pa_cons (pv 1) pa_nil)))) (pg_tupK (K := K) (n := 2) rfl rfl (pgs_cons (pg_name (i := 3) sc_read_number.nd rfl (Or.inl rfl)) (pgs_cons (pg_name (i := 4) sc_read_number.nd rfl (Or.inl rfl)) pgs_nil))))
  (pss_cons (ps_if (PW.pt (pw_and (pt_val (pv 2)) (pw_and1 (pt_cmpR (op_eqDK (K := K) rfl hr.units) (pv 3) pe_int (nomark _)))))
  (pss_one ps_never)
  pss_nil)
  (pss_cons (ps_set (i := 5) sc_read_number.nd rfl (Or.inl rfl) pe_int)
  (pss_cons (ps_if (PW.pt (pw_and (pt_cmpR op_lt (pv 4) (pe_callB call_len_str rfl T.m_len PySem.boot_len (pa_cons (pv 0) pa_nil)) (nomark _)) (pw_and1 (pt_cmpR (op_eqDK (K := K) rfl hr.units) (pe_ix ix_str (pv 0) (pv 4) (fun _ _ => rfl)) pe_str (nomark _)))))
  (pss_cons (ps_asg (pe_call G_read_whole hr rfl T.g_read_whole T.F_read_whole.kp T.b_read_whole .nil pass0 (pa_cons (pv 0) (pa_cons (pe_op op_add (pv 4) pe_int) (pa_cons (pv 1) pa_nil)))) (pg_tupK (K := K) (n := 2) rfl rfl (pgs_cons (pg_name (i := 5) sc_read_number.nd rfl (Or.inl rfl)) (pgs_cons (pg_name (i := 4) sc_read_number.nd rfl (Or.inl rfl)) pgs_nil))))
  (pss_one (ps_if (PW.pt (pw_or (pt_cmpR (op_notIn_seqK (K := K) rfl) (pv 5) (pe_tup (pa_cons pe_int (pa_cons pe_int (pa_cons pe_int (pa_cons pe_int pa_nil))))) (by rfl)) (pw_or1 (pt_cmpR (op_eqDK (K := K) rfl hr.units) (pe_op op_mod (pv 3) pe_int) pe_int (nomark _)))))
  (pss_one ps_never)
  pss_nil)))
  pss_nil)
  (pss_cons (ps_if (pt_cmpR op_gt (pv 3) (pe_op op_mul (pe_glob (v := .int 16) rfl T.c_MOST_INTEGER ⟨_, rfl⟩) (pv 5)) (nomark _))
  (pss_one ps_never)
  pss_nil)
  (pss_one (ps_ret (pe_tup (pa_cons (pe_call G_number_form hr rfl T.g_number_form T.F_number_form.kp T.b_number_form .nil pass0 (pa_cons (pe_ifExp (pt_val (pv 2)) (pe_un un_neg (pv 3)) (pv 3)) (pa_cons (pv 5) pa_nil))) (pa_cons (pv 4) pa_nil))))))))))), fn_run (N := ["text", "start", "minus", "top", "at", "bottom"]) h (fun A' Hz' => (ss_seq (ss_asg (se_op sr_eqD (se_op sr_ixS se_var se_var) se_str) sg_name)
  (ss_cut (ss_asg (se_call (sa_cons se_var (sa_cons (se_if (st_B se_var) (se_op (sr_I0 (fun _ _ => rfl)) se_var se_int) se_var) (sa_cons se_var sa_nil)))) (sg_tup (sgs_cons sg_name (sgs_cons sg_name sgs_nil))))
  (ss_seq (ss_if (st_and (st_B se_var) (st_test (se_op sr_eqD se_var se_int)))
  ss_never
  ss_next)
  (ss_seq (ss_asg se_int sg_name)
  (ss_cut (ss_if (st_and (st_test (se_op (sr_I0 (fun _ _ => rfl)) se_var (se_cb1 sc_lenS se_var))) (st_test (se_op sr_eqD (se_op sr_ixS se_var se_var) se_str)))
  (ss_seq (ss_asg (se_call (sa_cons se_var (sa_cons (se_op (sr_I0 (fun _ _ => rfl)) se_var se_int) (sa_cons se_var sa_nil)))) (sg_tup (sgs_cons sg_name (sgs_cons sg_name sgs_nil))))
  (ss_if (st_or (st_test (se_op sr_in se_var (se_tup (sa_cons se_int (sa_cons se_int (sa_cons se_int (sa_cons se_int sa_nil))))))) (st_test (se_op sr_eqD (se_op (sr_I (fun _ _ => rfl)) se_var se_int) se_int)))
  ss_never
  ss_next))
  ss_next)
  (ss_seq (ss_if (st_test (se_op (sr_I0 (fun _ _ => rfl)) se_var (se_op (sr_I (fun _ _ => rfl)) se_int se_var)))
  ss_never
  ss_next)
  (ss_ret (se_tup (sa_cons (se_call (sa_cons (se_if (st_B se_var) (se_un (fun _ => rfl) se_var) se_var) (sa_cons se_var sa_nil))) (sa_cons se_var sa_nil))))))))))) (fun args P hl hF => ?_)⟩)
  · obtain ⟨x, r, neg, p, a, i, rfl, _⟩ := hF
    rfl
  obtain ⟨x, r, neg, p, a, i, rfl, hx, hcd, hi, hd, h1, h2, h3, h4, hn, hs, hP⟩ := hF
  have hp : p ≤ 256 := Nat.le_trans h2 (Nat.le_trans (Nat.mul_le_mul_left 16 (Nat.pow_le_pow_right (n := 2) (by decide) h1)) (by decide))
  have ha : 2 ^ a ≤ 16 := Nat.le_trans (Nat.pow_le_pow_right (n := 2) (by decide) h1) (by decide)
  have D := dig hp
  have hl := len_drop hd hi
  have hsize : sizeLine ≥ 50000 := by decide
  have hneD : 0 < (digs p).length := List.length_pos_iff.mpr D.ne
  -- the first sign
  obtain ⟨c, hc, hcn⟩ : ∃ c, x[i]? = some c ∧ (c = 45 ↔ neg = true) ∧ c < 128 := by
    cases neg with
    | true =>
      refine ⟨45, ?_, by simp, by decide⟩
      have hd' : x.drop i = [45] ++ (digs p ++ (if a = 0 then [] else 47 :: digs (2 ^ a)) ++ r) := by rw [hd]; simp [numT]
      simpa using at_drop hd' (j := 0) (by simp)
    | false =>
      have hd' : x.drop i = digs p ++ ((if a = 0 then [] else 47 :: digs (2 ^ a)) ++ r) := by rw [hd]; simp [numT]
      have := D.dg _ (List.getElem_mem hneD)
      exact ⟨(digs p)[0], by simpa using at_drop hd' hneD, ⟨fun h => by omega, fun h => by cases h⟩, by omega⟩
  have hat := at_atI hc
  have em : Str.ofString "-" = stC [45] := by decide +kernel
  have esl : Str.ofString "/" = stC [47] := by decide +kernel
  have hok : PyData.strOk (stC [c]) = true := stC_ok (fun y hy => by rw [List.mem_singleton] at hy; omega)
  have hok2 : PyData.strOk (stC [45]) = true := stC_ok (fun y hy => by rw [List.mem_singleton] at hy; omega)
  have hok3 : PyData.strOk (stC [47]) = true := stC_ok (fun y hy => by rw [List.mem_singleton] at hy; omega)
  have ecn : decide (stC [c] = stC [45]) = neg := by
    have : (stC [c] = stC [45]) ↔ neg = true := ⟨fun h => hcn.1.mp (List.cons.inj (stC_inj h)).1, fun h => by rw [hcn.1.mpr h]⟩
    cases neg with
    | true => rw [decide_eq_true_eq]; exact this.mpr rfl
    | false => rw [decide_eq_false_iff_not]; exact fun h => by have := this.mp h; cases this
  obtain ⟨i1, hi1⟩ : ∃ i1, i1 = i + (if neg then 1 else 0) := ⟨_, rfl⟩
  have hd1 : x.drop i1 = digs p ++ ((if a = 0 then [] else 47 :: digs (2 ^ a)) ++ r) := by
    cases neg with
    | true =>
      have e : i1 = i + 1 := hi1
      rw [e, ← List.drop_drop, hd]
      simp [numT]
    | false =>
      have e : i1 = i := hi1
      rw [e, hd]
      simp [numT]
  have hi1l : i1 ≤ x.length := by
    have := congrArg List.length hd1
    rw [List.length_drop, List.length_append] at this
    omega
  have hl1 := len_drop hd1 hi1l
  have hndg : Ndg ((if a = 0 then [] else 47 :: digs (2 ^ a)) ++ r) := by
    by_cases ha0 : a = 0
    · rw [if_pos ha0]; exact hn
    · rw [if_neg ha0]
      intro y hy
      cases hy
      unfold Dg
      omega
  simp -implicitDefEqProofs only [DL.WW, List.isEmpty_nil, List.map, List.length, List.length_cons, List.length_nil, List.length_set, List.replicate, List.append, List.cons_append, List.nil_append, List.append_nil, List.getElem?_cons_zero, List.getElem?_cons_succ, List.getElem?_nil, List.set_cons_zero, List.set_cons_succ, ↓reduceIte, Bool.false_eq_true, Bool.not_true, Bool.not_false, Bool.true_and, Bool.false_and, Bool.and_true, Bool.and_false, Bool.or_true, Bool.or_false, Bool.true_or, Bool.false_or, Nat.reduceAdd, Nat.reduceSub, Nat.reduceLT, Nat.reduceLeDiff, true_and, and_true, and_self, decide_eq_true_eq, Nat.zero_lt_succ, Nat.lt_add_left_iff_pos, beq_self_eq_true, String.reduceBEq, String.reduceEq, Nat.le_refl, Nat.zero_le, Bool.true_eq_false, decide_true, decide_false, Int.reduceEq, Int.reduceLT, Int.reduceLE, Int.reduceSub, Int.reduceAdd, DL.wIfT, DL.wListRg, DL.eSortT, DL.eAddS, DL.eInS, DL.eLenS, DL.wSlS, DL.wI2, DL.evd_mx, DL.evd_mn, DL.evd_gcd, DL.wIStr, DL.wIEnumS, DL.eJnL, DL.eJnT, DL.wJoin, DL.eStrI, DL.eIntS, DL.strsD_map]
  refine ⟨by rw [stC_len]; omega, ?_⟩
  rw [hat, em]
  show _ ∧ _
  refine ⟨hok, hok2, ?_⟩
  have ecs : ({ cps := #[c] } : Str) = stC [c] := rfl
  rw [ecs, ecn]
  refine cut_use (fun e => e = [some (.dat (.str (stC x))), some (.dat (.int i)), some (.dat (.bool neg)), some (.dat (.int p)), some (.dat (.int ((i1 + (digs p).length : Nat) : Int))), none]) ?_ ?_
  · have call : ∀ (z : Int) (Post : Vl → En → Prop), z = (i1 : Int) → Post (.dat (.tuple [.int p, .int ((i1 + (digs p).length : Nat) : Int)])) [none, none, none] → F_read_whole [some (.dat (.str (stC x))), some (.dat (.int z)), some (.dat (.int i))] Post := fun z Post hz hpost => by
      subst hz
      exact ⟨x, _, p, i1, i, rfl, hx, hi1l, hd1, hp, hndg, hpost⟩
    cases neg with
    | true =>
      simp -implicitDefEqProofs only [DL.WW, List.isEmpty_nil, List.map, List.length, List.length_cons, List.length_nil, List.length_set, List.replicate, List.append, List.cons_append, List.nil_append, List.append_nil, List.getElem?_cons_zero, List.getElem?_cons_succ, List.getElem?_nil, List.set_cons_zero, List.set_cons_succ, ↓reduceIte, Bool.false_eq_true, Bool.not_true, Bool.not_false, Bool.true_and, Bool.false_and, Bool.and_true, Bool.and_false, Bool.or_true, Bool.or_false, Bool.true_or, Bool.false_or, Nat.reduceAdd, Nat.reduceSub, Nat.reduceLT, Nat.reduceLeDiff, true_and, and_true, and_self, decide_eq_true_eq, Nat.zero_lt_succ, Nat.lt_add_left_iff_pos, beq_self_eq_true, String.reduceBEq, String.reduceEq, Nat.le_refl, Nat.zero_le, Bool.true_eq_false, decide_true, decide_false, Int.reduceEq, Int.reduceLT, Int.reduceLE, Int.reduceSub, Int.reduceAdd, DL.wIfT, DL.wListRg, DL.eSortT, DL.eAddS, DL.eInS, DL.eLenS, DL.wSlS, DL.wI2, DL.evd_mx, DL.evd_mn, DL.evd_gcd, DL.wIStr, DL.wIEnumS, DL.eJnL, DL.eJnT, DL.wJoin, DL.eStrI, DL.eIntS, DL.strsD_map]
      refine call _ _ (by rw [hi1]; simp) ?_
      simp -implicitDefEqProofs only [DL.WW, List.isEmpty_nil, List.map, List.length, List.length_cons, List.length_nil, List.length_set, List.replicate, List.append, List.cons_append, List.nil_append, List.append_nil, List.getElem?_cons_zero, List.getElem?_cons_succ, List.getElem?_nil, List.set_cons_zero, List.set_cons_succ, ↓reduceIte, Bool.false_eq_true, Bool.not_true, Bool.not_false, Bool.true_and, Bool.false_and, Bool.and_true, Bool.and_false, Bool.or_true, Bool.or_false, Bool.true_or, Bool.false_or, Nat.reduceAdd, Nat.reduceSub, Nat.reduceLT, Nat.reduceLeDiff, true_and, and_true, and_self, decide_eq_true_eq, Nat.zero_lt_succ, Nat.lt_add_left_iff_pos, beq_self_eq_true, String.reduceBEq, String.reduceEq, Nat.le_refl, Nat.zero_le, Bool.true_eq_false, decide_true, decide_false, Int.reduceEq, Int.reduceLT, Int.reduceLE, Int.reduceSub, Int.reduceAdd, DL.wIfT, DL.wListRg, DL.eSortT, DL.eAddS, DL.eInS, DL.eLenS, DL.wSlS, DL.wI2, DL.evd_mx, DL.evd_mn, DL.evd_gcd, DL.wIStr, DL.wIEnumS, DL.eJnL, DL.eJnT, DL.wJoin, DL.eStrI, DL.eIntS, DL.strsD_map]
    | false =>
      simp -implicitDefEqProofs only [DL.WW, List.isEmpty_nil, List.map, List.length, List.length_cons, List.length_nil, List.length_set, List.replicate, List.append, List.cons_append, List.nil_append, List.append_nil, List.getElem?_cons_zero, List.getElem?_cons_succ, List.getElem?_nil, List.set_cons_zero, List.set_cons_succ, ↓reduceIte, Bool.false_eq_true, Bool.not_true, Bool.not_false, Bool.true_and, Bool.false_and, Bool.and_true, Bool.and_false, Bool.or_true, Bool.or_false, Bool.true_or, Bool.false_or, Nat.reduceAdd, Nat.reduceSub, Nat.reduceLT, Nat.reduceLeDiff, true_and, and_true, and_self, decide_eq_true_eq, Nat.zero_lt_succ, Nat.lt_add_left_iff_pos, beq_self_eq_true, String.reduceBEq, String.reduceEq, Nat.le_refl, Nat.zero_le, Bool.true_eq_false, decide_true, decide_false, Int.reduceEq, Int.reduceLT, Int.reduceLE, Int.reduceSub, Int.reduceAdd, DL.wIfT, DL.wListRg, DL.eSortT, DL.eAddS, DL.eInS, DL.eLenS, DL.wSlS, DL.wI2, DL.evd_mx, DL.evd_mn, DL.evd_gcd, DL.wIStr, DL.wIEnumS, DL.eJnL, DL.eJnT, DL.wJoin, DL.eStrI, DL.eIntS, DL.strsD_map]
      refine call _ _ (by rw [hi1]; simp) ?_
      simp -implicitDefEqProofs only [DL.WW, List.isEmpty_nil, List.map, List.length, List.length_cons, List.length_nil, List.length_set, List.replicate, List.append, List.cons_append, List.nil_append, List.append_nil, List.getElem?_cons_zero, List.getElem?_cons_succ, List.getElem?_nil, List.set_cons_zero, List.set_cons_succ, ↓reduceIte, Bool.false_eq_true, Bool.not_true, Bool.not_false, Bool.true_and, Bool.false_and, Bool.and_true, Bool.and_false, Bool.or_true, Bool.or_false, Bool.true_or, Bool.false_or, Nat.reduceAdd, Nat.reduceSub, Nat.reduceLT, Nat.reduceLeDiff, true_and, and_true, and_self, decide_eq_true_eq, Nat.zero_lt_succ, Nat.lt_add_left_iff_pos, beq_self_eq_true, String.reduceBEq, String.reduceEq, Nat.le_refl, Nat.zero_le, Bool.true_eq_false, decide_true, decide_false, Int.reduceEq, Int.reduceLT, Int.reduceLE, Int.reduceSub, Int.reduceAdd, DL.wIfT, DL.wListRg, DL.eSortT, DL.eAddS, DL.eInS, DL.eLenS, DL.wSlS, DL.wI2, DL.evd_mx, DL.evd_mn, DL.evd_gcd, DL.wIStr, DL.wIEnumS, DL.eJnL, DL.eJnT, DL.wJoin, DL.eStrI, DL.eIntS, DL.strsD_map]
  rintro e rfl
  simp -implicitDefEqProofs only [DL.WW, List.isEmpty_nil, List.map, List.length, List.length_cons, List.length_nil, List.length_set, List.replicate, List.append, List.cons_append, List.nil_append, List.append_nil, List.getElem?_cons_zero, List.getElem?_cons_succ, List.getElem?_nil, List.set_cons_zero, List.set_cons_succ, ↓reduceIte, Bool.false_eq_true, Bool.not_true, Bool.not_false, Bool.true_and, Bool.false_and, Bool.and_true, Bool.and_false, Bool.or_true, Bool.or_false, Bool.true_or, Bool.false_or, Nat.reduceAdd, Nat.reduceSub, Nat.reduceLT, Nat.reduceLeDiff, true_and, and_true, and_self, decide_eq_true_eq, Nat.zero_lt_succ, Nat.lt_add_left_iff_pos, beq_self_eq_true, String.reduceBEq, String.reduceEq, Nat.le_refl, Nat.zero_le, Bool.true_eq_false, decide_true, decide_false, Int.reduceEq, Int.reduceLT, Int.reduceLE, Int.reduceSub, Int.reduceAdd, DL.wIfT, DL.wListRg, DL.eSortT, DL.eAddS, DL.eInS, DL.eLenS, DL.wSlS, DL.wI2, DL.evd_mx, DL.evd_mn, DL.evd_gcd, DL.wIStr, DL.wIEnumS, DL.eJnL, DL.eJnT, DL.wJoin, DL.eStrI, DL.eIntS, DL.strsD_map]
  have neg0 : neg = true → ¬ (p : Int) = 0 := fun h => by have := h3 h; omega
  have at2 : x[i1 + (digs p).length]? = ((if a = 0 then [] else 47 :: digs (2 ^ a)) ++ r)[0]? := at_rest hd1
  refine ite_neg neg0 ?_
  have elen : (numT neg p a).length = (if neg then 1 else 0) + (digs p).length + (if a = 0 then 0 else 1 + (digs (2 ^ a)).length) := by
    unfold numT
    rw [List.length_append, List.length_append]
    congr 1
    · congr 1
      cases neg <;> rfl
    · split
      · rfl
      · rw [List.length_cons, Nat.add_comm]
  refine cut_use (fun e => e = [some (.dat (.str (stC x))), some (.dat (.int i)), some (.dat (.bool neg)), some (.dat (.int p)), some (.dat (.int ((i + (numT neg p a).length : Nat) : Int))), some (.dat (.int ((2 ^ a : Nat) : Int)))]) ?_ ?_
  · by_cases ha0 : a = 0
    · subst ha0
      have e0 : i + (numT neg p 0).length = i1 + (digs p).length := by rw [elen, hi1]; simp; omega
      rw [e0]
      simp -implicitDefEqProofs only [DL.WW, List.isEmpty_nil, List.map, List.length, List.length_cons, List.length_nil, List.length_set, List.replicate, List.append, List.cons_append, List.nil_append, List.append_nil, List.getElem?_cons_zero, List.getElem?_cons_succ, List.getElem?_nil, List.set_cons_zero, List.set_cons_succ, ↓reduceIte, Bool.false_eq_true, Bool.not_true, Bool.not_false, Bool.true_and, Bool.false_and, Bool.and_true, Bool.and_false, Bool.or_true, Bool.or_false, Bool.true_or, Bool.false_or, Nat.reduceAdd, Nat.reduceSub, Nat.reduceLT, Nat.reduceLeDiff, true_and, and_true, and_self, decide_eq_true_eq, Nat.zero_lt_succ, Nat.lt_add_left_iff_pos, beq_self_eq_true, String.reduceBEq, String.reduceEq, Nat.le_refl, Nat.zero_le, Bool.true_eq_false, decide_true, decide_false, Int.reduceEq, Int.reduceLT, Int.reduceLE, Int.reduceSub, Int.reduceAdd, DL.wIfT, DL.wListRg, DL.eSortT, DL.eAddS, DL.eInS, DL.eLenS, DL.wSlS, DL.wI2, DL.evd_mx, DL.evd_mn, DL.evd_gcd, DL.wIStr, DL.wIEnumS, DL.eJnL, DL.eJnT, DL.wJoin, DL.eStrI, DL.eIntS, DL.strsD_map, stC_len, esl]
      refine ⟨by omega, ?_⟩
      split
      · obtain ⟨y, hy⟩ : ∃ y, x[i1 + (digs p).length]? = some y := ⟨_, List.getElem?_eq_getElem (by omega)⟩
        have hy2 : r[0]? = some y := by rw [← hy, at2]; rfl
        have hyc := hcd y (List.mem_of_getElem? hy)
        rw [at_atI hy]
        refine ⟨by omega, ?_⟩
        show _ ∧ _
        refine ⟨stC_ok (l := [y]) (fun z hz => by rw [List.mem_singleton] at hz; omega), hok3, ?_⟩
        have hno47 : ¬ (({ cps := #[y] } : Str) = stC [47]) := fun h => hs y hy2 (List.cons.inj (stC_inj (a := [y]) (b := [47]) h)).1
        rw [if_neg hno47]
        rfl
      · rfl
    · have hdrop : x.drop (i1 + (digs p).length + 1) = digs (2 ^ a) ++ r := by
        rw [if_neg ha0] at hd1
        rw [← List.drop_drop, ← List.drop_drop, hd1, List.drop_left]
        rfl
      have hlt : i1 + (digs p).length < x.length := by
        rw [if_neg ha0] at hl1
        simp at hl1
        omega
      have at3 : x[i1 + (digs p).length]? = some 47 := by rw [at2, if_neg ha0]; rfl
      have e3 : i + (numT neg p a).length = i1 + (digs p).length + 1 + (digs (2 ^ a)).length := by rw [elen, hi1, if_neg ha0]; split <;> omega
      have e4 : ((i1 + (digs p).length : Nat) : Int) + 1 = ((i1 + (digs p).length + 1 : Nat) : Int) := by omega
      have hodd : p % 2 = 1 := by rcases h4 with h | h; exact absurd h ha0; exact h
      have hlt2 : ((i1 + (digs p).length : Nat) : Int) < (x.length : Int) := by omega
      have hbot : ∀ neg : Bool, (if neg then !([2, 4, 8, 16].any fun z : Nat => PyData.eqv (.int z) (.int ((2 ^ a : Nat) : Int))) else ([2, 4, 8, 16].any fun z : Nat => PyData.eqv (.int z) (.int ((2 ^ a : Nat) : Int)))) = !neg := fun neg => by
        have : a = 1 ∨ a = 2 ∨ a = 3 ∨ a = 4 := by omega
        rcases this with rfl | rfl | rfl | rfl <;> cases neg <;> simp [eqv_int]
      simp -implicitDefEqProofs only [DL.WW, List.isEmpty_nil, List.map, List.length, List.length_cons, List.length_nil, List.length_set, List.replicate, List.append, List.cons_append, List.nil_append, List.append_nil, List.getElem?_cons_zero, List.getElem?_cons_succ, List.getElem?_nil, List.set_cons_zero, List.set_cons_succ, ↓reduceIte, Bool.false_eq_true, Bool.not_true, Bool.not_false, Bool.true_and, Bool.false_and, Bool.and_true, Bool.and_false, Bool.or_true, Bool.or_false, Bool.true_or, Bool.false_or, Nat.reduceAdd, Nat.reduceSub, Nat.reduceLT, Nat.reduceLeDiff, true_and, and_true, and_self, decide_eq_true_eq, Nat.zero_lt_succ, Nat.lt_add_left_iff_pos, beq_self_eq_true, String.reduceBEq, String.reduceEq, Nat.le_refl, Nat.zero_le, Bool.true_eq_false, decide_true, decide_false, Int.reduceEq, Int.reduceLT, Int.reduceLE, Int.reduceSub, Int.reduceAdd, DL.wIfT, DL.wListRg, DL.eSortT, DL.eAddS, DL.eInS, DL.eLenS, DL.wSlS, DL.wI2, DL.evd_mx, DL.evd_mn, DL.evd_gcd, DL.wIStr, DL.wIEnumS, DL.eJnL, DL.eJnT, DL.wJoin, DL.eStrI, DL.eIntS, DL.strsD_map, stC_len, hlt2, at_atI at3, esl, e4]
      refine ⟨by omega, by omega, stC_ok (l := [47]) (fun z hz => by rw [List.mem_singleton] at hz; omega), hok3, ?_⟩
      rw [if_pos (show ({ cps := #[47] } : Str) = stC [47] from rfl)]
      refine ⟨x, r, 2 ^ a, _, _, rfl, hx, by omega, hdrop, by omega, hn, ?_⟩
      rw [e3]
      simp -implicitDefEqProofs only [DL.WW, List.isEmpty_nil, List.map, List.length, List.length_cons, List.length_nil, List.length_set, List.replicate, List.append, List.cons_append, List.nil_append, List.append_nil, List.getElem?_cons_zero, List.getElem?_cons_succ, List.getElem?_nil, List.set_cons_zero, List.set_cons_succ, ↓reduceIte, Bool.false_eq_true, Bool.not_true, Bool.not_false, Bool.true_and, Bool.false_and, Bool.and_true, Bool.and_false, Bool.or_true, Bool.or_false, Bool.true_or, Bool.false_or, Nat.reduceAdd, Nat.reduceSub, Nat.reduceLT, Nat.reduceLeDiff, true_and, and_true, and_self, decide_eq_true_eq, Nat.zero_lt_succ, Nat.lt_add_left_iff_pos, beq_self_eq_true, String.reduceBEq, String.reduceEq, Nat.le_refl, Nat.zero_le, Bool.true_eq_false, decide_true, decide_false, Int.reduceEq, Int.reduceLT, Int.reduceLE, Int.reduceSub, Int.reduceAdd, DL.wIfT, DL.wListRg, DL.eSortT, DL.eAddS, DL.eInS, DL.eLenS, DL.wSlS, DL.wI2, DL.evd_mx, DL.evd_mn, DL.evd_gcd, DL.wIStr, DL.wIEnumS, DL.eJnL, DL.eJnT, DL.wJoin, DL.eStrI, DL.eIntS, DL.strsD_map]
      have hin : inV (dV (PyData.int ((2 ^ a : Nat) : Int))) [dV (PyData.int 2), dV (PyData.int 4), dV (PyData.int 8), dV (PyData.int 16)] = true := by
        have : a = 1 ∨ a = 2 ∨ a = 3 ∨ a = 4 := by omega
        rcases this with rfl | rfl | rfl | rfl <;> decide
      rw [hin, if_neg (by decide), if_neg (by omega)]
      exact ⟨rfl, trivial⟩
  rintro e rfl
  have hcm : CMul 16 ((2 ^ a : Nat) : Int) := .inl ⟨by decide, by decide⟩
  have hle : ¬ 16 * ((2 ^ a : Nat) : Int) < (p : Int) := by omega
  simp -implicitDefEqProofs only [DL.WW, List.isEmpty_nil, List.map, List.length, List.length_cons, List.length_nil, List.length_set, List.replicate, List.append, List.cons_append, List.nil_append, List.append_nil, List.getElem?_cons_zero, List.getElem?_cons_succ, List.getElem?_nil, List.set_cons_zero, List.set_cons_succ, ↓reduceIte, Bool.false_eq_true, Bool.not_true, Bool.not_false, Bool.true_and, Bool.false_and, Bool.and_true, Bool.and_false, Bool.or_true, Bool.or_false, Bool.true_or, Bool.false_or, Nat.reduceAdd, Nat.reduceSub, Nat.reduceLT, Nat.reduceLeDiff, true_and, and_true, and_self, decide_eq_true_eq, Nat.zero_lt_succ, Nat.lt_add_left_iff_pos, beq_self_eq_true, String.reduceBEq, String.reduceEq, Nat.le_refl, Nat.zero_le, Bool.true_eq_false, decide_true, decide_false, Int.reduceEq, Int.reduceLT, Int.reduceLE, Int.reduceSub, Int.reduceAdd, DL.wIfT, DL.wListRg, DL.eSortT, DL.eAddS, DL.eInS, DL.eLenS, DL.wSlS, DL.wI2, DL.evd_mx, DL.evd_mn, DL.evd_gcd, DL.wIStr, DL.wIEnumS, DL.eJnL, DL.eJnT, DL.wJoin, DL.eStrI, DL.eIntS, DL.strsD_map, hle]
  refine ⟨hcm, ?_⟩
  cases neg with
  | true =>
    rw [if_pos rfl]
    have en : nfD (numN 6 (-(p : Int)) a) = gD (numG (-(p : Int)) a) := nfD_nG _
    refine ⟨-(p : Int), a, rfl, by omega, by omega, by rcases h4 with h | h; exact .inl h; right; omega, by omega, ?_⟩
    simp -implicitDefEqProofs only [DL.WW, List.isEmpty_nil, List.map, List.length, List.length_cons, List.length_nil, List.length_set, List.replicate, List.append, List.cons_append, List.nil_append, List.append_nil, List.getElem?_cons_zero, List.getElem?_cons_succ, List.getElem?_nil, List.set_cons_zero, List.set_cons_succ, ↓reduceIte, Bool.false_eq_true, Bool.not_true, Bool.not_false, Bool.true_and, Bool.false_and, Bool.and_true, Bool.and_false, Bool.or_true, Bool.or_false, Bool.true_or, Bool.false_or, Nat.reduceAdd, Nat.reduceSub, Nat.reduceLT, Nat.reduceLeDiff, true_and, and_true, and_self, decide_eq_true_eq, Nat.zero_lt_succ, Nat.lt_add_left_iff_pos, beq_self_eq_true, String.reduceBEq, String.reduceEq, Nat.le_refl, Nat.zero_le, Bool.true_eq_false, decide_true, decide_false, Int.reduceEq, Int.reduceLT, Int.reduceLE, Int.reduceSub, Int.reduceAdd, DL.wIfT, DL.wListRg, DL.eSortT, DL.eAddS, DL.eInS, DL.eLenS, DL.wSlS, DL.wI2, DL.evd_mx, DL.evd_mn, DL.evd_gcd, DL.wIStr, DL.wIEnumS, DL.eJnL, DL.eJnT, DL.wJoin, DL.eStrI, DL.eIntS, DL.strsD_map, en]
    exact hP
  | false =>
    rw [if_neg (by decide)]
    have en : nfD (numN 6 (p : Int) a) = gD (numG (p : Int) a) := nfD_nG _
    refine ⟨(p : Int), a, rfl, by omega, by omega, by rcases h4 with h | h; exact .inl h; right; omega, by omega, ?_⟩
    simp -implicitDefEqProofs only [DL.WW, List.isEmpty_nil, List.map, List.length, List.length_cons, List.length_nil, List.length_set, List.replicate, List.append, List.cons_append, List.nil_append, List.append_nil, List.getElem?_cons_zero, List.getElem?_cons_succ, List.getElem?_nil, List.set_cons_zero, List.set_cons_succ, ↓reduceIte, Bool.false_eq_true, Bool.not_true, Bool.not_false, Bool.true_and, Bool.false_and, Bool.and_true, Bool.and_false, Bool.or_true, Bool.or_false, Bool.true_or, Bool.false_or, Nat.reduceAdd, Nat.reduceSub, Nat.reduceLT, Nat.reduceLeDiff, true_and, and_true, and_self, decide_eq_true_eq, Nat.zero_lt_succ, Nat.lt_add_left_iff_pos, beq_self_eq_true, String.reduceBEq, String.reduceEq, Nat.le_refl, Nat.zero_le, Bool.true_eq_false, decide_true, decide_false, Int.reduceEq, Int.reduceLT, Int.reduceLE, Int.reduceSub, Int.reduceAdd, DL.wIfT, DL.wListRg, DL.eSortT, DL.eAddS, DL.eInS, DL.eLenS, DL.wSlS, DL.wI2, DL.evd_mx, DL.evd_mn, DL.evd_gcd, DL.wIStr, DL.wIEnumS, DL.eJnL, DL.eJnT, DL.wJoin, DL.eStrI, DL.eIntS, DL.strsD_map, en]
    exact hP
def F_read_star : FSp := fun args P => ∃ (x r ds : List Nat) (g : G) (i : Nat), args = [some (.dat (.str (stC x))), some (.dat (.int i))] ∧ x.length ≤ 50000 ∧ i ≤ x.length ∧ x.drop i = 42 :: ds ++ r ∧ Ndg r ∧
  ((ds = [] ∧ g = star) ∨ ∃ k, 2 ≤ k ∧ k ≤ 5 ∧ ds = [48 + k] ∧ g = nimG k) ∧
  P (.dat (.tuple [gD g, .int ((i + 1 + ds.length : Nat) : Int)])) [none, none]
theorem ok_read_star {k : Nat} (T : Txt K mg) (G_digits_from : FnOk P w K mg base CX0 k T.a_digits_from T.d_digits_from ["text", "at"] (spD K F_digits_from)) (G_nimber_form : FnOk P w K mg base CX0 k T.a_nimber_form T.d_nimber_form ["size"] (spD K F_nimber_form)) : FnOk P w K mg base CX0 (k + 1) T.a_read_star T.d_read_star ["text", "start"] (spD K F_read_star) := by
  refine T.F_read_star.ok sc_read_star (fun vs H Q E h => spD_len (fun args P hF => ?_) h) (fun cdv A outer s H vs Q E hr h => ⟨_, (pss_cons (ps_set (i := 2) sc_read_star.nd rfl (Or.inl rfl) (pe_call G_digits_from hr rfl T.g_digits_from T.F_digits_from.kp T.b_digits_from .nil pass0 (pa_cons (pv 0) (pa_cons (pe_op op_add (pv 1) pe_int) pa_nil))))
  (pss_cons (ps_if (pt_cmpR (op_eqDK (K := K) rfl hr.units) (pv 2) (pe_op op_add (pv 1) pe_int) (nomark _))
  (pss_one (ps_ret (pe_tup (pa_cons (pe_glob (v := T.v_STAR) rfl T.c_STAR T.r_STAR) (pa_cons (pv 2) pa_nil)))))
  pss_nil)
  (pss_cons (ps_if (PW.pt (pw_or (pt_cmpR op_gt (pv 2) (pe_op op_add (pv 1) pe_int) (nomark _)) (pw_or1 (pt_cmpR op_notIn_sign (pe_ix ix_str (pv 0) (pe_op op_add (pv 1) pe_int) (fun _ _ => rfl)) pe_str rfl))))
  (pss_one ps_never)
  pss_nil)
  (pss_one (ps_ret (pe_tup (pa_cons (pe_call G_nimber_form hr rfl T.g_nimber_form T.F_nimber_form.kp T.b_nimber_form .nil pass0 (pa_cons (pe_callTy call_int_str rfl T.m_int (by decide +kernel) (pa_cons (pe_ix ix_str (pv 0) (pe_op op_add (pv 1) pe_int) (fun _ _ => rfl)) pa_nil)) pa_nil)) (pa_cons (pv 2) pa_nil)))))))), fn_run (N := ["text", "start", "end"]) h (fun A' Hz' => (ss_seq (ss_asg (se_call (sa_cons se_var (sa_cons (se_op (sr_I0 (fun _ _ => rfl)) se_var se_int) sa_nil))) sg_name)
  (ss_seq (ss_if (st_test (se_op sr_eqD se_var (se_op (sr_I0 (fun _ _ => rfl)) se_var se_int)))
  (ss_ret (se_tup (sa_cons (se_gd T.q_STAR) (sa_cons se_var sa_nil))))
  ss_next)
  (ss_seq (ss_if (st_or (st_test (se_op (sr_I0 (fun _ _ => rfl)) se_var (se_op (sr_I0 (fun _ _ => rfl)) se_var se_int))) (st_test (se_op sr_notInS (se_op sr_ixS se_var (se_op (sr_I0 (fun _ _ => rfl)) se_var se_int)) se_str)))
  ss_never
  ss_next)
  (ss_ret (se_tup (sa_cons (se_call (sa_cons (se_cb1 sc_intS (se_op sr_ixS se_var (se_op (sr_I0 (fun _ _ => rfl)) se_var se_int))) sa_nil)) (sa_cons se_var sa_nil)))))))) (fun args P hl hF => ?_)⟩)
  · obtain ⟨x, r, ds, g, i, rfl, _⟩ := hF
    rfl
  obtain ⟨x, r, ds, g, i, rfl, hx, hi, hd, hn, hk, hP⟩ := hF
  have hl := len_drop hd hi
  have hdrop : x.drop (i + 1) = ds ++ r := by rw [← List.drop_drop, hd]; rfl
  have hdg : ∀ c ∈ ds, Dg c := by
    rcases hk with ⟨rfl, _⟩ | ⟨k, k2, k5, rfl, _⟩
    · intro c hc; cases hc
    · intro c hc; rw [List.mem_singleton] at hc; unfold Dg; omega
  simp -implicitDefEqProofs only [DL.WW, List.isEmpty_nil, List.map, List.length, List.length_cons, List.length_nil, List.length_set, List.replicate, List.append, List.cons_append, List.nil_append, List.append_nil, List.getElem?_cons_zero, List.getElem?_cons_succ, List.getElem?_nil, List.set_cons_zero, List.set_cons_succ, ↓reduceIte, Bool.false_eq_true, Bool.not_true, Bool.not_false, Bool.true_and, Bool.false_and, Bool.and_true, Bool.and_false, Bool.or_true, Bool.or_false, Bool.true_or, Bool.false_or, Nat.reduceAdd, Nat.reduceSub, Nat.reduceLT, Nat.reduceLeDiff, true_and, and_true, and_self, decide_eq_true_eq, Nat.zero_lt_succ, Nat.lt_add_left_iff_pos, beq_self_eq_true, String.reduceBEq, String.reduceEq, Nat.le_refl, Nat.zero_le, Bool.true_eq_false, decide_true, decide_false, Int.reduceEq, Int.reduceLT, Int.reduceLE, Int.reduceSub, Int.reduceAdd, DL.wIfT, DL.wListRg, DL.eSortT, DL.eAddS, DL.eInS, DL.eLenS, DL.wSlS, DL.wI2, DL.evd_mx, DL.evd_mn, DL.evd_gcd, DL.wIStr, DL.wIEnumS, DL.eJnL, DL.eJnT, DL.wJoin, DL.eStrI, DL.eIntS, DL.strsD_map]
  have ei : (i : Int) + 1 = ((i + 1 : Nat) : Int) := by omega
  rw [ei]
  refine ⟨x, ds, r, i + 1, rfl, hx, ?_, hdrop, hdg, hn, ?_⟩
  · rw [List.length_cons] at hl; omega
  simp -implicitDefEqProofs only [DL.WW, List.isEmpty_nil, List.map, List.length, List.length_cons, List.length_nil, List.length_set, List.replicate, List.append, List.cons_append, List.nil_append, List.append_nil, List.getElem?_cons_zero, List.getElem?_cons_succ, List.getElem?_nil, List.set_cons_zero, List.set_cons_succ, ↓reduceIte, Bool.false_eq_true, Bool.not_true, Bool.not_false, Bool.true_and, Bool.false_and, Bool.and_true, Bool.and_false, Bool.or_true, Bool.or_false, Bool.true_or, Bool.false_or, Nat.reduceAdd, Nat.reduceSub, Nat.reduceLT, Nat.reduceLeDiff, true_and, and_true, and_self, decide_eq_true_eq, Nat.zero_lt_succ, Nat.lt_add_left_iff_pos, beq_self_eq_true, String.reduceBEq, String.reduceEq, Nat.le_refl, Nat.zero_le, Bool.true_eq_false, decide_true, decide_false, Int.reduceEq, Int.reduceLT, Int.reduceLE, Int.reduceSub, Int.reduceAdd, DL.wIfT, DL.wListRg, DL.eSortT, DL.eAddS, DL.eInS, DL.eLenS, DL.wSlS, DL.wI2, DL.evd_mx, DL.evd_mn, DL.evd_gcd, DL.wIStr, DL.wIEnumS, DL.eJnL, DL.eJnT, DL.wJoin, DL.eStrI, DL.eIntS, DL.strsD_map, dZ, dS]
  rcases hk with ⟨rfl, rfl⟩ | ⟨k, k2, k5, rfl, rfl⟩
  · rw [if_pos (by simp)]
    exact hP
  · have hk0 : x[i + 1]? = some (48 + k) := by simpa using at_drop hdrop (j := 0) (by simp)
    have hat := at_atI hk0
    have e1 : ((i + 1 + [48 + k].length : Nat) : Int) = (i : Int) + 2 := by simp; omega
    rw [e1] at hP ⊢
    have e2 : (i : Int) + 1 = ((i + 1 : Nat) : Int) := by omega
    rw [if_neg (by omega), if_neg (by omega), e2, hat]
    have hm : decide (48 + k ∈ (Str.ofString "2345").cps.toList) = true ∧ intText? (stC [48 + k]) = some (k : Int) := by
      have : k = 2 ∨ k = 3 ∨ k = 4 ∨ k = 5 := by omega
      rcases this with rfl | rfl | rfl | rfl <;> decide +kernel
    refine ⟨stC_line (by omega), ?_⟩
    show ∃ c1, _
    refine ⟨48 + k, rfl, ?_⟩
    rw [hm.1, if_neg (by decide)]
    refine ⟨stC_line (by omega), ?_⟩
    show _ ∧ _
    refine ⟨by show (stC [48 + k]).length ≤ 640; rw [stC_len]; simp, ?_⟩
    have ecs : ({ cps := #[48 + k] } : Str) = stC [48 + k] := rfl
    rw [ecs, hm.2]
    rw [ob1_some]
    refine ⟨k, rfl, by omega, ?_⟩
    simp -implicitDefEqProofs only [DL.WW, List.isEmpty_nil, List.map, List.length, List.length_cons, List.length_nil, List.length_set, List.replicate, List.append, List.cons_append, List.nil_append, List.append_nil, List.getElem?_cons_zero, List.getElem?_cons_succ, List.getElem?_nil, List.set_cons_zero, List.set_cons_succ, ↓reduceIte, Bool.false_eq_true, Bool.not_true, Bool.not_false, Bool.true_and, Bool.false_and, Bool.and_true, Bool.and_false, Bool.or_true, Bool.or_false, Bool.true_or, Bool.false_or, Nat.reduceAdd, Nat.reduceSub, Nat.reduceLT, Nat.reduceLeDiff, true_and, and_true, and_self, decide_eq_true_eq, Nat.zero_lt_succ, Nat.lt_add_left_iff_pos, beq_self_eq_true, String.reduceBEq, String.reduceEq, Nat.le_refl, Nat.zero_le, Bool.true_eq_false, decide_true, decide_false, Int.reduceEq, Int.reduceLT, Int.reduceLE, Int.reduceSub, Int.reduceAdd, DL.wIfT, DL.wListRg, DL.eSortT, DL.eAddS, DL.eInS, DL.eLenS, DL.wSlS, DL.wI2, DL.evd_mx, DL.evd_mn, DL.evd_gcd, DL.wIStr, DL.wIEnumS, DL.eJnL, DL.eJnT, DL.wJoin, DL.eStrI, DL.eIntS, DL.strsD_map]
    exact hP
def F_too_deep : FSp := fun args P => ∃ x : List Nat, args = [some (.dat (.str (stC x)))] ∧ x.length ≤ 50000 ∧ CdOk x ∧ scan 0 x = some 0 ∧ P (.dat .none) [none]
theorem sg_C (x : List Nat) : sgD (stC x) = x.map fun c => .str (stC [c]) := rfl
theorem ok_too_deep {k : Nat} (T : Txt K mg)  : FnOk P w K mg base CX0 (k + 1) T.a_too_deep T.d_too_deep ["text"] (spD K F_too_deep) := by
  refine T.F_too_deep.ok sc_too_deep (fun vs H Q E h => spD_len (fun args P hF => ?_) h) (fun cdv A outer s H vs Q E hr h => ⟨_, (pss_cons (ps_set (i := 1) sc_too_deep.nd rfl (Or.inl rfl) pe_int)
  (pss_cons (ps_for PassesOwn.never rfl (pi_enumS rfl T.m_enumerate (pa_cons (pv 0) pa_nil)) (pg_tupK (K := K) (n := 2) rfl rfl (pgs_cons (pg_name (i := 2) sc_too_deep.nd rfl (Or.inl rfl)) (pgs_cons (pg_name (i := 3) sc_too_deep.nd rfl (Or.inl rfl)) pgs_nil)))
  (pss_cons (ps_if (pt_cmpR (op_eqDK (K := K) rfl hr.units) (pv 3) pe_str (nomark _))
  (pss_cons (ps_aug (i := 1) sc_too_deep.nd rfl (Or.inl rfl) pe_int ip_add)
  (pss_one (ps_if (pt_cmpR op_gt (pv 1) pe_int (nomark _))
  (pss_one (ps_ret (pv 2)))
  pss_nil)))
  pss_nil)
  (pss_one (ps_if (pt_cmpR (op_eqDK (K := K) rfl hr.units) (pv 3) pe_str (nomark _))
  (pss_one (ps_aug (i := 1) sc_too_deep.nd rfl (Or.inl rfl) pe_int ip_sub))
  pss_nil))))
  (pss_one (ps_ret pe_non)))), fn_run (N := ["text", "depth", "at", "sign"]) h (fun A' Hz' => (ss_seq (ss_asg se_int sg_name)
  (ss_seq (ss_for (si_enumS se_var) (sg_tup (sgs_cons sg_name (sgs_cons sg_name sgs_nil)))
  (ss_seq (ss_if (st_test (se_op sr_eqD se_var se_str))
  (ss_seq (ss_augI se_int)
  (ss_if (st_test (se_op (sr_I0 (fun _ _ => rfl)) se_var se_int))
  (ss_ret se_var)
  ss_next))
  ss_next)
  (ss_if (st_test (se_op sr_eqD se_var se_str))
  (ss_augI se_int)
  ss_next)))
  (ss_ret se_non)))) (fun args P hl hF => ?_)⟩)
  · obtain ⟨x, rfl, _⟩ := hF
    rfl
  obtain ⟨x, rfl, hx, hcd, hs, hP⟩ := hF
  simp -implicitDefEqProofs only [DL.WW, List.isEmpty_nil, List.map, List.length, List.length_cons, List.length_nil, List.length_set, List.replicate, List.append, List.cons_append, List.nil_append, List.append_nil, List.getElem?_cons_zero, List.getElem?_cons_succ, List.getElem?_nil, List.set_cons_zero, List.set_cons_succ, ↓reduceIte, Bool.false_eq_true, Bool.not_true, Bool.not_false, Bool.true_and, Bool.false_and, Bool.and_true, Bool.and_false, Bool.or_true, Bool.or_false, Bool.true_or, Bool.false_or, Nat.reduceAdd, Nat.reduceSub, Nat.reduceLT, Nat.reduceLeDiff, true_and, and_true, and_self, decide_eq_true_eq, Nat.zero_lt_succ, Nat.lt_add_left_iff_pos, beq_self_eq_true, String.reduceBEq, String.reduceEq, Nat.le_refl, Nat.zero_le, Bool.true_eq_false, decide_true, decide_false, Int.reduceEq, Int.reduceLT, Int.reduceLE, Int.reduceSub, Int.reduceAdd, DL.wIfT, DL.wListRg, DL.eSortT, DL.eAddS, DL.eInS, DL.eLenS, DL.wSlS, DL.wI2, DL.evd_mx, DL.evd_mn, DL.evd_gcd, DL.wIStr, DL.wIEnumS, DL.eJnL, DL.eJnT, DL.wJoin, DL.eStrI, DL.eIntS, DL.strsD_map]
  refine for_use ?_
  simp -implicitDefEqProofs only [DL.WW, List.isEmpty_nil, List.map, List.length, List.length_cons, List.length_nil, List.length_set, List.replicate, List.append, List.cons_append, List.nil_append, List.append_nil, List.getElem?_cons_zero, List.getElem?_cons_succ, List.getElem?_nil, List.set_cons_zero, List.set_cons_succ, ↓reduceIte, Bool.false_eq_true, Bool.not_true, Bool.not_false, Bool.true_and, Bool.false_and, Bool.and_true, Bool.and_false, Bool.or_true, Bool.or_false, Bool.true_or, Bool.false_or, Nat.reduceAdd, Nat.reduceSub, Nat.reduceLT, Nat.reduceLeDiff, true_and, and_true, and_self, decide_eq_true_eq, Nat.zero_lt_succ, Nat.lt_add_left_iff_pos, beq_self_eq_true, String.reduceBEq, String.reduceEq, Nat.le_refl, Nat.zero_le, Bool.true_eq_false, decide_true, decide_false, Int.reduceEq, Int.reduceLT, Int.reduceLE, Int.reduceSub, Int.reduceAdd, DL.wIfT, DL.wListRg, DL.eSortT, DL.eAddS, DL.eInS, DL.eLenS, DL.wSlS, DL.wI2, DL.evd_mx, DL.evd_mn, DL.evd_gcd, DL.wIStr, DL.wIEnumS, DL.eJnL, DL.eJnT, DL.wJoin, DL.eStrI, DL.eIntS, DL.strsD_map, sg_C]
  have c1 : Str.ofString "{" = stC [123] := by decide +kernel
  have c2 : Str.ofString "}" = stC [125] := by decide +kernel
  have one : ∀ c, c < 128 → PyData.strOk (stC [c]) = true := fun c hc => stC_ok (fun y hy => by rw [List.mem_singleton] at hy; omega)
  refine ⟨fun i e => ∃ (k : Nat) (z2 z3 : Option B), scan k (x.drop i) = some 0 ∧ e = [some (.dat (.str (stC x))), some (.dat (.int k)), z2, z3], ⟨0, none, none, hs, rfl⟩, ?_, ?_⟩
  · rintro i d e hd ⟨k, z2, z3, hk, rfl⟩
    obtain ⟨dx, hdx, rfl⟩ := enumD_get hd
    obtain ⟨c, hc, rfl⟩ := map_get hdx
    have hi := (List.getElem?_eq_some_iff.mp hc).1
    have hdr : x.drop i = c :: x.drop (i + 1) := by rw [List.drop_eq_getElem_cons hi, (List.getElem?_eq_some_iff.mp hc).2]
    have hc128 := hcd c (List.mem_of_getElem? hc)
    rw [hdr, scan] at hk
    simp -implicitDefEqProofs only [DL.WW, List.isEmpty_nil, List.map, List.length, List.length_cons, List.length_nil, List.length_set, List.replicate, List.append, List.cons_append, List.nil_append, List.append_nil, List.getElem?_cons_zero, List.getElem?_cons_succ, List.getElem?_nil, List.set_cons_zero, List.set_cons_succ, ↓reduceIte, Bool.false_eq_true, Bool.not_true, Bool.not_false, Bool.true_and, Bool.false_and, Bool.and_true, Bool.and_false, Bool.or_true, Bool.or_false, Bool.true_or, Bool.false_or, Nat.reduceAdd, Nat.reduceSub, Nat.reduceLT, Nat.reduceLeDiff, true_and, and_true, and_self, decide_eq_true_eq, Nat.zero_lt_succ, Nat.lt_add_left_iff_pos, beq_self_eq_true, String.reduceBEq, String.reduceEq, Nat.le_refl, Nat.zero_le, Bool.true_eq_false, decide_true, decide_false, Int.reduceEq, Int.reduceLT, Int.reduceLE, Int.reduceSub, Int.reduceAdd, DL.wIfT, DL.wListRg, DL.eSortT, DL.eAddS, DL.eInS, DL.eLenS, DL.wSlS, DL.wI2, DL.evd_mx, DL.evd_mn, DL.evd_gcd, DL.wIStr, DL.wIEnumS, DL.eJnL, DL.eJnT, DL.wJoin, DL.eStrI, DL.eIntS, DL.strsD_map, c1, c2]
    refine ⟨one c hc128, one 123 (by decide), ?_⟩
    have e1 : ∀ y, (stC [c] = stC [y]) = (c = y) := fun y => propext ⟨fun h => (List.cons.inj (stC_inj h)).1, fun h => by rw [h]⟩
    simp only [e1]
    by_cases k1 : c = 123
    · subst k1
      rw [if_pos rfl] at hk
      have h60 : ¬ 60 < k + 1 := fun h => by rw [if_pos h] at hk; cases hk
      rw [if_neg h60] at hk
      rw [if_pos rfl, if_neg (by omega)]
      refine ⟨one 123 (by decide), one 125 (by decide), ?_⟩
      rw [if_neg (by decide)]
      have e2 : ((k + 1 : Nat) : Int) = (k : Int) + 1 := by omega
      refine ⟨k + 1, some (.dat (.int i)), some (.dat (.str (stC [123]))), hk, ?_⟩
      rw [e2]
    · rw [if_neg k1] at hk ⊢
      refine ⟨one c hc128, one 125 (by decide), ?_⟩
      by_cases k2 : c = 125
      · subst k2
        rw [if_pos rfl] at hk ⊢
        have hk0 : ¬ k = 0 := fun h => by rw [if_pos h] at hk; cases hk
        rw [if_neg hk0] at hk
        refine ⟨k - 1, some (.dat (.int i)), some (.dat (.str (stC [125]))), hk, ?_⟩
        have : ((k - 1 : Nat) : Int) = (k : Int) - 1 := by omega
        rw [this]
      · rw [if_neg k2] at hk ⊢
        exact ⟨k, _, _, hk, rfl⟩
  · rintro e ⟨k, z2, z3, hk, rfl⟩
    simp -implicitDefEqProofs only [DL.WW, List.isEmpty_nil, List.map, List.length, List.length_cons, List.length_nil, List.length_set, List.replicate, List.append, List.cons_append, List.nil_append, List.append_nil, List.getElem?_cons_zero, List.getElem?_cons_succ, List.getElem?_nil, List.set_cons_zero, List.set_cons_succ, ↓reduceIte, Bool.false_eq_true, Bool.not_true, Bool.not_false, Bool.true_and, Bool.false_and, Bool.and_true, Bool.and_false, Bool.or_true, Bool.or_false, Bool.true_or, Bool.false_or, Nat.reduceAdd, Nat.reduceSub, Nat.reduceLT, Nat.reduceLeDiff, true_and, and_true, and_self, decide_eq_true_eq, Nat.zero_lt_succ, Nat.lt_add_left_iff_pos, beq_self_eq_true, String.reduceBEq, String.reduceEq, Nat.le_refl, Nat.zero_le, Bool.true_eq_false, decide_true, decide_false, Int.reduceEq, Int.reduceLT, Int.reduceLE, Int.reduceSub, Int.reduceAdd, DL.wIfT, DL.wListRg, DL.eSortT, DL.eAddS, DL.eInS, DL.eLenS, DL.wSlS, DL.wI2, DL.evd_mx, DL.evd_mn, DL.evd_gcd, DL.wIStr, DL.wIEnumS, DL.eJnL, DL.eJnT, DL.wJoin, DL.eStrI, DL.eIntS, DL.strsD_map]
    exact hP
end
end K06D


set_option Elab.async false
set_option linter.all false
set_option maxRecDepth 100000
set_option maxHeartbeats 4000000
namespace K06D
open PySem L2 TG DL K06 SK TXG
section
variable {P : Program} {w : World} {K : PySem.W.Frag} {mg : Str → Option Value} {base : Heap}
structure XOk (x : List Nat) (i : Nat) : Prop where
  len : x.length ≤ 50000
  cd : CdOk x
  le : i ≤ x.length
def F_rf (d : Nat) : FSp := fun args P => ∃ (x t r : List Nat) (g : G) (i : Nat), args = [some (.dat (.str (stC x))), some (.dat (.int i))] ∧ XOk x i ∧ x.drop i = t ++ r ∧ Tx d t g ∧ Sp r ∧
  P (.dat (.tuple [gD g, .int ((i + t.length : Nat) : Int)])) [none, none]
def F_rs (d : Nat) : FSp := fun args P => ∃ (x r : List Nat) (ts : List (List Nat)) (gs : List G) (i l : Nat), args = [some (.dat (.str (stC x))), some (.dat (.int i)), some (.dat (.str (stC [l])))] ∧ XOk x i ∧ (l = 124 ∨ l = 125) ∧ x.drop i = joinC ts ++ l :: r ∧
  ts.length = gs.length ∧ (∀ (j : Nat) (t : List Nat) (g : G), ts[j]? = some t → gs[j]? = some g → Tx d t g) ∧
  P (.dat (.tuple [.tuple (gs.map gD), .int ((i + (joinC ts).length + 1 : Nat) : Int)])) [none, none, none]
theorem Sp.ndg {r : List Nat} (h : Sp r) : Ndg r := fun c hc => by have := h c hc; unfold Dg; omega
theorem Sp.nsl {r : List Nat} (h : Sp r) : Nsl r := fun c hc => by have := h c hc; omega
section
variable {d : Nat} {F_read_side : FSp} (hS : ∀ d', d = d' + 1 → F_read_side = F_rs d')
include hS
theorem ok_read_from {k : Nat} (T : Txt K mg) (G_read_side : FnOk P w K mg base CX0 k T.a_read_side T.d_read_side ["text", "at", "last"] (spD K F_read_side)) (G_read_number : FnOk P w K mg base CX0 k T.a_read_number T.d_read_number ["text", "start"] (spD K F_read_number)) (G_read_star : FnOk P w K mg base CX0 k T.a_read_star T.d_read_star ["text", "start"] (spD K F_read_star)) : FnOk P w K mg base CX0 (k + 1) T.a_read_from T.d_read_from ["text", "at"] (spD K (F_rf d)) := by
  refine T.F_read_from.ok sc_read_from (fun vs H Q E h => spD_len (fun args P hF => ?_) h) (fun cdv A outer s H vs Q E hr h => ⟨_, (pss_cons (ps_if (pt_cmpR (op_eqDK (K := K) rfl hr.units) (pv 1) (pe_callB call_len_str rfl T.m_len PySem.boot_len (pa_cons (pv 0) pa_nil)) (nomark _))
  (pss_one ps_never)
  pss_nil)
  (pss_cons (ps_set (i := 2) sc_read_from.nd rfl (Or.inl rfl) (pe_ix ix_str (pv 0) (pv 1) (fun _ _ => rfl)))
  (pss_cons (ps_if (PW.pt (pw_or (pt_cmpR (op_eqDK (K := K) rfl hr.units) (pv 2) pe_str (nomark _)) (pw_or1 (pt_cmpR op_in_sign (pv 2) (pe_glob (v := .str "0123456789") rfl T.c_DIGITS ⟨_, rfl⟩) rfl))))
  (pss_one (ps_ret (pe_call G_read_number hr rfl T.g_read_number T.F_read_number.kp T.b_read_number .nil pass0 (pa_cons (pv 0) (pa_cons (pv 1) pa_nil)))))
  pss_nil)
  (pss_cons (ps_if (pt_cmpR (op_eqDK (K := K) rfl hr.units) (pv 2) pe_str (nomark _))
  (pss_one (ps_ret (pe_call G_read_star hr rfl T.g_read_star T.F_read_star.kp T.b_read_star .nil pass0 (pa_cons (pv 0) (pa_cons (pv 1) pa_nil)))))
  pss_nil)
  (pss_cons (ps_if (pt_cmpR (op_in_seqK (K := K) rfl) (pv 2) (pe_tup (pa_cons pe_str (pa_cons pe_str pa_nil))) (by rfl))
  (pss_cons (ps_if (PW.pt (pw_and (pt_cmpR op_lt (pe_op op_add (pv 1) pe_int) (pe_callB call_len_str rfl T.m_len PySem.boot_len (pa_cons (pv 0) pa_nil)) (nomark _)) (pw_and1 (pt_cmpR (op_eqDK (K := K) rfl hr.units) (pe_ix ix_str (pv 0) (pe_op op_add (pv 1) pe_int) (fun _ _ => rfl)) pe_str (nomark _)))))
  (pss_one (ps_ret (pe_tup (pa_cons (pe_ifExp (pt_cmpR (op_eqDK (K := K) rfl hr.units) (pv 2) pe_str (nomark _)) (pe_glob (v := T.v_UP_STAR) rfl T.c_UP_STAR T.r_UP_STAR) (pe_glob (v := T.v_DOWN_STAR) rfl T.c_DOWN_STAR T.r_DOWN_STAR)) (pa_cons (pe_op op_add (pv 1) pe_int) pa_nil)))))
  pss_nil)
  (pss_one (ps_ret (pe_tup (pa_cons (pe_ifExp (pt_cmpR (op_eqDK (K := K) rfl hr.units) (pv 2) pe_str (nomark _)) (pe_glob (v := T.v_UP) rfl T.c_UP T.r_UP) (pe_glob (v := T.v_DOWN) rfl T.c_DOWN T.r_DOWN)) (pa_cons (pe_op op_add (pv 1) pe_int) pa_nil))))))
  pss_nil)
  (pss_cons (ps_if (pt_cmpR (op_neDK (K := K) rfl hr.units) (pv 2) pe_str (nomark _))
  (pss_one ps_never)
  pss_nil)
  (pss_cons (ps_asg (pe_call G_read_side hr rfl T.g_read_side T.F_read_side.kp T.b_read_side .nil pass0 (pa_cons (pv 0) (pa_cons (pe_op op_add (pv 1) pe_int) (pa_cons pe_str pa_nil)))) (pg_tupK (K := K) (n := 2) rfl rfl (pgs_cons (pg_name (i := 3) sc_read_from.nd rfl (Or.inl rfl)) (pgs_cons (pg_name (i := 1) sc_read_from.nd rfl (Or.inl rfl)) pgs_nil))))
  (pss_cons (ps_asg (pe_call G_read_side hr rfl T.g_read_side T.F_read_side.kp T.b_read_side .nil pass0 (pa_cons (pv 0) (pa_cons (pv 1) (pa_cons pe_str pa_nil)))) (pg_tupK (K := K) (n := 2) rfl rfl (pgs_cons (pg_name (i := 4) sc_read_from.nd rfl (Or.inl rfl)) (pgs_cons (pg_name (i := 1) sc_read_from.nd rfl (Or.inl rfl)) pgs_nil))))
  (pss_one (ps_ret (pe_tup (pa_cons (pe_tup (pa_cons (pv 3) (pa_cons (pv 4) pa_nil))) (pa_cons (pv 1) pa_nil))))))))))))), fn_run (N := ["text", "at", "sign", "lefts", "rights"]) h (fun A' Hz' => (ss_seq (ss_if (st_test (se_op sr_eqD se_var (se_cb1 sc_lenS se_var)))
  ss_never
  ss_next)
  (ss_seq (ss_asg (se_op sr_ixS se_var se_var) sg_name)
  (ss_seq (ss_if (st_or (st_test (se_op sr_eqD se_var se_str)) (st_test (se_op sr_inS se_var se_str)))
  (ss_ret (se_call (sa_cons se_var (sa_cons se_var sa_nil))))
  ss_next)
  (ss_seq (ss_if (st_test (se_op sr_eqD se_var se_str))
  (ss_ret (se_call (sa_cons se_var (sa_cons se_var sa_nil))))
  ss_next)
  (ss_seq (ss_if (st_test (se_op sr_in se_var (se_tup (sa_cons se_str (sa_cons se_str sa_nil)))))
  (ss_seq (ss_if (st_and (st_test (se_op (sr_I0 (fun _ _ => rfl)) (se_op (sr_I0 (fun _ _ => rfl)) se_var se_int) (se_cb1 sc_lenS se_var))) (st_test (se_op sr_eqD (se_op sr_ixS se_var (se_op (sr_I0 (fun _ _ => rfl)) se_var se_int)) se_str)))
  (ss_ret (se_tup (sa_cons (se_if (st_test (se_op sr_eqD se_var se_str)) (se_gd T.q_UP_STAR) (se_gd T.q_DOWN_STAR)) (sa_cons (se_op (sr_I0 (fun _ _ => rfl)) se_var se_int) sa_nil))))
  ss_next)
  (ss_ret (se_tup (sa_cons (se_if (st_test (se_op sr_eqD se_var se_str)) (se_gd T.q_UP) (se_gd T.q_DOWN)) (sa_cons (se_op (sr_I0 (fun _ _ => rfl)) se_var se_int) sa_nil)))))
  ss_next)
  (ss_seq (ss_if (st_test (se_op sr_neD se_var se_str))
  ss_never
  ss_next)
  (ss_seq (ss_asg (se_call (sa_cons se_var (sa_cons (se_op (sr_I0 (fun _ _ => rfl)) se_var se_int) (sa_cons se_str sa_nil)))) (sg_tup (sgs_cons sg_name (sgs_cons sg_name sgs_nil))))
  (ss_seq (ss_asg (se_call (sa_cons se_var (sa_cons se_var (sa_cons se_str sa_nil)))) (sg_tup (sgs_cons sg_name (sgs_cons sg_name sgs_nil))))
  (ss_ret (se_tup (sa_cons (se_tup (sa_cons se_var (sa_cons se_var sa_nil))) (sa_cons se_var sa_nil))))))))))))) (fun args P hl hF => ?_)⟩)
  · obtain ⟨x, t, r, g, i, rfl, _⟩ := hF
    rfl
  obtain ⟨x, t, r, g, i, rfl, hx, hd, ht, hsp, hP⟩ := hF
  obtain ⟨c, t', htc, _⟩ := tx_ne ht
  have hl := len_drop hd hx.le
  have hx5 := hx.len
  have hdc : x.drop i = c :: (t' ++ r) := by rw [hd, htc]; rfl
  have htl : t.length = t'.length + 1 := by rw [htc, List.length_cons]
  have hlt : ¬ ((i : Nat) : Int) = (x.length : Int) := by omega
  have hc : x[i]? = some c := by
    have := List.getElem?_drop (xs := x) (i := i) (j := 0)
    rw [hdc] at this
    exact this.symm
  have hc128 := hx.cd c (List.mem_of_getElem? hc)
  have one : ∀ c, c < 128 → PyData.strOk (stC [c]) = true := fun c hc => stC_ok (fun y hy => by rw [List.mem_singleton] at hy; omega)
  have sm : Str.ofString "-" = stC [45] := by decide +kernel
  have ss : Str.ofString "*" = stC [42] := by decide +kernel
  have su : Str.ofString "^" = stC [94] := by decide +kernel
  have sv : Str.ofString "v" = stC [118] := by decide +kernel
  have sb : Str.ofString "{" = stC [123] := by decide +kernel
  have s1 : Str.ofString "|" = stC [124] := by decide +kernel
  have s2 : Str.ofString "}" = stC [125] := by decide +kernel
  have e1 : ∀ a y, (stC [a] = stC [y]) = (a = y) := fun a y => propext ⟨fun h => (List.cons.inj (stC_inj h)).1, fun h => by rw [h]⟩
  have ecs : ∀ c, ({ cps := #[c] } : Str) = stC [c] := fun _ => rfl
  have xl : x.length ≤ sizeLine := Nat.le_trans hx5 (by decide)
  simp -implicitDefEqProofs only [DL.WW, List.isEmpty_nil, List.map, List.length, List.length_cons, List.length_nil, List.length_set, List.replicate, List.append, List.cons_append, List.nil_append, List.append_nil, List.getElem?_cons_zero, List.getElem?_cons_succ, List.getElem?_nil, List.set_cons_zero, List.set_cons_succ, ↓reduceIte, Bool.false_eq_true, Bool.not_true, Bool.not_false, Bool.true_and, Bool.false_and, Bool.and_true, Bool.and_false, Bool.or_true, Bool.or_false, Bool.true_or, Bool.false_or, Nat.reduceAdd, Nat.reduceSub, Nat.reduceLT, Nat.reduceLeDiff, true_and, and_true, and_self, decide_eq_true_eq, Nat.zero_lt_succ, Nat.lt_add_left_iff_pos, beq_self_eq_true, String.reduceBEq, String.reduceEq, Nat.le_refl, Nat.zero_le, Bool.true_eq_false, decide_true, decide_false, Int.reduceEq, Int.reduceLT, Int.reduceLE, Int.reduceSub, Int.reduceAdd, DL.wIfT, DL.wListRg, DL.eSortT, DL.eAddS, DL.eInS, DL.eLenS, DL.wSlS, DL.wI2, DL.evd_mx, DL.evd_mn, DL.evd_gcd, DL.wIStr, DL.wIEnumS, DL.eJnL, DL.eJnT, DL.wJoin, DL.eStrI, DL.eIntS, DL.strsD_map, stC_len, hlt, at_atI hc, ecs, sm, ss, su, sv, sb, s1, s2, dZ, dS, dU, dD, dUS, dDS, e1, one c hc128, one 45 (by decide)]
  refine ⟨xl, xl, ?_⟩
  have num : ∀ (neg : Bool) (p a : Nat), t = numT neg p a → g = numG (if neg then -(p : Int) else p) a → a ≤ 4 → p ≤ 16 * 2 ^ a → (neg = true → p ≠ 0) → (a = 0 ∨ p % 2 = 1) → ∀ Post : Vl → En → Prop, Post (.dat (.tuple [gD g, .int ((i + t.length : Nat) : Int)])) [none, none] → F_read_number [some (.dat (.str (stC x))), some (.dat (.int i))] Post := fun neg p a et eg h1 h2 h3 h4 Post hpost => by
    subst et eg
    exact ⟨x, r, neg, p, a, i, rfl, hx5, hx.cd, hx.le, hd, h1, h2, h3, h4, Sp.ndg hsp, Sp.nsl hsp, hpost⟩
  by_cases c45 : c = 45
  · rw [if_pos c45]
    cases ht with
    | num _ neg p a h1 h2 h3 h4 =>
      refine num neg p a rfl rfl h1 h2 h3 h4 _ ?_
      simp -implicitDefEqProofs only [DL.WW, List.isEmpty_nil, List.map, List.length, List.length_cons, List.length_nil, List.length_set, List.replicate, List.append, List.cons_append, List.nil_append, List.append_nil, List.getElem?_cons_zero, List.getElem?_cons_succ, List.getElem?_nil, List.set_cons_zero, List.set_cons_succ, ↓reduceIte, Bool.false_eq_true, Bool.not_true, Bool.not_false, Bool.true_and, Bool.false_and, Bool.and_true, Bool.and_false, Bool.or_true, Bool.or_false, Bool.true_or, Bool.false_or, Nat.reduceAdd, Nat.reduceSub, Nat.reduceLT, Nat.reduceLeDiff, true_and, and_true, and_self, decide_eq_true_eq, Nat.zero_lt_succ, Nat.lt_add_left_iff_pos, beq_self_eq_true, String.reduceBEq, String.reduceEq, Nat.le_refl, Nat.zero_le, Bool.true_eq_false, decide_true, decide_false, Int.reduceEq, Int.reduceLT, Int.reduceLE, Int.reduceSub, Int.reduceAdd, DL.wIfT, DL.wListRg, DL.eSortT, DL.eAddS, DL.eInS, DL.eLenS, DL.wSlS, DL.wI2, DL.evd_mx, DL.evd_mn, DL.evd_gcd, DL.wIStr, DL.wIEnumS, DL.eJnL, DL.eJnT, DL.wJoin, DL.eStrI, DL.eIntS, DL.strsD_map]
      exact hP
    | star => cases htc; cases c45
    | nim => cases htc; cases c45
    | up => cases htc; cases c45
    | down => cases htc; cases c45
    | upS => cases htc; cases c45
    | downS => cases htc; cases c45
    | br => cases htc; cases c45
  rw [if_neg c45]
  refine ⟨c, rfl, ?_⟩
  by_cases cdg : Dg c
  · rw [if_pos (of_decide_eq_true (dg_in cdg))]
    cases ht with
    | num _ neg p a h1 h2 h3 h4 =>
      refine num neg p a rfl rfl h1 h2 h3 h4 _ ?_
      simp -implicitDefEqProofs only [DL.WW, List.isEmpty_nil, List.map, List.length, List.length_cons, List.length_nil, List.length_set, List.replicate, List.append, List.cons_append, List.nil_append, List.append_nil, List.getElem?_cons_zero, List.getElem?_cons_succ, List.getElem?_nil, List.set_cons_zero, List.set_cons_succ, ↓reduceIte, Bool.false_eq_true, Bool.not_true, Bool.not_false, Bool.true_and, Bool.false_and, Bool.and_true, Bool.and_false, Bool.or_true, Bool.or_false, Bool.true_or, Bool.false_or, Nat.reduceAdd, Nat.reduceSub, Nat.reduceLT, Nat.reduceLeDiff, true_and, and_true, and_self, decide_eq_true_eq, Nat.zero_lt_succ, Nat.lt_add_left_iff_pos, beq_self_eq_true, String.reduceBEq, String.reduceEq, Nat.le_refl, Nat.zero_le, Bool.true_eq_false, decide_true, decide_false, Int.reduceEq, Int.reduceLT, Int.reduceLE, Int.reduceSub, Int.reduceAdd, DL.wIfT, DL.wListRg, DL.eSortT, DL.eAddS, DL.eInS, DL.eLenS, DL.wSlS, DL.wI2, DL.evd_mx, DL.evd_mn, DL.evd_gcd, DL.wIStr, DL.wIEnumS, DL.eJnL, DL.eJnT, DL.wJoin, DL.eStrI, DL.eIntS, DL.strsD_map]
      exact hP
    | star => cases htc; exact absurd cdg (by unfold Dg; decide)
    | nim => cases htc; exact absurd cdg (by unfold Dg; decide)
    | up => cases htc; exact absurd cdg (by unfold Dg; decide)
    | down => cases htc; exact absurd cdg (by unfold Dg; decide)
    | upS => cases htc; exact absurd cdg (by unfold Dg; decide)
    | downS => cases htc; exact absurd cdg (by unfold Dg; decide)
    | br => cases htc; exact absurd cdg (by unfold Dg; decide)
  rw [if_neg (of_decide_eq_false (dg_out cdg))]
  cases ht with
  | num _ neg p a h1 h2 h3 h4 =>
    exfalso
    have hp : p ≤ 256 := Nat.le_trans h2 (Nat.le_trans (Nat.mul_le_mul_left 16 (Nat.pow_le_pow_right (n := 2) (by decide) h1)) (by decide))
    have D := dig hp
    cases neg with
    | true => exact c45 (List.cons.inj htc).1.symm
    | false =>
      cases hdp : digs p with
      | nil => exact D.ne hdp
      | cons y ys =>
        rw [hdp] at htc
        have := (List.cons.inj htc).1
        subst this
        exact cdg (D.dg y (by rw [hdp]; exact List.mem_cons_self))
  | star =>
    cases htc
    refine ⟨one 42 (by decide), ?_⟩
    rw [if_pos rfl]
    refine ⟨x, r, [], star, i, rfl, hx5, hx.le, hd, Sp.ndg hsp, .inl ⟨rfl, rfl⟩, ?_⟩
    simp -implicitDefEqProofs only [DL.WW, List.isEmpty_nil, List.map, List.length, List.length_cons, List.length_nil, List.length_set, List.replicate, List.append, List.cons_append, List.nil_append, List.append_nil, List.getElem?_cons_zero, List.getElem?_cons_succ, List.getElem?_nil, List.set_cons_zero, List.set_cons_succ, ↓reduceIte, Bool.false_eq_true, Bool.not_true, Bool.not_false, Bool.true_and, Bool.false_and, Bool.and_true, Bool.and_false, Bool.or_true, Bool.or_false, Bool.true_or, Bool.false_or, Nat.reduceAdd, Nat.reduceSub, Nat.reduceLT, Nat.reduceLeDiff, true_and, and_true, and_self, decide_eq_true_eq, Nat.zero_lt_succ, Nat.lt_add_left_iff_pos, beq_self_eq_true, String.reduceBEq, String.reduceEq, Nat.le_refl, Nat.zero_le, Bool.true_eq_false, decide_true, decide_false, Int.reduceEq, Int.reduceLT, Int.reduceLE, Int.reduceSub, Int.reduceAdd, DL.wIfT, DL.wListRg, DL.eSortT, DL.eAddS, DL.eInS, DL.eLenS, DL.wSlS, DL.wI2, DL.evd_mx, DL.evd_mn, DL.evd_gcd, DL.wIStr, DL.wIEnumS, DL.eJnL, DL.eJnT, DL.wJoin, DL.eStrI, DL.eIntS, DL.strsD_map]
    exact hP
  | nim _ k k2 k5 =>
    cases htc
    refine ⟨one 42 (by decide), ?_⟩
    rw [if_pos rfl]
    refine ⟨x, r, [48 + k], nimG k, i, rfl, hx5, hx.le, hd, Sp.ndg hsp, .inr ⟨k, k2, k5, rfl, rfl⟩, ?_⟩
    simp -implicitDefEqProofs only [DL.WW, List.isEmpty_nil, List.map, List.length, List.length_cons, List.length_nil, List.length_set, List.replicate, List.append, List.cons_append, List.nil_append, List.append_nil, List.getElem?_cons_zero, List.getElem?_cons_succ, List.getElem?_nil, List.set_cons_zero, List.set_cons_succ, ↓reduceIte, Bool.false_eq_true, Bool.not_true, Bool.not_false, Bool.true_and, Bool.false_and, Bool.and_true, Bool.and_false, Bool.or_true, Bool.or_false, Bool.true_or, Bool.false_or, Nat.reduceAdd, Nat.reduceSub, Nat.reduceLT, Nat.reduceLeDiff, true_and, and_true, and_self, decide_eq_true_eq, Nat.zero_lt_succ, Nat.lt_add_left_iff_pos, beq_self_eq_true, String.reduceBEq, String.reduceEq, Nat.le_refl, Nat.zero_le, Bool.true_eq_false, decide_true, decide_false, Int.reduceEq, Int.reduceLT, Int.reduceLE, Int.reduceSub, Int.reduceAdd, DL.wIfT, DL.wListRg, DL.eSortT, DL.eAddS, DL.eInS, DL.eLenS, DL.wSlS, DL.wI2, DL.evd_mx, DL.evd_mn, DL.evd_gcd, DL.wIStr, DL.wIEnumS, DL.eJnL, DL.eJnT, DL.wJoin, DL.eStrI, DL.eIntS, DL.strsD_map]
    exact hP
  | up =>
    cases htc
    refine ⟨one 42 (by decide), ?_⟩
    rw [if_neg (by decide)]
    refine ⟨rfl, ?_⟩
    rw [if_pos (by decide +kernel)]
    refine ⟨xl, ?_⟩
    have ei : (i : Int) + 1 = ((i + 1 : Nat) : Int) := by omega
    rw [ei]
    split
    · obtain ⟨y, hy⟩ : ∃ y, x[i + 1]? = some y := ⟨_, List.getElem?_eq_getElem (by omega)⟩
      have hy2 : r[0]? = some y := by
        have := at_rest hd
        rw [← this]
        exact hy
      have := hsp y hy2
      rw [at_atI hy]
      refine ⟨xl, ?_⟩
      show _ ∧ _
      refine ⟨one y (by omega), one 42 (by decide), ?_⟩
      rw [if_neg (by omega)]
      refine ⟨one 94 (by decide), ?_⟩
      rw [if_pos (by decide)]
      exact hP
    · refine ⟨one 94 (by decide), ?_⟩
      rw [if_pos (by decide)]
      exact hP
  | down =>
    cases htc
    refine ⟨one 42 (by decide), ?_⟩
    rw [if_neg (by decide)]
    refine ⟨rfl, ?_⟩
    rw [if_pos (by decide +kernel)]
    refine ⟨xl, ?_⟩
    have ei : (i : Int) + 1 = ((i + 1 : Nat) : Int) := by omega
    rw [ei]
    split
    · obtain ⟨y, hy⟩ : ∃ y, x[i + 1]? = some y := ⟨_, List.getElem?_eq_getElem (by omega)⟩
      have hy2 : r[0]? = some y := by
        have := at_rest hd
        rw [← this]
        exact hy
      have := hsp y hy2
      rw [at_atI hy]
      refine ⟨xl, ?_⟩
      show _ ∧ _
      refine ⟨one y (by omega), one 42 (by decide), ?_⟩
      rw [if_neg (by omega)]
      refine ⟨one 94 (by decide), ?_⟩
      rw [if_neg (by decide)]
      exact hP
    · refine ⟨one 94 (by decide), ?_⟩
      rw [if_neg (by decide)]
      exact hP
  | upS =>
    cases htc
    refine ⟨one 42 (by decide), ?_⟩
    rw [if_neg (by decide)]
    refine ⟨rfl, ?_⟩
    rw [if_pos (by decide +kernel)]
    refine ⟨xl, ?_⟩
    have ei : (i : Int) + 1 = ((i + 1 : Nat) : Int) := by omega
    have hy : x[i + 1]? = some 42 := by
      have := at_drop hd (j := 1) (by decide)
      exact this
    have hlt2 := (List.getElem?_eq_some_iff.mp hy).1
    rw [ei, if_pos (by omega), at_atI hy]
    refine ⟨xl, ?_⟩
    show _ ∧ _
    refine ⟨one 42 (by decide), one 42 (by decide), ?_⟩
    rw [if_pos rfl]
    refine ⟨one 94 (by decide), ?_⟩
    rw [if_pos (by decide)]
    exact hP
  | downS =>
    cases htc
    refine ⟨one 42 (by decide), ?_⟩
    rw [if_neg (by decide)]
    refine ⟨rfl, ?_⟩
    rw [if_pos (by decide +kernel)]
    refine ⟨xl, ?_⟩
    have ei : (i : Int) + 1 = ((i + 1 : Nat) : Int) := by omega
    have hy : x[i + 1]? = some 42 := by
      have := at_drop hd (j := 1) (by decide)
      exact this
    have hlt2 := (List.getElem?_eq_some_iff.mp hy).1
    rw [ei, if_pos (by omega), at_atI hy]
    refine ⟨xl, ?_⟩
    show _ ∧ _
    refine ⟨one 42 (by decide), one 42 (by decide), ?_⟩
    rw [if_pos rfl]
    refine ⟨one 94 (by decide), ?_⟩
    rw [if_neg (by decide)]
    exact hP
  | br d' ts us l r' h1 h2 h3 h4 =>
    cases htc
    have hFs := hS d' rfl
    subst hFs
    refine ⟨one 42 (by decide), ?_⟩
    rw [if_neg (by decide)]
    refine ⟨rfl, ?_⟩
    rw [if_neg (by decide +kernel)]
    refine ⟨one 123 (by decide), ?_⟩
    rw [if_neg (by decide)]
    have ei : (i : Int) + 1 = ((i + 1 : Nat) : Int) := by omega
    have hd1 : x.drop (i + 1) = joinC ts ++ 124 :: (joinC us ++ 125 :: r) := by
      rw [← List.drop_drop, hd]
      simp
    have l1 : i + 1 ≤ x.length := by omega
    have hl1 := len_drop hd1 l1
    have hd2 : x.drop (i + 1 + (joinC ts).length + 1) = joinC us ++ 125 :: r := by
      have e : i + 1 + (joinC ts).length + 1 = (i + 1) + ((joinC ts).length + 1) := by omega
      rw [e, ← List.drop_drop, hd1, ← List.drop_drop, List.drop_left]
      rfl
    rw [ei]
    simp only [List.length_cons, List.length_append] at hl1
    refine ⟨x, _, ts, l, i + 1, 124, rfl, ⟨hx5, hx.cd, l1⟩, .inl rfl, hd1, h1, h3, ?_⟩
    simp -implicitDefEqProofs only [DL.WW, List.isEmpty_nil, List.map, List.length, List.length_cons, List.length_nil, List.length_set, List.replicate, List.append, List.cons_append, List.nil_append, List.append_nil, List.getElem?_cons_zero, List.getElem?_cons_succ, List.getElem?_nil, List.set_cons_zero, List.set_cons_succ, ↓reduceIte, Bool.false_eq_true, Bool.not_true, Bool.not_false, Bool.true_and, Bool.false_and, Bool.and_true, Bool.and_false, Bool.or_true, Bool.or_false, Bool.true_or, Bool.false_or, Nat.reduceAdd, Nat.reduceSub, Nat.reduceLT, Nat.reduceLeDiff, true_and, and_true, and_self, decide_eq_true_eq, Nat.zero_lt_succ, Nat.lt_add_left_iff_pos, beq_self_eq_true, String.reduceBEq, String.reduceEq, Nat.le_refl, Nat.zero_le, Bool.true_eq_false, decide_true, decide_false, Int.reduceEq, Int.reduceLT, Int.reduceLE, Int.reduceSub, Int.reduceAdd, DL.wIfT, DL.wListRg, DL.eSortT, DL.eAddS, DL.eInS, DL.eLenS, DL.wSlS, DL.wI2, DL.evd_mx, DL.evd_mn, DL.evd_gcd, DL.wIStr, DL.wIEnumS, DL.eJnL, DL.eJnT, DL.wJoin, DL.eStrI, DL.eIntS, DL.strsD_map]
    refine ⟨x, r, us, r', i + 1 + (joinC ts).length + 1, 125, rfl, ⟨hx5, hx.cd, by omega⟩, .inr rfl, hd2, h2, h4, ?_⟩
    simp -implicitDefEqProofs only [DL.WW, List.isEmpty_nil, List.map, List.length, List.length_cons, List.length_nil, List.length_set, List.replicate, List.append, List.cons_append, List.nil_append, List.append_nil, List.getElem?_cons_zero, List.getElem?_cons_succ, List.getElem?_nil, List.set_cons_zero, List.set_cons_succ, ↓reduceIte, Bool.false_eq_true, Bool.not_true, Bool.not_false, Bool.true_and, Bool.false_and, Bool.and_true, Bool.and_false, Bool.or_true, Bool.or_false, Bool.true_or, Bool.false_or, Nat.reduceAdd, Nat.reduceSub, Nat.reduceLT, Nat.reduceLeDiff, true_and, and_true, and_self, decide_eq_true_eq, Nat.zero_lt_succ, Nat.lt_add_left_iff_pos, beq_self_eq_true, String.reduceBEq, String.reduceEq, Nat.le_refl, Nat.zero_le, Bool.true_eq_false, decide_true, decide_false, Int.reduceEq, Int.reduceLT, Int.reduceLE, Int.reduceSub, Int.reduceAdd, DL.wIfT, DL.wListRg, DL.eSortT, DL.eAddS, DL.eInS, DL.eLenS, DL.wSlS, DL.wI2, DL.evd_mx, DL.evd_mn, DL.evd_gcd, DL.wIStr, DL.wIEnumS, DL.eJnL, DL.eJnT, DL.wJoin, DL.eStrI, DL.eIntS, DL.strsD_map]
    have el : i + 1 + (joinC ts).length + 1 + (joinC us).length + 1 = i + (123 :: joinC ts ++ 124 :: joinC us ++ [125]).length := by
      simp only [List.length_append, List.length_cons, List.length_nil]
      omega
    rw [el]
    rw [gD_mk] at hP
    exact hP
end
section
variable {d : Nat} {F_read_from : FSp} (hR : F_read_from = F_rf d)
include hR
theorem ok_read_side {k : Nat} (T : Txt K mg) (G_read_from : FnOk P w K mg base CX0 k T.a_read_from T.d_read_from ["text", "at"] (spD K F_read_from)) : FnOk P w K mg base CX0 (k + 1) T.a_read_side T.d_read_side ["text", "at", "last"] (spD K (F_rs d)) := by
  refine T.F_read_side.ok sc_read_side (fun vs H Q E h => spD_len (fun args P hF => ?_) h) (fun cdv A outer s H vs Q E hr h => ⟨_, (pss_cons (ps_set (i := 3) sc_read_side.nd rfl (Or.inl rfl) (pe_lst pa_nil))
  (pss_cons (ps_if (PW.pt (pw_and (pt_cmpR op_lt (pv 1) (pe_callB call_len_str rfl T.m_len PySem.boot_len (pa_cons (pv 0) pa_nil)) (nomark _)) (pw_and1 (pt_cmpR (op_eqDK (K := K) rfl hr.units) (pe_ix ix_str (pv 0) (pv 1) (fun _ _ => rfl)) (pv 2) (nomark _)))))
  (pss_one (ps_ret (pe_tup (pa_cons (pe_tup pa_nil) (pa_cons (pe_op op_add (pv 1) pe_int) pa_nil)))))
  pss_nil)
  (pss_one (ps_while PassesOwn.never (pt_val pe_bl)
  (pss_cons (ps_asg (pe_call G_read_from hr rfl T.g_read_from T.F_read_from.kp T.b_read_from .nil pass0 (pa_cons (pv 0) (pa_cons (pv 1) pa_nil))) (pg_tupK (K := K) (n := 2) rfl rfl (pgs_cons (pg_name (i := 4) sc_read_side.nd rfl (Or.inl rfl)) (pgs_cons (pg_name (i := 1) sc_read_side.nd rfl (Or.inl rfl)) pgs_nil))))
  (pss_cons (ps_expr (pe_bmK (K := K) rfl PySem.F.plainAttrs_list PySem.F.slot_list_append PySem.F.type_list_append mt_append (pv 3) (pa_cons (pv 4) pa_nil)))
  (pss_cons (ps_if (PW.pt (pw_and (pt_cmpR op_lt (pv 1) (pe_callB call_len_str rfl T.m_len PySem.boot_len (pa_cons (pv 0) pa_nil)) (nomark _)) (pw_and1 (pt_cmpR (op_eqDK (K := K) rfl hr.units) (pe_ix ix_str (pv 0) (pv 1) (fun _ _ => rfl)) (pv 2) (nomark _)))))
  (pss_one (ps_ret (pe_tup (pa_cons (pe_callTy (call_tuple_ofK (K := K) rfl) rfl T.m_tuple (by decide +kernel) (pa_cons (pv 3) pa_nil)) (pa_cons (pe_op op_add (pv 1) pe_int) pa_nil)))))
  pss_nil)
  (pss_cons (ps_if (PW.pt (pw_or (pt_cmpR (op_eqDK (K := K) rfl hr.units) (pv 1) (pe_callB call_len_str rfl T.m_len PySem.boot_len (pa_cons (pv 0) pa_nil)) (nomark _)) (pw_or1 (pt_cmpR (op_neDK (K := K) rfl hr.units) (pe_ix ix_str (pv 0) (pv 1) (fun _ _ => rfl)) pe_str (nomark _)))))
  (pss_one ps_never)
  pss_nil)
  (pss_one (ps_aug (i := 1) sc_read_side.nd rfl (Or.inl rfl) pe_int ip_add)))))))))), fn_run (N := ["text", "at", "last", "found", "game"]) h (fun A' Hz' => (ss_seq (ss_asg (se_lst sa_nil) sg_name)
  (ss_seq (ss_if (st_and (st_test (se_op (sr_I0 (fun _ _ => rfl)) se_var (se_cb1 sc_lenS se_var))) (st_test (se_op sr_eqD (se_op sr_ixS se_var se_var) se_var)))
  (ss_ret (se_tup (sa_cons (se_tup sa_nil) (sa_cons (se_op (sr_I0 (fun _ _ => rfl)) se_var se_int) sa_nil))))
  ss_next)
  (ss_while (st_B se_bl)
  (ss_seq (ss_asg (se_call (sa_cons se_var (sa_cons se_var sa_nil))) (sg_tup (sgs_cons sg_name (sgs_cons sg_name sgs_nil))))
  (ss_seq (ss_drop (se_app se_var))
  (ss_seq (ss_if (st_and (st_test (se_op (sr_I0 (fun _ _ => rfl)) se_var (se_cb1 sc_lenS se_var))) (st_test (se_op sr_eqD (se_op sr_ixS se_var se_var) se_var)))
  (ss_ret (se_tup (sa_cons (se_cb1 sc_tupOf se_var) (sa_cons (se_op (sr_I0 (fun _ _ => rfl)) se_var se_int) sa_nil))))
  ss_next)
  (ss_seq (ss_if (st_or (st_test (se_op sr_eqD se_var (se_cb1 sc_lenS se_var))) (st_test (se_op sr_neD (se_op sr_ixS se_var se_var) se_str)))
  ss_never
  ss_next)
  (ss_augI se_int))))))))) (fun args P hl hF => ?_)⟩)
  · obtain ⟨x, r, ts, gs, i, l, rfl, _⟩ := hF
    rfl
  obtain ⟨x, r, ts, gs, i, l, rfl, hx, hl2, hd, hlen, htx, hP⟩ := hF
  subst hR
  have hl := len_drop hd hx.le
  rw [List.length_cons] at hl
  have hx5 := hx.len
  have xl : x.length ≤ sizeLine := Nat.le_trans hx5 (by decide)
  have sc : Str.ofString "," = stC [44] := by decide +kernel
  have one : ∀ c, c < 128 → PyData.strOk (stC [c]) = true := fun c hc => stC_ok (fun y hy => by rw [List.mem_singleton] at hy; omega)
  have e1 : ∀ a y, (stC [a] = stC [y]) = (a = y) := fun a y => propext ⟨fun h => (List.cons.inj (stC_inj h)).1, fun h => by rw [h]⟩
  have ecs : ∀ c, ({ cps := #[c] } : Str) = stC [c] := fun _ => rfl
  have ilt : (i : Int) < (x.length : Int) := by omega
  have okl : PyData.strOk (stC [l]) = true := one l (by omega)
  obtain ⟨c0, hc0⟩ : ∃ c, x[i]? = some c := ⟨_, List.getElem?_eq_getElem (by omega)⟩
  have hc0128 := hx.cd c0 (List.mem_of_getElem? hc0)
  have hc0d : (joinC ts ++ l :: r)[0]? = some c0 := by
    rw [← hd, List.getElem?_drop]
    exact hc0
  simp -implicitDefEqProofs only [DL.WW, List.isEmpty_nil, List.map, List.length, List.length_cons, List.length_nil, List.length_set, List.replicate, List.append, List.cons_append, List.nil_append, List.append_nil, List.getElem?_cons_zero, List.getElem?_cons_succ, List.getElem?_nil, List.set_cons_zero, List.set_cons_succ, ↓reduceIte, Bool.false_eq_true, Bool.not_true, Bool.not_false, Bool.true_and, Bool.false_and, Bool.and_true, Bool.and_false, Bool.or_true, Bool.or_false, Bool.true_or, Bool.false_or, Nat.reduceAdd, Nat.reduceSub, Nat.reduceLT, Nat.reduceLeDiff, true_and, and_true, and_self, decide_eq_true_eq, Nat.zero_lt_succ, Nat.lt_add_left_iff_pos, beq_self_eq_true, String.reduceBEq, String.reduceEq, Nat.le_refl, Nat.zero_le, Bool.true_eq_false, decide_true, decide_false, Int.reduceEq, Int.reduceLT, Int.reduceLE, Int.reduceSub, Int.reduceAdd, DL.wIfT, DL.wListRg, DL.eSortT, DL.eAddS, DL.eInS, DL.eLenS, DL.wSlS, DL.wI2, DL.evd_mx, DL.evd_mn, DL.evd_gcd, DL.wIStr, DL.wIEnumS, DL.eJnL, DL.eJnT, DL.wJoin, DL.eStrI, DL.eIntS, DL.strsD_map, stC_len, ilt, at_atI hc0, ecs, e1, one c0 hc0128, okl]
  refine ⟨xl, xl, ?_⟩
  cases hts : ts with
  | nil =>
    subst hts
    have hgs : gs = [] := List.length_eq_zero_iff.mp hlen.symm
    subst hgs
    have : l = c0 := Option.some.inj hc0d
    rw [if_pos this.symm]
    exact hP
  | cons t0 ts0 =>
    have ht0 : ts[0]? = some t0 := by rw [hts]; rfl
    obtain ⟨g0, hg0⟩ : ∃ g, gs[0]? = some g := ⟨_, List.getElem?_eq_getElem (by rw [← hlen, hts]; simp)⟩
    obtain ⟨cc, tt, ett, n1, n2, n3⟩ := tx_ne (htx 0 t0 g0 ht0 hg0)
    have hne0 : ¬ c0 = l := by
      have : (joinC ts ++ l :: r)[0]? = some cc := by
        rw [hts, ett]
        cases ts0 <;> rfl
      rw [hc0d] at this
      have := Option.some.inj this
      omega
    rw [if_neg hne0]
    refine ⟨fun m e => ∃ (j i' : Nat) (z4 : Option B), j < ts.length ∧ m = ts.length - j ∧ x.drop i' = joinC (ts.drop j) ++ l :: r ∧ i' ≤ x.length ∧ i' + (joinC (ts.drop j)).length = i + (joinC ts).length ∧
      e = [some (.dat (.str (stC x))), some (.dat (.int i')), some (.dat (.str (stC [l]))), some (.ob none (.lst ((gs.take j).map gD))), z4], ⟨_, 0, i, none, by rw [hts]; simp, rfl, hd, hx.le, rfl, rfl⟩, ?_⟩
    rintro m e ⟨j, i', z4, hj, rfl, hdj, hi', hlj, rfl⟩
    obtain ⟨g, hg⟩ : ∃ g, gs[j]? = some g := ⟨_, List.getElem?_eq_getElem (by omega)⟩
    have htj : ts.drop j = ts[j] :: ts.drop (j + 1) := List.drop_eq_getElem_cons hj
    have ht := htx j ts[j] g (List.getElem?_eq_getElem hj) hg
    generalize ts[j] = t at htj ht
    have htk : (gs.take (j + 1)).map gD = (gs.take j).map gD ++ [gD g] := by rw [List.take_succ, hg, List.map_append]; rfl
    have hgl : ((gs.take j).map gD).length ≤ 50000 := by
      have h1 : ∀ ts : List (List Nat), ts.length ≤ (joinC ts).length + 1 := fun ts => by
        induction ts with
        | nil => simp
        | cons t ts ih =>
          cases ts with
          | nil => simp
          | cons u us =>
            simp only [joinC, List.length_append, List.length_cons] at ih ⊢
            omega
      have := h1 ts
      rw [List.length_map, List.length_take]
      omega
    simp -implicitDefEqProofs only [DL.WW, List.isEmpty_nil, List.map, List.length, List.length_cons, List.length_nil, List.length_set, List.replicate, List.append, List.cons_append, List.nil_append, List.append_nil, List.getElem?_cons_zero, List.getElem?_cons_succ, List.getElem?_nil, List.set_cons_zero, List.set_cons_succ, ↓reduceIte, Bool.false_eq_true, Bool.not_true, Bool.not_false, Bool.true_and, Bool.false_and, Bool.and_true, Bool.and_false, Bool.or_true, Bool.or_false, Bool.true_or, Bool.false_or, Nat.reduceAdd, Nat.reduceSub, Nat.reduceLT, Nat.reduceLeDiff, true_and, and_true, and_self, decide_eq_true_eq, Nat.zero_lt_succ, Nat.lt_add_left_iff_pos, beq_self_eq_true, String.reduceBEq, String.reduceEq, Nat.le_refl, Nat.zero_le, Bool.true_eq_false, decide_true, decide_false, Int.reduceEq, Int.reduceLT, Int.reduceLE, Int.reduceSub, Int.reduceAdd, DL.wIfT, DL.wListRg, DL.eSortT, DL.eAddS, DL.eInS, DL.eLenS, DL.wSlS, DL.wI2, DL.evd_mx, DL.evd_mn, DL.evd_gcd, DL.wIStr, DL.wIEnumS, DL.eJnL, DL.eJnT, DL.wJoin, DL.eStrI, DL.eIntS, DL.strsD_map]
    cases hrest : ts.drop (j + 1) with
    | nil =>
      rw [htj, hrest] at hdj hlj
      have hj1 : j + 1 = ts.length := by have := List.drop_eq_nil_iff.mp hrest; omega
      have hd1 : x.drop i' = t ++ (l :: r) := hdj
      have hlj1 : i' + t.length = i + (joinC ts).length := hlj
      have hat : x[i' + t.length]? = some l := at_rest hd1
      have hlt := (List.getElem?_eq_some_iff.mp hat).1
      have hlt2 : ((i' + t.length : Nat) : Int) < (x.length : Int) := by omega
      refine ⟨x, t, l :: r, g, i', rfl, ⟨hx5, hx.cd, hi'⟩, hd1, ht, fun c hc => by cases hc; omega, ?_⟩
      have hall : (gs.take j).map gD ++ [gD g] = gs.map gD := by rw [← htk, hj1, hlen, List.take_length]
      simp -implicitDefEqProofs only [DL.WW, List.isEmpty_nil, List.map, List.length, List.length_cons, List.length_nil, List.length_set, List.replicate, List.append, List.cons_append, List.nil_append, List.append_nil, List.getElem?_cons_zero, List.getElem?_cons_succ, List.getElem?_nil, List.set_cons_zero, List.set_cons_succ, ↓reduceIte, Bool.false_eq_true, Bool.not_true, Bool.not_false, Bool.true_and, Bool.false_and, Bool.and_true, Bool.and_false, Bool.or_true, Bool.or_false, Bool.true_or, Bool.false_or, Nat.reduceAdd, Nat.reduceSub, Nat.reduceLT, Nat.reduceLeDiff, true_and, and_true, and_self, decide_eq_true_eq, Nat.zero_lt_succ, Nat.lt_add_left_iff_pos, beq_self_eq_true, String.reduceBEq, String.reduceEq, Nat.le_refl, Nat.zero_le, Bool.true_eq_false, decide_true, decide_false, Int.reduceEq, Int.reduceLT, Int.reduceLE, Int.reduceSub, Int.reduceAdd, DL.wIfT, DL.wListRg, DL.eSortT, DL.eAddS, DL.eInS, DL.eLenS, DL.wSlS, DL.wI2, DL.evd_mx, DL.evd_mn, DL.evd_gcd, DL.wIStr, DL.wIEnumS, DL.eJnL, DL.eJnT, DL.wJoin, DL.eStrI, DL.eIntS, DL.strsD_map, stC_len, hlt2, at_atI hat, ecs, okl, hall]
      refine ⟨by omega, xl, xl, ?_⟩
      have ef : ((i' + t.length : Nat) : Int) + 1 = ((i + (joinC ts).length + 1 : Nat) : Int) := by omega
      rw [ef]
      exact hP
    | cons u us =>
      rw [htj, hrest] at hdj hlj
      have hd1 : x.drop i' = t ++ (44 :: (joinC (u :: us) ++ l :: r)) := by
        rw [hdj]
        show (t ++ 44 :: joinC (u :: us)) ++ l :: r = _
        simp
      have hlj1 : i' + (t.length + ((joinC (u :: us)).length + 1)) = i + (joinC ts).length := by
        rw [← hlj]
        show _ = i' + (t ++ 44 :: joinC (u :: us)).length
        simp
      have hat : x[i' + t.length]? = some 44 := at_rest hd1
      have hlt := (List.getElem?_eq_some_iff.mp hat).1
      have hlt2 : ((i' + t.length : Nat) : Int) < (x.length : Int) := by omega
      have hne2 : ¬ ((i' + t.length : Nat) : Int) = (x.length : Int) := by omega
      have h44 : ¬ 44 = l := by omega
      refine ⟨x, t, _, g, i', rfl, ⟨hx5, hx.cd, hi'⟩, hd1, ht, fun c hc => by cases hc; exact .inl rfl, ?_⟩
      simp -implicitDefEqProofs only [DL.WW, List.isEmpty_nil, List.map, List.length, List.length_cons, List.length_nil, List.length_set, List.replicate, List.append, List.cons_append, List.nil_append, List.append_nil, List.getElem?_cons_zero, List.getElem?_cons_succ, List.getElem?_nil, List.set_cons_zero, List.set_cons_succ, ↓reduceIte, Bool.false_eq_true, Bool.not_true, Bool.not_false, Bool.true_and, Bool.false_and, Bool.and_true, Bool.and_false, Bool.or_true, Bool.or_false, Bool.true_or, Bool.false_or, Nat.reduceAdd, Nat.reduceSub, Nat.reduceLT, Nat.reduceLeDiff, true_and, and_true, and_self, decide_eq_true_eq, Nat.zero_lt_succ, Nat.lt_add_left_iff_pos, beq_self_eq_true, String.reduceBEq, String.reduceEq, Nat.le_refl, Nat.zero_le, Bool.true_eq_false, decide_true, decide_false, Int.reduceEq, Int.reduceLT, Int.reduceLE, Int.reduceSub, Int.reduceAdd, DL.wIfT, DL.wListRg, DL.eSortT, DL.eAddS, DL.eInS, DL.eLenS, DL.wSlS, DL.wI2, DL.evd_mx, DL.evd_mn, DL.evd_gcd, DL.wIStr, DL.wIEnumS, DL.eJnL, DL.eJnT, DL.wJoin, DL.eStrI, DL.eIntS, DL.strsD_map, stC_len, hlt2, at_atI hat, ecs, okl, e1, one 44 (by decide), h44, hne2, sc]
      have hj1 : j + 1 < ts.length := by
        have h9 := congrArg List.length hrest
        rw [List.length_drop, List.length_cons] at h9
        omega
      refine ⟨by omega, xl, xl, xl, xl, ts.length - (j + 1), by omega, j + 1, i' + t.length + 1, some (.dat (gD g)), hj1, rfl, ?_, by omega, ?_, ?_⟩
      · rw [hrest, ← List.drop_drop, ← List.drop_drop, hd1, List.drop_left]
        rfl
      · rw [hrest]
        omega
      · have e3 : ((i' + t.length : Nat) : Int) + 1 = ((i' + t.length + 1 : Nat) : Int) := by omega
        rw [e3, htk]
end
theorem ok_reads {k : Nat} (T : Txt K mg) (G_read_number : FnOk P w K mg base CX0 k T.a_read_number T.d_read_number ["text", "start"] (spD K F_read_number)) (G_read_star : FnOk P w K mg base CX0 k T.a_read_star T.d_read_star ["text", "start"] (spD K F_read_star)) :
    ∀ d, FnOk P w K mg base CX0 (k + 1 + 2 * d) T.a_read_from T.d_read_from ["text", "at"] (spD K (F_rf d))
  | 0 => ok_read_from (F_read_side := fun _ _ => False) (fun d h => by omega) T (G_read_number := G_read_number) (G_read_star := G_read_star) (G_read_side := ok_none fun _ _ h => h)
  | d + 1 => by
    have ih := ok_reads T G_read_number G_read_star d
    have s := ok_read_side (d := d) (F_read_from := F_rf d) rfl T ih
    have e : k + 1 + 2 * (d + 1) = (k + 1 + 2 * d + 1) + 1 := by omega
    rw [e]
    exact ok_read_from (F_read_side := F_rs d) (fun d' h => by rw [Nat.succ.inj h]) T (G_read_number := G_read_number.mono (by show k ≤ k + 1 + 2 * d + 1; omega)) (G_read_star := G_read_star.mono (by show k ≤ k + 1 + 2 * d + 1; omega)) (G_read_side := s)
def F_read_from : FSp := F_rf 16
def F_read : FSp := fun args P => ∃ (x : List Nat) (g : G), args = [some (.dat (.str (stC x)))] ∧ x.length ≤ 50000 ∧ CdOk x ∧ Tx 16 x g ∧ Sm g ∧ P (.dat (gD g)) [none]
theorem ok_read {k : Nat} (T : Txt K mg) (G_too_deep : FnOk P w K mg base CX0 k T.a_too_deep T.d_too_deep ["text"] (spD K F_too_deep)) (G_read_from : FnOk P w K mg base CX0 k T.a_read_from T.d_read_from ["text", "at"] (spD K F_read_from)) (G_is_game : FnOk P w K mg base CX0 k T.a_is_game T.d_is_game ["value"] (spD K F_is_game)) : FnOk P w K mg base CX0 (k + 1) T.a_read T.d_read ["text"] (spD K F_read) := by
  refine T.F_read.ok sc_read (fun vs H Q E h => spD_len (fun args P hF => ?_) h) (fun cdv A outer s H vs Q E hr h => ⟨_, (pss_cons (ps_if (pt_not (pt_val (pe_callB (call_isiX (K := K) rfl) rfl T.m_isinstance (by decide +kernel) (pa_cons (pv 0) (pa_cons (pe_bltn (v := .ty "str") (u := .type "str") rfl T.m_str (by decide +kernel) rfl) pa_nil)))))
  (pss_one ps_never)
  pss_nil)
  (pss_cons (ps_set (i := 1) sc_read.nd rfl (Or.inl rfl) (pe_call G_too_deep hr rfl T.g_too_deep T.F_too_deep.kp T.b_too_deep .nil pass0 (pa_cons (pv 0) pa_nil)))
  (pss_cons (ps_asg (pe_call G_read_from hr rfl T.g_read_from T.F_read_from.kp T.b_read_from .nil pass0 (pa_cons (pe_ifExp (pt_cmpR op_isN (pv 1) pe_non (nomark _)) (pv 0) (pe_op op_add_str (pe_slice sl_str (pv 0) po_none (po_some (pv 1))) pe_str)) (pa_cons pe_int pa_nil))) (pg_tupK (K := K) (n := 2) rfl rfl (pgs_cons (pg_name (i := 2) sc_read.nd rfl (Or.inl rfl)) (pgs_cons (pg_name (i := 3) sc_read.nd rfl (Or.inl rfl)) pgs_nil))))
  (pss_cons (ps_if (pt_cmpR op_lt (pv 3) (pe_callB call_len_str rfl T.m_len PySem.boot_len (pa_cons (pv 0) pa_nil)) (nomark _))
  (pss_one ps_never)
  pss_nil)
  (pss_cons (ps_if (pt_not (pt_val (pe_call G_is_game hr rfl T.g_is_game T.F_is_game.kp T.b_is_game .nil pass0 (pa_cons (pv 2) pa_nil))))
  (pss_one ps_never)
  pss_nil)
  (pss_one (ps_ret (pv 2)))))))), fn_run (N := ["text", "deep", "game", "at"]) h (fun A' Hz' => (ss_seq (ss_if (st_not (st_B (se_isi rfl se_var)))
  ss_never
  ss_next)
  (ss_seq (ss_asg (se_call (sa_cons se_var sa_nil)) sg_name)
  (ss_seq (ss_asg (se_call (sa_cons (se_if (st_test (se_op sr_isN se_var se_non)) se_var (se_op sr_addS (se_slS se_var so_none (so_some se_var)) se_str)) (sa_cons se_int sa_nil))) (sg_tup (sgs_cons sg_name (sgs_cons sg_name sgs_nil))))
  (ss_seq (ss_if (st_test (se_op (sr_I0 (fun _ _ => rfl)) se_var (se_cb1 sc_lenS se_var)))
  ss_never
  ss_next)
  (ss_seq (ss_if (st_not (st_B (se_call (sa_cons se_var sa_nil))))
  ss_never
  ss_next)
  (ss_ret se_var))))))) (fun args P hl hF => ?_)⟩)
  · obtain ⟨x, g, rfl, _⟩ := hF
    rfl
  obtain ⟨x, g, rfl, hx, hcd, ht, hg, hP⟩ := hF
  have hscan : scan 0 x = some 0 := by
    have := scan_tx 16 x g ht 0 [] (by decide)
    rw [List.append_nil] at this
    rw [this]
    rfl
  have spN : TXG.Sp [] := fun c hc => by cases hc
  simp -implicitDefEqProofs only [DL.WW, List.isEmpty_nil, List.map, List.length, List.length_cons, List.length_nil, List.length_set, List.replicate, List.append, List.cons_append, List.nil_append, List.append_nil, List.getElem?_cons_zero, List.getElem?_cons_succ, List.getElem?_nil, List.set_cons_zero, List.set_cons_succ, ↓reduceIte, Bool.false_eq_true, Bool.not_true, Bool.not_false, Bool.true_and, Bool.false_and, Bool.and_true, Bool.and_false, Bool.or_true, Bool.or_false, Bool.true_or, Bool.false_or, Nat.reduceAdd, Nat.reduceSub, Nat.reduceLT, Nat.reduceLeDiff, true_and, and_true, and_self, decide_eq_true_eq, Nat.zero_lt_succ, Nat.lt_add_left_iff_pos, beq_self_eq_true, String.reduceBEq, String.reduceEq, Nat.le_refl, Nat.zero_le, Bool.true_eq_false, decide_true, decide_false, Int.reduceEq, Int.reduceLT, Int.reduceLE, Int.reduceSub, Int.reduceAdd, DL.wIfT, DL.wListRg, DL.eSortT, DL.eAddS, DL.eInS, DL.eLenS, DL.wSlS, DL.wI2, DL.evd_mx, DL.evd_mn, DL.evd_gcd, DL.wIStr, DL.wIEnumS, DL.eJnL, DL.eJnT, DL.wJoin, DL.eStrI, DL.eIntS, DL.strsD_map]
  refine ⟨x, rfl, hx, hcd, hscan, ?_⟩
  simp -implicitDefEqProofs only [DL.WW, List.isEmpty_nil, List.map, List.length, List.length_cons, List.length_nil, List.length_set, List.replicate, List.append, List.cons_append, List.nil_append, List.append_nil, List.getElem?_cons_zero, List.getElem?_cons_succ, List.getElem?_nil, List.set_cons_zero, List.set_cons_succ, ↓reduceIte, Bool.false_eq_true, Bool.not_true, Bool.not_false, Bool.true_and, Bool.false_and, Bool.and_true, Bool.and_false, Bool.or_true, Bool.or_false, Bool.true_or, Bool.false_or, Nat.reduceAdd, Nat.reduceSub, Nat.reduceLT, Nat.reduceLeDiff, true_and, and_true, and_self, decide_eq_true_eq, Nat.zero_lt_succ, Nat.lt_add_left_iff_pos, beq_self_eq_true, String.reduceBEq, String.reduceEq, Nat.le_refl, Nat.zero_le, Bool.true_eq_false, decide_true, decide_false, Int.reduceEq, Int.reduceLT, Int.reduceLE, Int.reduceSub, Int.reduceAdd, DL.wIfT, DL.wListRg, DL.eSortT, DL.eAddS, DL.eInS, DL.eLenS, DL.wSlS, DL.wI2, DL.evd_mx, DL.evd_mn, DL.evd_gcd, DL.wIStr, DL.wIEnumS, DL.eJnL, DL.eJnT, DL.wJoin, DL.eStrI, DL.eIntS, DL.strsD_map]
  refine ⟨x, x, [], g, 0, rfl, ⟨hx, hcd, Nat.zero_le _⟩, by simp, ht, spN, ?_⟩
  simp -implicitDefEqProofs only [DL.WW, List.isEmpty_nil, List.map, List.length, List.length_cons, List.length_nil, List.length_set, List.replicate, List.append, List.cons_append, List.nil_append, List.append_nil, List.getElem?_cons_zero, List.getElem?_cons_succ, List.getElem?_nil, List.set_cons_zero, List.set_cons_succ, ↓reduceIte, Bool.false_eq_true, Bool.not_true, Bool.not_false, Bool.true_and, Bool.false_and, Bool.and_true, Bool.and_false, Bool.or_true, Bool.or_false, Bool.true_or, Bool.false_or, Nat.reduceAdd, Nat.reduceSub, Nat.reduceLT, Nat.reduceLeDiff, true_and, and_true, and_self, decide_eq_true_eq, Nat.zero_lt_succ, Nat.lt_add_left_iff_pos, beq_self_eq_true, String.reduceBEq, String.reduceEq, Nat.le_refl, Nat.zero_le, Bool.true_eq_false, decide_true, decide_false, Int.reduceEq, Int.reduceLT, Int.reduceLE, Int.reduceSub, Int.reduceAdd, DL.wIfT, DL.wListRg, DL.eSortT, DL.eAddS, DL.eInS, DL.eLenS, DL.wSlS, DL.wI2, DL.evd_mx, DL.evd_mn, DL.evd_gcd, DL.wIStr, DL.wIEnumS, DL.eJnL, DL.eJnT, DL.wJoin, DL.eStrI, DL.eIntS, DL.strsD_map, stC_len, Nat.zero_add, Int.lt_irrefl]
  refine ⟨Nat.le_trans hx (by decide), g, rfl, hg, ?_⟩
  simp -implicitDefEqProofs only [DL.WW, List.isEmpty_nil, List.map, List.length, List.length_cons, List.length_nil, List.length_set, List.replicate, List.append, List.cons_append, List.nil_append, List.append_nil, List.getElem?_cons_zero, List.getElem?_cons_succ, List.getElem?_nil, List.set_cons_zero, List.set_cons_succ, ↓reduceIte, Bool.false_eq_true, Bool.not_true, Bool.not_false, Bool.true_and, Bool.false_and, Bool.and_true, Bool.and_false, Bool.or_true, Bool.or_false, Bool.true_or, Bool.false_or, Nat.reduceAdd, Nat.reduceSub, Nat.reduceLT, Nat.reduceLeDiff, true_and, and_true, and_self, decide_eq_true_eq, Nat.zero_lt_succ, Nat.lt_add_left_iff_pos, beq_self_eq_true, String.reduceBEq, String.reduceEq, Nat.le_refl, Nat.zero_le, Bool.true_eq_false, decide_true, decide_false, Int.reduceEq, Int.reduceLT, Int.reduceLE, Int.reduceSub, Int.reduceAdd, DL.wIfT, DL.wListRg, DL.eSortT, DL.eAddS, DL.eInS, DL.eLenS, DL.wSlS, DL.wI2, DL.evd_mx, DL.evd_mn, DL.evd_gcd, DL.wIStr, DL.wIEnumS, DL.eJnL, DL.eJnT, DL.wJoin, DL.eStrI, DL.eIntS, DL.strsD_map]
  exact hP
end
end K06D


set_option Elab.async false
set_option linter.all false
set_option maxRecDepth 100000
set_option maxHeartbeats 4000000
namespace K06D
open PySem L2 TG DL K06
section
variable {P : Program} {w : World} {K : PySem.W.Frag} {mg : Str → Option Value} {base : Heap}
theorem ok_law_taken {k : Nat} (T : Txt K mg)  : FnOk P w K mg base CX0 (k + 1) T.a_law_taken T.d_law_taken ["_law_row", "_law_many"] (spD K F_law_taken) := by
  refine T.F_law_taken.ok sc_law_taken (fun vs H Q E h => spD_len (fun args P hF => ?_) h) (fun cdv A outer s H vs Q E hr h => ⟨_, (pss_cons (ps_if (pt_cmpR op_gt (pe_ix (ix_listK (K := K) rfl) (pv 0) pe_int (fun _ _ => rfl)) pe_int (nomark _))
  (pss_cons (ps_set (i := 2) sc_law_taken.nd rfl (Or.inl rfl) (pe_op op_mod (pe_callTy call_int1 rfl T.m_int (by decide +kernel) (pa_cons (pe_ix (ix_listK (K := K) rfl) (pv 0) pe_int (fun _ _ => rfl)) pa_nil)) (pv 1)))
  (pss_cons (ps_asg (pe_op op_fdiv (pe_ix (ix_listK (K := K) rfl) (pv 0) pe_int (fun _ _ => rfl)) (pv 1)) (pg_sub (pv 0) pe_int set_list))
  (pss_one (ps_ret (pv 2)))))
  pss_nil)
  (pss_cons (ps_asg (pe_op op_add (pe_ix (ix_listK (K := K) rfl) (pv 0) pe_int (fun _ _ => rfl)) pe_int) (pg_sub (pv 0) pe_int set_list))
  (pss_cons (ps_if (pt_cmpR op_gt (pe_ix (ix_listK (K := K) rfl) (pv 0) pe_int (fun _ _ => rfl)) (pe_callB (call_lenK (K := K) rfl) rfl T.m_len PySem.boot_len (pa_cons (pe_ix (ix_listK (K := K) rfl) (pv 0) pe_int (fun _ _ => rfl)) pa_nil)) (nomark _))
  (pss_cons (ps_asg (pe_op op_mod (pe_callTy call_int1 rfl T.m_int (by decide +kernel) (pa_cons (pe_op op_add (pe_op op_mul (pe_ix (ix_listK (K := K) rfl) (pv 0) pe_int (fun _ _ => rfl)) pe_int) pe_int) pa_nil)) pe_int) (pg_sub (pv 0) pe_int set_list))
  (pss_one (ps_ret (pe_op op_mod (pe_callTy call_int1 rfl T.m_int (by decide +kernel) (pa_cons (pe_op op_fdiv (pe_ix (ix_listK (K := K) rfl) (pv 0) pe_int (fun _ _ => rfl)) pe_int) pa_nil)) (pv 1)))))
  pss_nil)
  (pss_cons (ps_set (i := 3) sc_law_taken.nd rfl (Or.inl rfl) (pe_ix (ix_seqK (K := K) rfl) (pe_ix (ix_listK (K := K) rfl) (pv 0) pe_int (fun _ _ => rfl)) (pe_op op_sub (pe_ix (ix_listK (K := K) rfl) (pv 0) pe_int (fun _ _ => rfl)) pe_int) (fun _ _ => rfl)))
  (pss_cons (ps_asg (pe_op op_mod (pe_callTy call_int1 rfl T.m_int (by decide +kernel) (pa_cons (pe_op op_add (pe_op op_add (pe_op op_mul (pe_ix (ix_listK (K := K) rfl) (pv 0) pe_int (fun _ _ => rfl)) pe_int) (pv 3)) pe_int) pa_nil)) pe_int) (pg_sub (pv 0) pe_int set_list))
  (pss_cons (ps_if (pt_cmpR op_ge (pv 3) (pe_op op_pow pe_int pe_int) (nomark _))
  (pss_one (ps_asg (pe_op op_fdiv (pv 3) (pv 1)) (pg_sub (pv 0) pe_int set_list)))
  pss_nil)
  (pss_one (ps_ret (pe_op op_mod (pe_callTy call_int1 rfl T.m_int (by decide +kernel) (pa_cons (pv 3) pa_nil)) (pv 1)))))))))), fn_run (N := ["_law_row", "_law_many", "_law_found", "_law_cell"]) h (fun A' Hz' => (ss_seq (ss_if (st_test (se_op (sr_I0 (fun _ _ => rfl)) (se_op sr_ixL se_var se_int) se_int))
  (ss_seq (ss_asg (se_op (sr_I (fun _ _ => rfl)) (se_cb1 sc_int (se_op sr_ixL se_var se_int)) se_var) sg_name)
  (ss_seq (ss_asg (se_op (sr_I (fun _ _ => rfl)) (se_op sr_ixL se_var se_int) se_var) (sg_sub se_int))
  (ss_ret se_var)))
  ss_next)
  (ss_seq (ss_asg (se_op (sr_I0 (fun _ _ => rfl)) (se_op sr_ixL se_var se_int) se_int) (sg_sub se_int))
  (ss_seq (ss_if (st_test (se_op (sr_I0 (fun _ _ => rfl)) (se_op sr_ixL se_var se_int) (se_cb1 sc_len (se_op sr_ixL se_var se_int))))
  (ss_seq (ss_asg (se_op (sr_I (fun _ _ => rfl)) (se_cb1 sc_int (se_op (sr_I0 (fun _ _ => rfl)) (se_op (sr_I (fun _ _ => rfl)) (se_op sr_ixL se_var se_int) se_int) se_int)) se_int) (sg_sub se_int))
  (ss_ret (se_op (sr_I (fun _ _ => rfl)) (se_cb1 sc_int (se_op (sr_I (fun _ _ => rfl)) (se_op sr_ixL se_var se_int) se_int)) se_var)))
  ss_next)
  (ss_seq (ss_asg (se_op sr_ix (se_op sr_ixL se_var se_int) (se_op (sr_I0 (fun _ _ => rfl)) (se_op sr_ixL se_var se_int) se_int)) sg_name)
  (ss_seq (ss_asg (se_op (sr_I (fun _ _ => rfl)) (se_cb1 sc_int (se_op (sr_I0 (fun _ _ => rfl)) (se_op (sr_I0 (fun _ _ => rfl)) (se_op (sr_I (fun _ _ => rfl)) (se_op sr_ixL se_var se_int) se_int) se_var) se_int)) se_int) (sg_sub se_int))
  (ss_seq (ss_if (st_test (se_op (sr_I0 (fun _ _ => rfl)) se_var (se_op (sr_I (fun _ _ => rfl)) se_int se_int)))
  (ss_asg (se_op (sr_I (fun _ _ => rfl)) se_var se_var) (sg_sub se_int))
  ss_next)
  (ss_ret (se_op (sr_I (fun _ _ => rfl)) (se_cb1 sc_int se_var) se_var))))))))) (fun args P hl hF => ?_)⟩)
  · obtain ⟨o, m, rfl, _⟩ := hF
    rfl
  obtain ⟨o, m, rfl, ⟨ns, i, z, t, rfl, h1, h2⟩, ⟨m0, m1⟩, q⟩ := hF
  simp -implicitDefEqProofs only [DL.WW, List.isEmpty_nil, List.map, List.length, List.length_cons, List.length_nil, List.length_set, List.replicate, List.append, List.cons_append, List.nil_append, List.append_nil, List.getElem?_cons_zero, List.getElem?_cons_succ, List.getElem?_nil, List.set_cons_zero, List.set_cons_succ, ↓reduceIte, Bool.false_eq_true, Bool.not_true, Bool.not_false, Bool.true_and, Bool.false_and, Bool.and_true, Bool.and_false, Bool.or_true, Bool.or_false, Bool.true_or, Bool.false_or, Nat.reduceAdd, Nat.reduceSub, Nat.reduceLT, Nat.reduceLeDiff, true_and, and_true, and_self, decide_eq_true_eq, Nat.zero_lt_succ, Nat.lt_add_left_iff_pos, beq_self_eq_true, String.reduceBEq, String.reduceEq, Nat.le_refl, Nat.zero_le, Bool.true_eq_false, decide_true, decide_false, Int.reduceEq, Int.reduceLT, Int.reduceLE, Int.reduceSub, Int.reduceAdd, rowL_eq]
  have row : ∀ i' z' t' : Int, 0 ≤ i' → IsRow (.lst (rowL ns i' z' t')) := fun i' z' t' h => ⟨ns, i', z', t', rfl, h1, h⟩
  have fin : ∀ (x i' z' t' : Int), 0 ≤ i' → P (.dat (.int (x % m))) [some (.ob (some 0) (.lst [.list (ns.map PyData.int), .int i', .int z', .int t'])), none] := fun x i' z' t' hi =>
    q _ _ (row i' z' t' hi) (Int.emod_nonneg _ (by omega)) (Int.emod_lt_of_pos _ m0)
  by_cases c : 0 < t
  · rw [if_pos c]
    exact ⟨m0, ⟨m0, m1⟩, fin _ _ _ _ h2⟩
  · rw [if_neg c]
    simp -implicitDefEqProofs only [DL.WW, List.isEmpty_nil, List.map, List.length, List.length_cons, List.length_nil, List.length_set, List.replicate, List.append, List.cons_append, List.nil_append, List.append_nil, List.getElem?_cons_zero, List.getElem?_cons_succ, List.getElem?_nil, List.set_cons_zero, List.set_cons_succ, ↓reduceIte, Bool.false_eq_true, Bool.not_true, Bool.not_false, Bool.true_and, Bool.false_and, Bool.and_true, Bool.and_false, Bool.or_true, Bool.or_false, Bool.true_or, Bool.false_or, Nat.reduceAdd, Nat.reduceSub, Nat.reduceLT, Nat.reduceLeDiff, true_and, and_true, and_self, decide_eq_true_eq, Nat.zero_lt_succ, Nat.lt_add_left_iff_pos, beq_self_eq_true, String.reduceBEq, String.reduceEq, Nat.le_refl, Nat.zero_le, Bool.true_eq_false, decide_true, decide_false, Int.reduceEq, Int.reduceLT, Int.reduceLE, Int.reduceSub, Int.reduceAdd, List.length_map]
    by_cases c2 : ((ns.length : Nat) : Int) < i + 1
    · rw [if_pos c2]
      exact ⟨mul_small, ⟨by decide, by decide⟩, m0, fin _ _ _ _ (by omega)⟩
    · rw [if_neg c2]
      have hi : i.toNat < ns.length := by omega
      have hv : atI (ns.map PyData.int) (i + 1 - 1) = some (.int (ns[i.toNat])) := by
        have e : i + 1 - 1 = ((i.toNat : Nat) : Int) := by omega
        rw [e]
        exact atI_nat (by rw [List.getElem?_map, List.getElem?_eq_getElem hi]; rfl)
      simp -implicitDefEqProofs only [DL.WW, List.isEmpty_nil, List.map, List.length, List.length_cons, List.length_nil, List.length_set, List.replicate, List.append, List.cons_append, List.nil_append, List.append_nil, List.getElem?_cons_zero, List.getElem?_cons_succ, List.getElem?_nil, List.set_cons_zero, List.set_cons_succ, ↓reduceIte, Bool.false_eq_true, Bool.not_true, Bool.not_false, Bool.true_and, Bool.false_and, Bool.and_true, Bool.and_false, Bool.or_true, Bool.or_false, Bool.true_or, Bool.false_or, Nat.reduceAdd, Nat.reduceSub, Nat.reduceLT, Nat.reduceLeDiff, true_and, and_true, and_self, decide_eq_true_eq, Nat.zero_lt_succ, Nat.lt_add_left_iff_pos, beq_self_eq_true, String.reduceBEq, String.reduceEq, Nat.le_refl, Nat.zero_le, Bool.true_eq_false, decide_true, decide_false, Int.reduceEq, Int.reduceLT, Int.reduceLE, Int.reduceSub, Int.reduceAdd, hv]
      refine ⟨mul_small, ⟨by decide, by decide, by decide⟩, ?_⟩
      split
      · exact ⟨⟨m0, m1⟩, m0, fin _ _ _ _ (by omega)⟩
      · exact ⟨m0, fin _ _ _ _ (by omega)⟩
end
end K06D


set_option Elab.async false
set_option linter.all false
set_option maxRecDepth 100000
set_option maxHeartbeats 4000000
namespace K06D
open PySem L2 TG DL K06 SK TXG
section
variable {P : Program} {w : World} {K : PySem.W.Frag} {mg : Str → Option Value} {base : Heap}
def F_law_zero : FSp := fun args P => args = [] ∧ P (.dat (gD z)) []
theorem ok_law_zero {k : Nat} (T : Txt K mg)  : FnOk P w K mg base CX0 (k + 1) T.a_law_zero T.d_law_zero [] (spD K F_law_zero) := by
  refine T.F_law_zero.ok sc_law_zero (fun vs H Q E h => spD_len (fun args P hF => ?_) h) (fun cdv A outer s H vs Q E hr h => ⟨_, (pss_one (ps_ret (pe_tup (pa_cons (pe_tup pa_nil) (pa_cons (pe_tup pa_nil) pa_nil))))), fn_run (N := []) h (fun A' Hz' => (ss_ret (se_tup (sa_cons (se_tup sa_nil) (sa_cons (se_tup sa_nil) sa_nil))))) (fun args P hl hF => ?_)⟩)
  · obtain ⟨rfl, _⟩ := hF
    rfl
  obtain ⟨rfl, hP⟩ := hF
  simp -implicitDefEqProofs only [DL.WW, List.isEmpty_nil, List.map, List.length, List.length_cons, List.length_nil, List.length_set, List.replicate, List.append, List.cons_append, List.nil_append, List.append_nil, List.getElem?_cons_zero, List.getElem?_cons_succ, List.getElem?_nil, List.set_cons_zero, List.set_cons_succ, ↓reduceIte, Bool.false_eq_true, Bool.not_true, Bool.not_false, Bool.true_and, Bool.false_and, Bool.and_true, Bool.and_false, Bool.or_true, Bool.or_false, Bool.true_or, Bool.false_or, Nat.reduceAdd, Nat.reduceSub, Nat.reduceLT, Nat.reduceLeDiff, true_and, and_true, and_self, decide_eq_true_eq, Nat.zero_lt_succ, Nat.lt_add_left_iff_pos, beq_self_eq_true, String.reduceBEq, String.reduceEq, Nat.le_refl, Nat.zero_le, Bool.true_eq_false, decide_true, decide_false, Int.reduceEq, Int.reduceLT, Int.reduceLE, Int.reduceSub, Int.reduceAdd, DL.wIfT, DL.wListRg, DL.eSortT, DL.eAddS, DL.eInS, DL.eLenS, DL.wSlS, DL.wI2, DL.evd_mx, DL.evd_mn, DL.evd_gcd, DL.wIStr, DL.wIEnumS, DL.eJnL, DL.eJnT, DL.wJoin, DL.eStrI, DL.eIntS, DL.strsD_map, dZ]
  exact hP
def F_law_star : FSp := fun args P => args = [] ∧ P (.dat (gD star)) []
theorem ok_law_star {k : Nat} (T : Txt K mg)  : FnOk P w K mg base CX0 (k + 1) T.a_law_star T.d_law_star [] (spD K F_law_star) := by
  refine T.F_law_star.ok sc_law_star (fun vs H Q E h => spD_len (fun args P hF => ?_) h) (fun cdv A outer s H vs Q E hr h => ⟨_, (pss_one (ps_ret (pe_tup (pa_cons (pe_tup (pa_cons (pe_tup (pa_cons (pe_tup pa_nil) (pa_cons (pe_tup pa_nil) pa_nil))) pa_nil)) (pa_cons (pe_tup (pa_cons (pe_tup (pa_cons (pe_tup pa_nil) (pa_cons (pe_tup pa_nil) pa_nil))) pa_nil)) pa_nil))))), fn_run (N := []) h (fun A' Hz' => (ss_ret (se_tup (sa_cons (se_tup (sa_cons (se_tup (sa_cons (se_tup sa_nil) (sa_cons (se_tup sa_nil) sa_nil))) sa_nil)) (sa_cons (se_tup (sa_cons (se_tup (sa_cons (se_tup sa_nil) (sa_cons (se_tup sa_nil) sa_nil))) sa_nil)) sa_nil))))) (fun args P hl hF => ?_)⟩)
  · obtain ⟨rfl, _⟩ := hF
    rfl
  obtain ⟨rfl, hP⟩ := hF
  simp -implicitDefEqProofs only [DL.WW, List.isEmpty_nil, List.map, List.length, List.length_cons, List.length_nil, List.length_set, List.replicate, List.append, List.cons_append, List.nil_append, List.append_nil, List.getElem?_cons_zero, List.getElem?_cons_succ, List.getElem?_nil, List.set_cons_zero, List.set_cons_succ, ↓reduceIte, Bool.false_eq_true, Bool.not_true, Bool.not_false, Bool.true_and, Bool.false_and, Bool.and_true, Bool.and_false, Bool.or_true, Bool.or_false, Bool.true_or, Bool.false_or, Nat.reduceAdd, Nat.reduceSub, Nat.reduceLT, Nat.reduceLeDiff, true_and, and_true, and_self, decide_eq_true_eq, Nat.zero_lt_succ, Nat.lt_add_left_iff_pos, beq_self_eq_true, String.reduceBEq, String.reduceEq, Nat.le_refl, Nat.zero_le, Bool.true_eq_false, decide_true, decide_false, Int.reduceEq, Int.reduceLT, Int.reduceLE, Int.reduceSub, Int.reduceAdd, DL.wIfT, DL.wListRg, DL.eSortT, DL.eAddS, DL.eInS, DL.eLenS, DL.wSlS, DL.wI2, DL.evd_mx, DL.evd_mn, DL.evd_gcd, DL.wIStr, DL.wIEnumS, DL.eJnL, DL.eJnT, DL.wJoin, DL.eStrI, DL.eIntS, DL.strsD_map, dZ, dS]
  exact hP
def F_law_whole : FSp := fun args P => ∃ n : Int, args = [some (.dat (.int n))] ∧ (-3000 ≤ n ∧ n ≤ 3000) ∧ P (.dat (gD (iG n))) [none]
theorem ok_law_whole {k : Nat} (T : Txt K mg)  : FnOk P w K mg base CX0 (k + 1) T.a_law_whole T.d_law_whole ["_law_number_here"] (spD K F_law_whole) := by
  refine T.F_law_whole.ok sc_law_whole (fun vs H Q E h => spD_len (fun args P hF => ?_) h) (fun cdv A outer s H vs Q E hr h => ⟨_, (pss_cons (ps_set (i := 1) sc_law_whole.nd rfl (Or.inl rfl) (pe_tup (pa_cons (pe_tup pa_nil) (pa_cons (pe_tup pa_nil) pa_nil))))
  (pss_cons (ps_for PassesOwn.never rfl (pi_range1 rfl T.m_range (pa_cons (pe_callB call_abs rfl T.m_abs (by decide +kernel) (pa_cons (pv 0) pa_nil)) pa_nil)) (pg_name (i := 2) sc_law_whole.nd rfl (Or.inl rfl))
  (pss_one (ps_set (i := 1) sc_law_whole.nd rfl (Or.inl rfl) (pe_ifExp (pt_cmpR op_gt (pv 0) pe_int (nomark _)) (pe_tup (pa_cons (pe_tup (pa_cons (pv 1) pa_nil)) (pa_cons (pe_tup pa_nil) pa_nil))) (pe_tup (pa_cons (pe_tup pa_nil) (pa_cons (pe_tup (pa_cons (pv 1) pa_nil)) pa_nil)))))))
  (pss_one (ps_ret (pv 1))))), fn_run (N := ["_law_number_here", "_law_found", "_law_at"]) h (fun A' Hz' => (ss_seq (ss_asg (se_tup (sa_cons (se_tup sa_nil) (sa_cons (se_tup sa_nil) sa_nil))) sg_name)
  (ss_seq (ss_for (si_rng1 (se_cb1 sc_abs se_var)) sg_name
  (ss_asg (se_if (st_test (se_op (sr_I0 (fun _ _ => rfl)) se_var se_int)) (se_tup (sa_cons (se_tup (sa_cons se_var sa_nil)) (sa_cons (se_tup sa_nil) sa_nil))) (se_tup (sa_cons (se_tup sa_nil) (sa_cons (se_tup (sa_cons se_var sa_nil)) sa_nil)))) sg_name))
  (ss_ret se_var)))) (fun args P hl hF => ?_)⟩)
  · obtain ⟨n, rfl, _⟩ := hF
    rfl
  obtain ⟨n, rfl, hn, hP⟩ := hF
  simp -implicitDefEqProofs only [DL.WW, List.isEmpty_nil, List.map, List.length, List.length_cons, List.length_nil, List.length_set, List.replicate, List.append, List.cons_append, List.nil_append, List.append_nil, List.getElem?_cons_zero, List.getElem?_cons_succ, List.getElem?_nil, List.set_cons_zero, List.set_cons_succ, ↓reduceIte, Bool.false_eq_true, Bool.not_true, Bool.not_false, Bool.true_and, Bool.false_and, Bool.and_true, Bool.and_false, Bool.or_true, Bool.or_false, Bool.true_or, Bool.false_or, Nat.reduceAdd, Nat.reduceSub, Nat.reduceLT, Nat.reduceLeDiff, true_and, and_true, and_self, decide_eq_true_eq, Nat.zero_lt_succ, Nat.lt_add_left_iff_pos, beq_self_eq_true, String.reduceBEq, String.reduceEq, Nat.le_refl, Nat.zero_le, Bool.true_eq_false, decide_true, decide_false, Int.reduceEq, Int.reduceLT, Int.reduceLE, Int.reduceSub, Int.reduceAdd, DL.wIfT, DL.wListRg, DL.eSortT, DL.eAddS, DL.eInS, DL.eLenS, DL.wSlS, DL.wI2, DL.evd_mx, DL.evd_mn, DL.evd_gcd, DL.wIStr, DL.wIEnumS, DL.eJnL, DL.eJnT, DL.wJoin, DL.eStrI, DL.eIntS, DL.strsD_map]
  refine for_use ?_
  simp -implicitDefEqProofs only [DL.WW, List.isEmpty_nil, List.map, List.length, List.length_cons, List.length_nil, List.length_set, List.replicate, List.append, List.cons_append, List.nil_append, List.append_nil, List.getElem?_cons_zero, List.getElem?_cons_succ, List.getElem?_nil, List.set_cons_zero, List.set_cons_succ, ↓reduceIte, Bool.false_eq_true, Bool.not_true, Bool.not_false, Bool.true_and, Bool.false_and, Bool.and_true, Bool.and_false, Bool.or_true, Bool.or_false, Bool.true_or, Bool.false_or, Nat.reduceAdd, Nat.reduceSub, Nat.reduceLT, Nat.reduceLeDiff, true_and, and_true, and_self, decide_eq_true_eq, Nat.zero_lt_succ, Nat.lt_add_left_iff_pos, beq_self_eq_true, String.reduceBEq, String.reduceEq, Nat.le_refl, Nat.zero_le, Bool.true_eq_false, decide_true, decide_false, Int.reduceEq, Int.reduceLT, Int.reduceLE, Int.reduceSub, Int.reduceAdd, DL.wIfT, DL.wListRg, DL.eSortT, DL.eAddS, DL.eInS, DL.eLenS, DL.wSlS, DL.wI2, DL.evd_mx, DL.evd_mn, DL.evd_gcd, DL.wIStr, DL.wIEnumS, DL.eJnL, DL.eJnT, DL.wJoin, DL.eStrI, DL.eIntS, DL.strsD_map]
  have hk : (if n < 0 then -n else n).toNat = n.natAbs := by split <;> omega
  have hk2 : -3000 ≤ (if n < 0 then -n else n) ∧ (if n < 0 then -n else n) ≤ 3000 := by split <;> omega
  have hrl : ∀ m, (rangeD 0 m).length = m := fun m => by simp [rangeD]
  refine ⟨⟨by omega, by omega⟩, fun i e => ∃ z, e = [some (.dat (.int n)), some (.dat (nfD (itN (decide (0 < n)) i))), z], ⟨none, rfl⟩, ?_, ?_⟩
  · rintro i d e hd ⟨z, rfl⟩
    simp -implicitDefEqProofs only [DL.WW, List.isEmpty_nil, List.map, List.length, List.length_cons, List.length_nil, List.length_set, List.replicate, List.append, List.cons_append, List.nil_append, List.append_nil, List.getElem?_cons_zero, List.getElem?_cons_succ, List.getElem?_nil, List.set_cons_zero, List.set_cons_succ, ↓reduceIte, Bool.false_eq_true, Bool.not_true, Bool.not_false, Bool.true_and, Bool.false_and, Bool.and_true, Bool.and_false, Bool.or_true, Bool.or_false, Bool.true_or, Bool.false_or, Nat.reduceAdd, Nat.reduceSub, Nat.reduceLT, Nat.reduceLeDiff, true_and, and_true, and_self, decide_eq_true_eq, Nat.zero_lt_succ, Nat.lt_add_left_iff_pos, beq_self_eq_true, String.reduceBEq, String.reduceEq, Nat.le_refl, Nat.zero_le, Bool.true_eq_false, decide_true, decide_false, Int.reduceEq, Int.reduceLT, Int.reduceLE, Int.reduceSub, Int.reduceAdd, DL.wIfT, DL.wListRg, DL.eSortT, DL.eAddS, DL.eInS, DL.eLenS, DL.wSlS, DL.wI2, DL.evd_mx, DL.evd_mn, DL.evd_gcd, DL.wIStr, DL.wIEnumS, DL.eJnL, DL.eJnT, DL.wJoin, DL.eStrI, DL.eIntS, DL.strsD_map]
    by_cases c : 0 < n
    · simp -implicitDefEqProofs only [DL.WW, List.isEmpty_nil, List.map, List.length, List.length_cons, List.length_nil, List.length_set, List.replicate, List.append, List.cons_append, List.nil_append, List.append_nil, List.getElem?_cons_zero, List.getElem?_cons_succ, List.getElem?_nil, List.set_cons_zero, List.set_cons_succ, ↓reduceIte, Bool.false_eq_true, Bool.not_true, Bool.not_false, Bool.true_and, Bool.false_and, Bool.and_true, Bool.and_false, Bool.or_true, Bool.or_false, Bool.true_or, Bool.false_or, Nat.reduceAdd, Nat.reduceSub, Nat.reduceLT, Nat.reduceLeDiff, true_and, and_true, and_self, decide_eq_true_eq, Nat.zero_lt_succ, Nat.lt_add_left_iff_pos, beq_self_eq_true, String.reduceBEq, String.reduceEq, Nat.le_refl, Nat.zero_le, Bool.true_eq_false, decide_true, decide_false, Int.reduceEq, Int.reduceLT, Int.reduceLE, Int.reduceSub, Int.reduceAdd, DL.wIfT, DL.wListRg, DL.eSortT, DL.eAddS, DL.eInS, DL.eLenS, DL.wSlS, DL.wI2, DL.evd_mx, DL.evd_mn, DL.evd_gcd, DL.wIStr, DL.wIEnumS, DL.eJnL, DL.eJnT, DL.wJoin, DL.eStrI, DL.eIntS, DL.strsD_map, c, nfD, itT, itF]
      exact ⟨_, rfl⟩
    · simp -implicitDefEqProofs only [DL.WW, List.isEmpty_nil, List.map, List.length, List.length_cons, List.length_nil, List.length_set, List.replicate, List.append, List.cons_append, List.nil_append, List.append_nil, List.getElem?_cons_zero, List.getElem?_cons_succ, List.getElem?_nil, List.set_cons_zero, List.set_cons_succ, ↓reduceIte, Bool.false_eq_true, Bool.not_true, Bool.not_false, Bool.true_and, Bool.false_and, Bool.and_true, Bool.and_false, Bool.or_true, Bool.or_false, Bool.true_or, Bool.false_or, Nat.reduceAdd, Nat.reduceSub, Nat.reduceLT, Nat.reduceLeDiff, true_and, and_true, and_self, decide_eq_true_eq, Nat.zero_lt_succ, Nat.lt_add_left_iff_pos, beq_self_eq_true, String.reduceBEq, String.reduceEq, Nat.le_refl, Nat.zero_le, Bool.true_eq_false, decide_true, decide_false, Int.reduceEq, Int.reduceLT, Int.reduceLE, Int.reduceSub, Int.reduceAdd, DL.wIfT, DL.wListRg, DL.eSortT, DL.eAddS, DL.eInS, DL.eLenS, DL.wSlS, DL.wI2, DL.evd_mx, DL.evd_mn, DL.evd_gcd, DL.wIStr, DL.wIEnumS, DL.eJnL, DL.eJnT, DL.wJoin, DL.eStrI, DL.eIntS, DL.strsD_map, c, nfD, itT, itF]
      exact ⟨_, rfl⟩
  · rintro e ⟨z, rfl⟩
    rw [hrl, hk]
    simp -implicitDefEqProofs only [DL.WW, List.isEmpty_nil, List.map, List.length, List.length_cons, List.length_nil, List.length_set, List.replicate, List.append, List.cons_append, List.nil_append, List.append_nil, List.getElem?_cons_zero, List.getElem?_cons_succ, List.getElem?_nil, List.set_cons_zero, List.set_cons_succ, ↓reduceIte, Bool.false_eq_true, Bool.not_true, Bool.not_false, Bool.true_and, Bool.false_and, Bool.and_true, Bool.and_false, Bool.or_true, Bool.or_false, Bool.true_or, Bool.false_or, Nat.reduceAdd, Nat.reduceSub, Nat.reduceLT, Nat.reduceLeDiff, true_and, and_true, and_self, decide_eq_true_eq, Nat.zero_lt_succ, Nat.lt_add_left_iff_pos, beq_self_eq_true, String.reduceBEq, String.reduceEq, Nat.le_refl, Nat.zero_le, Bool.true_eq_false, decide_true, decide_false, Int.reduceEq, Int.reduceLT, Int.reduceLE, Int.reduceSub, Int.reduceAdd, DL.wIfT, DL.wListRg, DL.eSortT, DL.eAddS, DL.eInS, DL.eLenS, DL.wSlS, DL.wI2, DL.evd_mx, DL.evd_mn, DL.evd_gcd, DL.wIStr, DL.wIEnumS, DL.eJnL, DL.eJnT, DL.wJoin, DL.eStrI, DL.eIntS, DL.strsD_map, nfD_nG]
    exact hP
def F_law_nimber : FSp := fun args P => ∃ k : Nat, args = [some (.dat (.int (k : Int)))] ∧ k ≤ 10 ∧ P (.dat (gD (nimG k))) [none]
theorem ok_law_nimber {k : Nat} (T : Txt K mg)  : FnOk P w K mg base CX0 (k + 1) T.a_law_nimber T.d_law_nimber ["_law_size"] (spD K F_law_nimber) := by
  refine T.F_law_nimber.ok sc_law_nimber (fun vs H Q E h => spD_len (fun args P hF => ?_) h) (fun cdv A outer s H vs Q E hr h => ⟨_, (pss_cons (ps_set (i := 1) sc_law_nimber.nd rfl (Or.inl rfl) (pe_lst pa_nil))
  (pss_cons (ps_for PassesOwn.never rfl (pi_range1 rfl T.m_range (pa_cons (pv 0) pa_nil)) (pg_name (i := 2) sc_law_nimber.nd rfl (Or.inl rfl))
  (pss_one (ps_set (i := 1) sc_law_nimber.nd rfl (Or.inl rfl) (pe_op (op_catQ (K := K) rfl) (pv 1) (pe_lst (pa_cons (pe_tup (pa_cons (pe_callTy (call_tuple_ofK (K := K) rfl) rfl T.m_tuple (by decide +kernel) (pa_cons (pv 1) pa_nil)) (pa_cons (pe_callTy (call_tuple_ofK (K := K) rfl) rfl T.m_tuple (by decide +kernel) (pa_cons (pv 1) pa_nil)) pa_nil))) pa_nil))))))
  (pss_one (ps_ret (pe_tup (pa_cons (pe_callTy (call_tuple_ofK (K := K) rfl) rfl T.m_tuple (by decide +kernel) (pa_cons (pv 1) pa_nil)) (pa_cons (pe_callTy (call_tuple_ofK (K := K) rfl) rfl T.m_tuple (by decide +kernel) (pa_cons (pv 1) pa_nil)) pa_nil))))))), fn_run (N := ["_law_size", "_law_rows", "_law_at"]) h (fun A' Hz' => (ss_seq (ss_asg (se_lst sa_nil) sg_name)
  (ss_seq (ss_for (si_rng1 se_var) sg_name
  (ss_asg (se_op sr_cat se_var (se_lst (sa_cons (se_tup (sa_cons (se_cb1 sc_tupOf se_var) (sa_cons (se_cb1 sc_tupOf se_var) sa_nil))) sa_nil))) sg_name))
  (ss_ret (se_tup (sa_cons (se_cb1 sc_tupOf se_var) (sa_cons (se_cb1 sc_tupOf se_var) sa_nil))))))) (fun args P hl hF => ?_)⟩)
  · obtain ⟨k, rfl, _⟩ := hF
    rfl
  obtain ⟨k, rfl, hk, hP⟩ := hF
  simp -implicitDefEqProofs only [DL.WW, List.isEmpty_nil, List.map, List.length, List.length_cons, List.length_nil, List.length_set, List.replicate, List.append, List.cons_append, List.nil_append, List.append_nil, List.getElem?_cons_zero, List.getElem?_cons_succ, List.getElem?_nil, List.set_cons_zero, List.set_cons_succ, ↓reduceIte, Bool.false_eq_true, Bool.not_true, Bool.not_false, Bool.true_and, Bool.false_and, Bool.and_true, Bool.and_false, Bool.or_true, Bool.or_false, Bool.true_or, Bool.false_or, Nat.reduceAdd, Nat.reduceSub, Nat.reduceLT, Nat.reduceLeDiff, true_and, and_true, and_self, decide_eq_true_eq, Nat.zero_lt_succ, Nat.lt_add_left_iff_pos, beq_self_eq_true, String.reduceBEq, String.reduceEq, Nat.le_refl, Nat.zero_le, Bool.true_eq_false, decide_true, decide_false, Int.reduceEq, Int.reduceLT, Int.reduceLE, Int.reduceSub, Int.reduceAdd, DL.wIfT, DL.wListRg, DL.eSortT, DL.eAddS, DL.eInS, DL.eLenS, DL.wSlS, DL.wI2, DL.evd_mx, DL.evd_mn, DL.evd_gcd, DL.wIStr, DL.wIEnumS, DL.eJnL, DL.eJnT, DL.wJoin, DL.eStrI, DL.eIntS, DL.strsD_map]
  refine for_use ?_
  simp -implicitDefEqProofs only [DL.WW, List.isEmpty_nil, List.map, List.length, List.length_cons, List.length_nil, List.length_set, List.replicate, List.append, List.cons_append, List.nil_append, List.append_nil, List.getElem?_cons_zero, List.getElem?_cons_succ, List.getElem?_nil, List.set_cons_zero, List.set_cons_succ, ↓reduceIte, Bool.false_eq_true, Bool.not_true, Bool.not_false, Bool.true_and, Bool.false_and, Bool.and_true, Bool.and_false, Bool.or_true, Bool.or_false, Bool.true_or, Bool.false_or, Nat.reduceAdd, Nat.reduceSub, Nat.reduceLT, Nat.reduceLeDiff, true_and, and_true, and_self, decide_eq_true_eq, Nat.zero_lt_succ, Nat.lt_add_left_iff_pos, beq_self_eq_true, String.reduceBEq, String.reduceEq, Nat.le_refl, Nat.zero_le, Bool.true_eq_false, decide_true, decide_false, Int.reduceEq, Int.reduceLT, Int.reduceLE, Int.reduceSub, Int.reduceAdd, DL.wIfT, DL.wListRg, DL.eSortT, DL.eAddS, DL.eInS, DL.eLenS, DL.wSlS, DL.wI2, DL.evd_mx, DL.evd_mn, DL.evd_gcd, DL.wIStr, DL.wIEnumS, DL.eJnL, DL.eJnT, DL.wJoin, DL.eStrI, DL.eIntS, DL.strsD_map]
  have hrl : ∀ m, (rangeD 0 m).length = m := fun m => by simp [rangeD]
  have nl : ∀ k, (nimL k).length = k := fun k => by
    induction k with
    | zero => rfl
    | succ k ih => rw [nimL, List.length_append, ih]; rfl
  refine ⟨⟨by omega, by omega⟩, fun i e => ∃ z, e = [some (.dat (.int k)), some (.ob none (.lst ((nimL i).map gD))), z], ⟨none, rfl⟩, ?_, ?_⟩
  · rintro i d e hd ⟨z, rfl⟩
    have hi := (List.getElem?_eq_some_iff.mp hd).1
    rw [hrl] at hi
    simp -implicitDefEqProofs only [DL.WW, List.isEmpty_nil, List.map, List.length, List.length_cons, List.length_nil, List.length_set, List.replicate, List.append, List.cons_append, List.nil_append, List.append_nil, List.getElem?_cons_zero, List.getElem?_cons_succ, List.getElem?_nil, List.set_cons_zero, List.set_cons_succ, ↓reduceIte, Bool.false_eq_true, Bool.not_true, Bool.not_false, Bool.true_and, Bool.false_and, Bool.and_true, Bool.and_false, Bool.or_true, Bool.or_false, Bool.true_or, Bool.false_or, Nat.reduceAdd, Nat.reduceSub, Nat.reduceLT, Nat.reduceLeDiff, true_and, and_true, and_self, decide_eq_true_eq, Nat.zero_lt_succ, Nat.lt_add_left_iff_pos, beq_self_eq_true, String.reduceBEq, String.reduceEq, Nat.le_refl, Nat.zero_le, Bool.true_eq_false, decide_true, decide_false, Int.reduceEq, Int.reduceLT, Int.reduceLE, Int.reduceSub, Int.reduceAdd, DL.wIfT, DL.wListRg, DL.eSortT, DL.eAddS, DL.eInS, DL.eLenS, DL.wSlS, DL.wI2, DL.evd_mx, DL.evd_mn, DL.evd_gcd, DL.wIStr, DL.wIEnumS, DL.eJnL, DL.eJnT, DL.wJoin, DL.eStrI, DL.eIntS, DL.strsD_map, List.length_map, nl]
    refine ⟨Nat.le_trans (show i + 1 ≤ 100 by omega) (by decide), some (.dat d), ?_⟩
    rw [nimL, List.map_append, List.map_singleton, gD_mk]
  · rintro e ⟨z, rfl⟩
    rw [hrl]
    simp -implicitDefEqProofs only [DL.WW, List.isEmpty_nil, List.map, List.length, List.length_cons, List.length_nil, List.length_set, List.replicate, List.append, List.cons_append, List.nil_append, List.append_nil, List.getElem?_cons_zero, List.getElem?_cons_succ, List.getElem?_nil, List.set_cons_zero, List.set_cons_succ, ↓reduceIte, Bool.false_eq_true, Bool.not_true, Bool.not_false, Bool.true_and, Bool.false_and, Bool.and_true, Bool.and_false, Bool.or_true, Bool.or_false, Bool.true_or, Bool.false_or, Nat.reduceAdd, Nat.reduceSub, Nat.reduceLT, Nat.reduceLeDiff, true_and, and_true, and_self, decide_eq_true_eq, Nat.zero_lt_succ, Nat.lt_add_left_iff_pos, beq_self_eq_true, String.reduceBEq, String.reduceEq, Nat.le_refl, Nat.zero_le, Bool.true_eq_false, decide_true, decide_false, Int.reduceEq, Int.reduceLT, Int.reduceLE, Int.reduceSub, Int.reduceAdd, DL.wIfT, DL.wListRg, DL.eSortT, DL.eAddS, DL.eInS, DL.eLenS, DL.wSlS, DL.wI2, DL.evd_mx, DL.evd_mn, DL.evd_gcd, DL.wIStr, DL.wIEnumS, DL.eJnL, DL.eJnT, DL.wJoin, DL.eStrI, DL.eIntS, DL.strsD_map]
    unfold nimG at hP
    rw [gD_mk] at hP
    exact hP
def F_ln (f : Nat) : FSp := fun args P => ∃ (p : Int) (a : Nat), args = [some (.dat (.int p)), some (.dat (.int ((2 ^ a : Nat) : Int)))] ∧ (red a p).2 ≤ f ∧ a ≤ 6 ∧ p.natAbs + f ≤ 3000 ∧ P (.dat (gD (nG (numN f (red a p).1 (red a p).2)))) [none, none]
section
variable {f : Nat} {Fi : FSp} (hE : ∀ m', f = m' + 1 → Fi = F_ln m')
include hE
theorem ok_law_number {k : Nat} (T : Txt K mg) (G_law_whole : FnOk P w K mg base CX0 k T.a_law_whole T.d_law_whole ["_law_number_here"] (spD K F_law_whole)) (G_law_number : FnOk P w K mg base CX0 k T.a_law_number T.d_law_number ["_law_top", "_law_bottom"] (spD K Fi)) : FnOk P w K mg base CX0 (k + 1) T.a_law_number T.d_law_number ["_law_top", "_law_bottom"] (spD K (F_ln f)) := by
  refine T.F_law_number.ok sc_law_number (fun vs H Q E h => spD_len (fun args P hF => ?_) h) (fun cdv A outer s H vs Q E hr h => ⟨_, (pss_cons (ps_for PassesOwn.never rfl (pi_range1 rfl T.m_range (pa_cons pe_int pa_nil)) (pg_name (i := 2) sc_law_number.nd rfl (Or.inl rfl))
  (pss_one (ps_if (PW.pt (pw_and (pt_cmpR (op_eqDK (K := K) rfl hr.units) (pe_op op_mod (pe_callTy call_int1 rfl T.m_int (by decide +kernel) (pa_cons (pv 0) pa_nil)) pe_int) pe_int (nomark _)) (pw_and1 (pt_cmpR op_gt (pv 1) pe_int (nomark _)))))
  (pss_one (ps_par (i := 0) (j := 1) rfl sc_law_number.nd rfl rfl (by decide) rfl rfl (pa_cons (pe_op op_fdiv (pv 0) pe_int) (pa_cons (pe_op op_fdiv (pv 1) pe_int) pa_nil)) rfl))
  pss_nil)))
  (pss_cons (ps_if (pt_cmpR (op_eqDK (K := K) rfl hr.units) (pv 1) pe_int (nomark _))
  (pss_one (ps_ret (pe_call G_law_whole hr rfl T.g_law_whole T.F_law_whole.kp T.b_law_whole .nil pass0 (pa_cons (pv 0) pa_nil))))
  pss_nil)
  (pss_one (ps_ret (pe_tup (pa_cons (pe_tup (pa_cons (pe_call G_law_number hr rfl T.g_law_number T.F_law_number.kp T.b_law_number .nil pass0 (pa_cons (pe_op op_sub (pv 0) pe_int) (pa_cons (pv 1) pa_nil))) pa_nil)) (pa_cons (pe_tup (pa_cons (pe_call G_law_number hr rfl T.g_law_number T.F_law_number.kp T.b_law_number .nil pass0 (pa_cons (pe_op op_add (pv 0) pe_int) (pa_cons (pv 1) pa_nil))) pa_nil)) pa_nil))))))), fn_run (N := ["_law_top", "_law_bottom", "_law_turn"]) h (fun A' Hz' => (ss_seq (ss_for (si_rng1 se_int) sg_name
  (ss_if (st_and (st_test (se_op sr_eqD (se_op (sr_I (fun _ _ => rfl)) (se_cb1 sc_int se_var) se_int) se_int)) (st_test (se_op (sr_I0 (fun _ _ => rfl)) se_var se_int)))
  (ss_par (by decide) (se_op (sr_I (fun _ _ => rfl)) se_var se_int) (se_op (sr_I (fun _ _ => rfl)) se_var se_int))
  ss_next))
  (ss_seq (ss_if (st_test (se_op sr_eqD se_var se_int))
  (ss_ret (se_call (sa_cons se_var sa_nil)))
  ss_next)
  (ss_ret (se_tup (sa_cons (se_tup (sa_cons (se_call (sa_cons (se_op (sr_I0 (fun _ _ => rfl)) se_var se_int) (sa_cons se_var sa_nil))) sa_nil)) (sa_cons (se_tup (sa_cons (se_call (sa_cons (se_op (sr_I0 (fun _ _ => rfl)) se_var se_int) (sa_cons se_var sa_nil))) sa_nil)) sa_nil))))))) (fun args P hl hF => ?_)⟩)
  · obtain ⟨p, a, rfl, _⟩ := hF
    rfl
  obtain ⟨p, a, rfl, ha, ha6, hp, hP⟩ := hF
  simp -implicitDefEqProofs only [DL.WW, List.isEmpty_nil, List.map, List.length, List.length_cons, List.length_nil, List.length_set, List.replicate, List.append, List.cons_append, List.nil_append, List.append_nil, List.getElem?_cons_zero, List.getElem?_cons_succ, List.getElem?_nil, List.set_cons_zero, List.set_cons_succ, ↓reduceIte, Bool.false_eq_true, Bool.not_true, Bool.not_false, Bool.true_and, Bool.false_and, Bool.and_true, Bool.and_false, Bool.or_true, Bool.or_false, Bool.true_or, Bool.false_or, Nat.reduceAdd, Nat.reduceSub, Nat.reduceLT, Nat.reduceLeDiff, true_and, and_true, and_self, decide_eq_true_eq, Nat.zero_lt_succ, Nat.lt_add_left_iff_pos, beq_self_eq_true, String.reduceBEq, String.reduceEq, Nat.le_refl, Nat.zero_le, Bool.true_eq_false, decide_true, decide_false, Int.reduceEq, Int.reduceLT, Int.reduceLE, Int.reduceSub, Int.reduceAdd, DL.wIfT, DL.wListRg, DL.eSortT, DL.eAddS, DL.eInS, DL.eLenS, DL.wSlS, DL.wI2, DL.evd_mx, DL.evd_mn, DL.evd_gcd, DL.wIStr, DL.wIEnumS, DL.eJnL, DL.eJnT, DL.wJoin, DL.eStrI, DL.eIntS, DL.strsD_map]
  refine for_use ?_
  simp -implicitDefEqProofs only [DL.WW, List.isEmpty_nil, List.map, List.length, List.length_cons, List.length_nil, List.length_set, List.replicate, List.append, List.cons_append, List.nil_append, List.append_nil, List.getElem?_cons_zero, List.getElem?_cons_succ, List.getElem?_nil, List.set_cons_zero, List.set_cons_succ, ↓reduceIte, Bool.false_eq_true, Bool.not_true, Bool.not_false, Bool.true_and, Bool.false_and, Bool.and_true, Bool.and_false, Bool.or_true, Bool.or_false, Bool.true_or, Bool.false_or, Nat.reduceAdd, Nat.reduceSub, Nat.reduceLT, Nat.reduceLeDiff, true_and, and_true, and_self, decide_eq_true_eq, Nat.zero_lt_succ, Nat.lt_add_left_iff_pos, beq_self_eq_true, String.reduceBEq, String.reduceEq, Nat.le_refl, Nat.zero_le, Bool.true_eq_false, decide_true, decide_false, Int.reduceEq, Int.reduceLT, Int.reduceLE, Int.reduceSub, Int.reduceAdd, DL.wIfT, DL.wListRg, DL.eSortT, DL.eAddS, DL.eInS, DL.eLenS, DL.wSlS, DL.wI2, DL.evd_mx, DL.evd_mn, DL.evd_gcd, DL.wIStr, DL.wIEnumS, DL.eJnL, DL.eJnT, DL.wJoin, DL.eStrI, DL.eIntS, DL.strsD_map]
  have hrl : ∀ m, (rangeD 0 m).length = m := fun m => by simp [rangeD]
  refine ⟨⟨by decide, by decide⟩, fun i e => ∃ (n : Int) (b : Nat) (z : Option B), red b n = red a p ∧ (b + i ≤ a ∨ b = 0 ∨ n % 2 = 1) ∧ e = [some (.dat (.int n)), some (.dat (.int ((2 ^ b : Nat) : Int))), z], ⟨p, a, none, rfl, .inl (by omega), rfl⟩, ?_, ?_⟩
  · rintro i d e hd ⟨n, b, z, hr, hb, rfl⟩
    simp -implicitDefEqProofs only [DL.WW, List.isEmpty_nil, List.map, List.length, List.length_cons, List.length_nil, List.length_set, List.replicate, List.append, List.cons_append, List.nil_append, List.append_nil, List.getElem?_cons_zero, List.getElem?_cons_succ, List.getElem?_nil, List.set_cons_zero, List.set_cons_succ, ↓reduceIte, Bool.false_eq_true, Bool.not_true, Bool.not_false, Bool.true_and, Bool.false_and, Bool.and_true, Bool.and_false, Bool.or_true, Bool.or_false, Bool.true_or, Bool.false_or, Nat.reduceAdd, Nat.reduceSub, Nat.reduceLT, Nat.reduceLeDiff, true_and, and_true, and_self, decide_eq_true_eq, Nat.zero_lt_succ, Nat.lt_add_left_iff_pos, beq_self_eq_true, String.reduceBEq, String.reduceEq, Nat.le_refl, Nat.zero_le, Bool.true_eq_false, decide_true, decide_false, Int.reduceEq, Int.reduceLT, Int.reduceLE, Int.reduceSub, Int.reduceAdd, DL.wIfT, DL.wListRg, DL.eSortT, DL.eAddS, DL.eInS, DL.eLenS, DL.wSlS, DL.wI2, DL.evd_mx, DL.evd_mn, DL.evd_gcd, DL.wIStr, DL.wIEnumS, DL.eJnL, DL.eJnT, DL.wJoin, DL.eStrI, DL.eIntS, DL.strsD_map]
    by_cases c : n % 2 = 0
    · rw [if_pos c]
      cases b with
      | zero =>
        rw [if_neg (by decide)]
        exact ⟨n, 0, _, hr, .inr (.inl rfl), rfl⟩
      | succ b =>
        have p0 := Nat.pow_pos (n := b) (show 0 < 2 by decide)
        have e1 : ((2 ^ (b + 1) : Nat) : Int) = ((2 ^ b : Nat) : Int) * 2 := by rw [Nat.pow_succ, Int.natCast_mul]; rfl
        have e2 : ((2 ^ b : Nat) : Int) * 2 / 2 = ((2 ^ b : Nat) : Int) := by omega
        rw [if_pos (by omega), e1, e2]
        refine ⟨⟨by decide, by decide⟩, ⟨by decide, by decide⟩, n / 2, b, _, ?_, ?_, rfl⟩
        · rw [← hr]
          show red b (n / 2) = if n % 2 = 0 then red b (n / 2) else (n, b + 1)
          rw [if_pos c]
        · rcases hb with h | h | h
          · exact .inl (by omega)
          · omega
          · omega
    · rw [if_neg c]
      exact ⟨n, b, _, hr, .inr (.inr (by omega)), rfl⟩
  · rintro e ⟨n, b, z, hr, hb, rfl⟩
    rw [hrl] at hb
    simp -implicitDefEqProofs only [DL.WW, List.isEmpty_nil, List.map, List.length, List.length_cons, List.length_nil, List.length_set, List.replicate, List.append, List.cons_append, List.nil_append, List.append_nil, List.getElem?_cons_zero, List.getElem?_cons_succ, List.getElem?_nil, List.set_cons_zero, List.set_cons_succ, ↓reduceIte, Bool.false_eq_true, Bool.not_true, Bool.not_false, Bool.true_and, Bool.false_and, Bool.and_true, Bool.and_false, Bool.or_true, Bool.or_false, Bool.true_or, Bool.false_or, Nat.reduceAdd, Nat.reduceSub, Nat.reduceLT, Nat.reduceLeDiff, true_and, and_true, and_self, decide_eq_true_eq, Nat.zero_lt_succ, Nat.lt_add_left_iff_pos, beq_self_eq_true, String.reduceBEq, String.reduceEq, Nat.le_refl, Nat.zero_le, Bool.true_eq_false, decide_true, decide_false, Int.reduceEq, Int.reduceLT, Int.reduceLE, Int.reduceSub, Int.reduceAdd, DL.wIfT, DL.wListRg, DL.eSortT, DL.eAddS, DL.eInS, DL.eLenS, DL.wSlS, DL.wI2, DL.evd_mx, DL.evd_mn, DL.evd_gcd, DL.wIStr, DL.wIEnumS, DL.eJnL, DL.eJnT, DL.wJoin, DL.eStrI, DL.eIntS, DL.strsD_map]
    have hst : red b n = (n, b) := by
      cases b with
      | zero => rfl
      | succ b =>
        have : n % 2 = 1 := by omega
        show (if n % 2 = 0 then red b (n / 2) else (n, b + 1)) = _
        rw [if_neg (by omega)]
    have rok := red_ok a p
    rw [← hr, hst] at hP ha rok
    dsimp only at hP ha rok
    cases b with
    | zero =>
      rw [if_pos (by rfl)]
      rw [num0] at hP
      refine ⟨n, rfl, ⟨by omega, by omega⟩, ?_⟩
      simp -implicitDefEqProofs only [DL.WW, List.isEmpty_nil, List.map, List.length, List.length_cons, List.length_nil, List.length_set, List.replicate, List.append, List.cons_append, List.nil_append, List.append_nil, List.getElem?_cons_zero, List.getElem?_cons_succ, List.getElem?_nil, List.set_cons_zero, List.set_cons_succ, ↓reduceIte, Bool.false_eq_true, Bool.not_true, Bool.not_false, Bool.true_and, Bool.false_and, Bool.and_true, Bool.and_false, Bool.or_true, Bool.or_false, Bool.true_or, Bool.false_or, Nat.reduceAdd, Nat.reduceSub, Nat.reduceLT, Nat.reduceLeDiff, true_and, and_true, and_self, decide_eq_true_eq, Nat.zero_lt_succ, Nat.lt_add_left_iff_pos, beq_self_eq_true, String.reduceBEq, String.reduceEq, Nat.le_refl, Nat.zero_le, Bool.true_eq_false, decide_true, decide_false, Int.reduceEq, Int.reduceLT, Int.reduceLE, Int.reduceSub, Int.reduceAdd, DL.wIfT, DL.wListRg, DL.eSortT, DL.eAddS, DL.eInS, DL.eLenS, DL.wSlS, DL.wI2, DL.evd_mx, DL.evd_mn, DL.evd_gcd, DL.wIStr, DL.wIEnumS, DL.eJnL, DL.eJnT, DL.wJoin, DL.eStrI, DL.eIntS, DL.strsD_map]
      exact hP
    | succ b =>
      have hodd : n % 2 = 1 := by omega
      have p0 := Nat.pow_pos (n := b) (show 0 < 2 by decide)
      have hne : ¬ ((2 ^ (b + 1) : Nat) : Int) = 1 := by rw [Nat.pow_succ]; omega
      rw [if_neg hne]
      obtain ⟨f, rfl⟩ : ∃ f', f = f' + 1 := ⟨f - 1, by omega⟩
      have hFi := hE f rfl
      subst hFi
      have r1 : ∀ q : Int, q % 2 = 0 → (red (b + 1) q).2 ≤ f := fun q hq => by
        have e : red (b + 1) q = red b (q / 2) := if_pos hq
        rw [e]
        have := (red_ok b (q / 2)).1
        omega
      simp only [numN, Nat.add_eq_zero_iff, Nat.one_ne_zero, and_false, ↓reduceIte, nG, gD_mk, List.map_cons, List.map_nil] at hP
      refine ⟨n - 1, b + 1, rfl, r1 _ (by omega), by omega, by omega, ?_⟩
      simp -implicitDefEqProofs only [DL.WW, List.isEmpty_nil, List.map, List.length, List.length_cons, List.length_nil, List.length_set, List.replicate, List.append, List.cons_append, List.nil_append, List.append_nil, List.getElem?_cons_zero, List.getElem?_cons_succ, List.getElem?_nil, List.set_cons_zero, List.set_cons_succ, ↓reduceIte, Bool.false_eq_true, Bool.not_true, Bool.not_false, Bool.true_and, Bool.false_and, Bool.and_true, Bool.and_false, Bool.or_true, Bool.or_false, Bool.true_or, Bool.false_or, Nat.reduceAdd, Nat.reduceSub, Nat.reduceLT, Nat.reduceLeDiff, true_and, and_true, and_self, decide_eq_true_eq, Nat.zero_lt_succ, Nat.lt_add_left_iff_pos, beq_self_eq_true, String.reduceBEq, String.reduceEq, Nat.le_refl, Nat.zero_le, Bool.true_eq_false, decide_true, decide_false, Int.reduceEq, Int.reduceLT, Int.reduceLE, Int.reduceSub, Int.reduceAdd, DL.wIfT, DL.wListRg, DL.eSortT, DL.eAddS, DL.eInS, DL.eLenS, DL.wSlS, DL.wI2, DL.evd_mx, DL.evd_mn, DL.evd_gcd, DL.wIStr, DL.wIEnumS, DL.eJnL, DL.eJnT, DL.wJoin, DL.eStrI, DL.eIntS, DL.strsD_map]
      refine ⟨n + 1, b + 1, rfl, r1 _ (by omega), by omega, by omega, ?_⟩
      simp -implicitDefEqProofs only [DL.WW, List.isEmpty_nil, List.map, List.length, List.length_cons, List.length_nil, List.length_set, List.replicate, List.append, List.cons_append, List.nil_append, List.append_nil, List.getElem?_cons_zero, List.getElem?_cons_succ, List.getElem?_nil, List.set_cons_zero, List.set_cons_succ, ↓reduceIte, Bool.false_eq_true, Bool.not_true, Bool.not_false, Bool.true_and, Bool.false_and, Bool.and_true, Bool.and_false, Bool.or_true, Bool.or_false, Bool.true_or, Bool.false_or, Nat.reduceAdd, Nat.reduceSub, Nat.reduceLT, Nat.reduceLeDiff, true_and, and_true, and_self, decide_eq_true_eq, Nat.zero_lt_succ, Nat.lt_add_left_iff_pos, beq_self_eq_true, String.reduceBEq, String.reduceEq, Nat.le_refl, Nat.zero_le, Bool.true_eq_false, decide_true, decide_false, Int.reduceEq, Int.reduceLT, Int.reduceLE, Int.reduceSub, Int.reduceAdd, DL.wIfT, DL.wListRg, DL.eSortT, DL.eAddS, DL.eInS, DL.eLenS, DL.wSlS, DL.wI2, DL.evd_mx, DL.evd_mn, DL.evd_gcd, DL.wIStr, DL.wIEnumS, DL.eJnL, DL.eJnT, DL.wJoin, DL.eStrI, DL.eIntS, DL.strsD_map]
      exact hP
end
end
end K06D


set_option Elab.async false
set_option linter.all false
set_option maxRecDepth 100000
set_option maxHeartbeats 4000000
namespace K06D
open PySem L2 TG DL K06 SK TXG
section
variable {P : Program} {w : World} {K : PySem.W.Frag} {mg : Str → Option Value} {base : Heap}
def bk : Nat → G → G
  | 0, g => g
  | f + 1, g => .mk (g.rt.map (bk f)) (g.lf.map (bk f))
def F_lb (f : Nat) : FSp := fun args P => ∃ g : G, args = [some (.dat (gD g))] ∧ ht g < f ∧ nd g ≤ 40000 ∧ P (.dat (gD (bk f g))) [none]
section
variable {f : Nat}
theorem ok_law_back {k : Nat} (T : Txt K mg) (G_law_back : FnOk P w K mg base CX0 k T.a_law_back T.d_law_back ["_law_game_here"] (spD K (F_lb f))) : FnOk P w K mg base CX0 (k + 1) T.a_law_back T.d_law_back ["_law_game_here"] (spD K (F_lb (f + 1))) := by
  refine T.F_law_back.ok sc_law_back (fun vs H Q E h => spD_len (fun args P hF => ?_) h) (fun cdv A outer s H vs Q E hr h => ⟨_, (pss_one (ps_ret (pe_tup (pa_cons (pe_callTy (call_tuple_ofK (K := K) rfl) rfl T.m_tuple (by decide +kernel) (pa_cons (pe_lc (own := [("_law_one", 1)]) rfl sc_law_back.nd (pi_tupK (K := K) rfl (pe_ix (ix_tupK (K := K) rfl) (pv 0) pe_int (fun _ _ => rfl))) (blkOk_by (N := ["_law_game_here", "_law_one"]) (sc := defScope s_law_back) (by decide +kernel)) (fun _ _ _ _ _ => (pg_name (i := 1) sc_law_back.nd rfl (Or.inl rfl))) (fun _ _ _ _ _ => pts_nil) (fun _ _ _ _ _ => (pe_call G_law_back hr rfl T.g_law_back T.F_law_back.kp T.b_law_back .nil pass0 (pa_cons (pv 1) pa_nil)))) pa_nil)) (pa_cons (pe_callTy (call_tuple_ofK (K := K) rfl) rfl T.m_tuple (by decide +kernel) (pa_cons (pe_lc (own := [("_law_one", 1)]) rfl sc_law_back.nd (pi_tupK (K := K) rfl (pe_ix (ix_tupK (K := K) rfl) (pv 0) pe_int (fun _ _ => rfl))) (blkOk_by (N := ["_law_game_here", "_law_one"]) (sc := defScope s_law_back) (by decide +kernel)) (fun _ _ _ _ _ => (pg_name (i := 1) sc_law_back.nd rfl (Or.inl rfl))) (fun _ _ _ _ _ => pts_nil) (fun _ _ _ _ _ => (pe_call G_law_back hr rfl T.g_law_back T.F_law_back.kp T.b_law_back .nil pass0 (pa_cons (pv 1) pa_nil)))) pa_nil)) pa_nil))))), fn_run (N := ["_law_game_here", "_law_one"]) h (fun A' Hz' => (ss_ret (se_tup (sa_cons (se_cb1 sc_tupOf (se_lc (si_tup (se_op sr_ixT se_var se_int)) sg_name st_yes (se_call (sa_cons se_var sa_nil)) (by decide))) (sa_cons (se_cb1 sc_tupOf (se_lc (si_tup (se_op sr_ixT se_var se_int)) sg_name st_yes (se_call (sa_cons se_var sa_nil)) (by decide))) sa_nil))))) (fun args P hl hF => ?_)⟩)
  · obtain ⟨g, rfl, _⟩ := hF
    rfl
  obtain ⟨g, rfl, hh, hn, hP⟩ := hF
  have sl := sides_len g
  simp -implicitDefEqProofs only [DL.WW, List.isEmpty_nil, List.map, List.length, List.length_cons, List.length_nil, List.length_set, List.replicate, List.append, List.cons_append, List.nil_append, List.append_nil, List.getElem?_cons_zero, List.getElem?_cons_succ, List.getElem?_nil, List.set_cons_zero, List.set_cons_succ, ↓reduceIte, Bool.false_eq_true, Bool.not_true, Bool.not_false, Bool.true_and, Bool.false_and, Bool.and_true, Bool.and_false, Bool.or_true, Bool.or_false, Bool.true_or, Bool.false_or, Nat.reduceAdd, Nat.reduceSub, Nat.reduceLT, Nat.reduceLeDiff, true_and, and_true, and_self, decide_eq_true_eq, Nat.zero_lt_succ, Nat.lt_add_left_iff_pos, beq_self_eq_true, String.reduceBEq, String.reduceEq, Nat.le_refl, Nat.zero_le, Bool.true_eq_false, decide_true, decide_false, Int.reduceEq, Int.reduceLT, Int.reduceLE, Int.reduceSub, Int.reduceAdd, DL.wIfT, DL.wListRg, DL.eSortT, DL.eAddS, DL.eInS, DL.eLenS, DL.wSlS, DL.wI2, DL.evd_mx, DL.evd_mn, DL.evd_gcd, DL.wIStr, DL.wIEnumS, DL.eJnL, DL.eJnT, DL.wJoin, DL.eStrI, DL.eIntS, DL.strsD_map, gD_eq g]
  refine lc_use ?_
  simp -implicitDefEqProofs only [DL.WW, List.isEmpty_nil, List.map, List.length, List.length_cons, List.length_nil, List.length_set, List.replicate, List.append, List.cons_append, List.nil_append, List.append_nil, List.getElem?_cons_zero, List.getElem?_cons_succ, List.getElem?_nil, List.set_cons_zero, List.set_cons_succ, ↓reduceIte, Bool.false_eq_true, Bool.not_true, Bool.not_false, Bool.true_and, Bool.false_and, Bool.and_true, Bool.and_false, Bool.or_true, Bool.or_false, Bool.true_or, Bool.false_or, Nat.reduceAdd, Nat.reduceSub, Nat.reduceLT, Nat.reduceLeDiff, true_and, and_true, and_self, decide_eq_true_eq, Nat.zero_lt_succ, Nat.lt_add_left_iff_pos, beq_self_eq_true, String.reduceBEq, String.reduceEq, Nat.le_refl, Nat.zero_le, Bool.true_eq_false, decide_true, decide_false, Int.reduceEq, Int.reduceLT, Int.reduceLE, Int.reduceSub, Int.reduceAdd, DL.wIfT, DL.wListRg, DL.eSortT, DL.eAddS, DL.eInS, DL.eLenS, DL.wSlS, DL.wI2, DL.evd_mx, DL.evd_mn, DL.evd_gcd, DL.wIStr, DL.wIEnumS, DL.eJnL, DL.eJnT, DL.wJoin, DL.eStrI, DL.eIntS, DL.strsD_map]
  refine lc_acc (fun j => (g.rt.take j).map fun x => gD (bk f x)) rfl rfl (fun j hj => ?_) (fun j y hy => ?_) ?_
  · rw [List.length_map] at hj
    rw [List.length_map, List.length_take]
    omega
  · obtain ⟨x, hx, rfl⟩ := map_get hy
    have mx : x ∈ g.lf ∨ x ∈ g.rt := .inr (List.mem_of_getElem? hx)
    have lx := ht_lt mx
    have nx := nd_lt mx
    simp -implicitDefEqProofs only [DL.WW, List.isEmpty_nil, List.map, List.length, List.length_cons, List.length_nil, List.length_set, List.replicate, List.append, List.cons_append, List.nil_append, List.append_nil, List.getElem?_cons_zero, List.getElem?_cons_succ, List.getElem?_nil, List.set_cons_zero, List.set_cons_succ, ↓reduceIte, Bool.false_eq_true, Bool.not_true, Bool.not_false, Bool.true_and, Bool.false_and, Bool.and_true, Bool.and_false, Bool.or_true, Bool.or_false, Bool.true_or, Bool.false_or, Nat.reduceAdd, Nat.reduceSub, Nat.reduceLT, Nat.reduceLeDiff, true_and, and_true, and_self, decide_eq_true_eq, Nat.zero_lt_succ, Nat.lt_add_left_iff_pos, beq_self_eq_true, String.reduceBEq, String.reduceEq, Nat.le_refl, Nat.zero_le, Bool.true_eq_false, decide_true, decide_false, Int.reduceEq, Int.reduceLT, Int.reduceLE, Int.reduceSub, Int.reduceAdd, DL.wIfT, DL.wListRg, DL.eSortT, DL.eAddS, DL.eInS, DL.eLenS, DL.wSlS, DL.wI2, DL.evd_mx, DL.evd_mn, DL.evd_gcd, DL.wIStr, DL.wIEnumS, DL.eJnL, DL.eJnT, DL.wJoin, DL.eStrI, DL.eIntS, DL.strsD_map]
    refine ⟨x, rfl, by omega, by omega, ?_⟩
    simp -implicitDefEqProofs only [DL.WW, List.isEmpty_nil, List.map, List.length, List.length_cons, List.length_nil, List.length_set, List.replicate, List.append, List.cons_append, List.nil_append, List.append_nil, List.getElem?_cons_zero, List.getElem?_cons_succ, List.getElem?_nil, List.set_cons_zero, List.set_cons_succ, ↓reduceIte, Bool.false_eq_true, Bool.not_true, Bool.not_false, Bool.true_and, Bool.false_and, Bool.and_true, Bool.and_false, Bool.or_true, Bool.or_false, Bool.true_or, Bool.false_or, Nat.reduceAdd, Nat.reduceSub, Nat.reduceLT, Nat.reduceLeDiff, true_and, and_true, and_self, decide_eq_true_eq, Nat.zero_lt_succ, Nat.lt_add_left_iff_pos, beq_self_eq_true, String.reduceBEq, String.reduceEq, Nat.le_refl, Nat.zero_le, Bool.true_eq_false, decide_true, decide_false, Int.reduceEq, Int.reduceLT, Int.reduceLE, Int.reduceSub, Int.reduceAdd, DL.wIfT, DL.wListRg, DL.eSortT, DL.eAddS, DL.eInS, DL.eLenS, DL.wSlS, DL.wI2, DL.evd_mx, DL.evd_mn, DL.evd_gcd, DL.wIStr, DL.wIEnumS, DL.eJnL, DL.eJnT, DL.wJoin, DL.eStrI, DL.eIntS, DL.strsD_map]
    rw [List.take_succ, hx, List.map_append]
    rfl
  rw [List.length_map, List.take_length]
  simp -implicitDefEqProofs only [DL.WW, List.isEmpty_nil, List.map, List.length, List.length_cons, List.length_nil, List.length_set, List.replicate, List.append, List.cons_append, List.nil_append, List.append_nil, List.getElem?_cons_zero, List.getElem?_cons_succ, List.getElem?_nil, List.set_cons_zero, List.set_cons_succ, ↓reduceIte, Bool.false_eq_true, Bool.not_true, Bool.not_false, Bool.true_and, Bool.false_and, Bool.and_true, Bool.and_false, Bool.or_true, Bool.or_false, Bool.true_or, Bool.false_or, Nat.reduceAdd, Nat.reduceSub, Nat.reduceLT, Nat.reduceLeDiff, true_and, and_true, and_self, decide_eq_true_eq, Nat.zero_lt_succ, Nat.lt_add_left_iff_pos, beq_self_eq_true, String.reduceBEq, String.reduceEq, Nat.le_refl, Nat.zero_le, Bool.true_eq_false, decide_true, decide_false, Int.reduceEq, Int.reduceLT, Int.reduceLE, Int.reduceSub, Int.reduceAdd, DL.wIfT, DL.wListRg, DL.eSortT, DL.eAddS, DL.eInS, DL.eLenS, DL.wSlS, DL.wI2, DL.evd_mx, DL.evd_mn, DL.evd_gcd, DL.wIStr, DL.wIEnumS, DL.eJnL, DL.eJnT, DL.wJoin, DL.eStrI, DL.eIntS, DL.strsD_map]
  refine lc_use ?_
  simp -implicitDefEqProofs only [DL.WW, List.isEmpty_nil, List.map, List.length, List.length_cons, List.length_nil, List.length_set, List.replicate, List.append, List.cons_append, List.nil_append, List.append_nil, List.getElem?_cons_zero, List.getElem?_cons_succ, List.getElem?_nil, List.set_cons_zero, List.set_cons_succ, ↓reduceIte, Bool.false_eq_true, Bool.not_true, Bool.not_false, Bool.true_and, Bool.false_and, Bool.and_true, Bool.and_false, Bool.or_true, Bool.or_false, Bool.true_or, Bool.false_or, Nat.reduceAdd, Nat.reduceSub, Nat.reduceLT, Nat.reduceLeDiff, true_and, and_true, and_self, decide_eq_true_eq, Nat.zero_lt_succ, Nat.lt_add_left_iff_pos, beq_self_eq_true, String.reduceBEq, String.reduceEq, Nat.le_refl, Nat.zero_le, Bool.true_eq_false, decide_true, decide_false, Int.reduceEq, Int.reduceLT, Int.reduceLE, Int.reduceSub, Int.reduceAdd, DL.wIfT, DL.wListRg, DL.eSortT, DL.eAddS, DL.eInS, DL.eLenS, DL.wSlS, DL.wI2, DL.evd_mx, DL.evd_mn, DL.evd_gcd, DL.wIStr, DL.wIEnumS, DL.eJnL, DL.eJnT, DL.wJoin, DL.eStrI, DL.eIntS, DL.strsD_map]
  refine lc_acc (fun j => (g.lf.take j).map fun x => gD (bk f x)) rfl rfl (fun j hj => ?_) (fun j y hy => ?_) ?_
  · rw [List.length_map] at hj
    rw [List.length_map, List.length_take]
    omega
  · obtain ⟨x, hx, rfl⟩ := map_get hy
    have mx : x ∈ g.lf ∨ x ∈ g.rt := .inl (List.mem_of_getElem? hx)
    have lx := ht_lt mx
    have nx := nd_lt mx
    simp -implicitDefEqProofs only [DL.WW, List.isEmpty_nil, List.map, List.length, List.length_cons, List.length_nil, List.length_set, List.replicate, List.append, List.cons_append, List.nil_append, List.append_nil, List.getElem?_cons_zero, List.getElem?_cons_succ, List.getElem?_nil, List.set_cons_zero, List.set_cons_succ, ↓reduceIte, Bool.false_eq_true, Bool.not_true, Bool.not_false, Bool.true_and, Bool.false_and, Bool.and_true, Bool.and_false, Bool.or_true, Bool.or_false, Bool.true_or, Bool.false_or, Nat.reduceAdd, Nat.reduceSub, Nat.reduceLT, Nat.reduceLeDiff, true_and, and_true, and_self, decide_eq_true_eq, Nat.zero_lt_succ, Nat.lt_add_left_iff_pos, beq_self_eq_true, String.reduceBEq, String.reduceEq, Nat.le_refl, Nat.zero_le, Bool.true_eq_false, decide_true, decide_false, Int.reduceEq, Int.reduceLT, Int.reduceLE, Int.reduceSub, Int.reduceAdd, DL.wIfT, DL.wListRg, DL.eSortT, DL.eAddS, DL.eInS, DL.eLenS, DL.wSlS, DL.wI2, DL.evd_mx, DL.evd_mn, DL.evd_gcd, DL.wIStr, DL.wIEnumS, DL.eJnL, DL.eJnT, DL.wJoin, DL.eStrI, DL.eIntS, DL.strsD_map]
    refine ⟨x, rfl, by omega, by omega, ?_⟩
    simp -implicitDefEqProofs only [DL.WW, List.isEmpty_nil, List.map, List.length, List.length_cons, List.length_nil, List.length_set, List.replicate, List.append, List.cons_append, List.nil_append, List.append_nil, List.getElem?_cons_zero, List.getElem?_cons_succ, List.getElem?_nil, List.set_cons_zero, List.set_cons_succ, ↓reduceIte, Bool.false_eq_true, Bool.not_true, Bool.not_false, Bool.true_and, Bool.false_and, Bool.and_true, Bool.and_false, Bool.or_true, Bool.or_false, Bool.true_or, Bool.false_or, Nat.reduceAdd, Nat.reduceSub, Nat.reduceLT, Nat.reduceLeDiff, true_and, and_true, and_self, decide_eq_true_eq, Nat.zero_lt_succ, Nat.lt_add_left_iff_pos, beq_self_eq_true, String.reduceBEq, String.reduceEq, Nat.le_refl, Nat.zero_le, Bool.true_eq_false, decide_true, decide_false, Int.reduceEq, Int.reduceLT, Int.reduceLE, Int.reduceSub, Int.reduceAdd, DL.wIfT, DL.wListRg, DL.eSortT, DL.eAddS, DL.eInS, DL.eLenS, DL.wSlS, DL.wI2, DL.evd_mx, DL.evd_mn, DL.evd_gcd, DL.wIStr, DL.wIEnumS, DL.eJnL, DL.eJnT, DL.wJoin, DL.eStrI, DL.eIntS, DL.strsD_map]
    rw [List.take_succ, hx, List.map_append]
    rfl
  rw [List.length_map, List.take_length]
  simp -implicitDefEqProofs only [DL.WW, List.isEmpty_nil, List.map, List.length, List.length_cons, List.length_nil, List.length_set, List.replicate, List.append, List.cons_append, List.nil_append, List.append_nil, List.getElem?_cons_zero, List.getElem?_cons_succ, List.getElem?_nil, List.set_cons_zero, List.set_cons_succ, ↓reduceIte, Bool.false_eq_true, Bool.not_true, Bool.not_false, Bool.true_and, Bool.false_and, Bool.and_true, Bool.and_false, Bool.or_true, Bool.or_false, Bool.true_or, Bool.false_or, Nat.reduceAdd, Nat.reduceSub, Nat.reduceLT, Nat.reduceLeDiff, true_and, and_true, and_self, decide_eq_true_eq, Nat.zero_lt_succ, Nat.lt_add_left_iff_pos, beq_self_eq_true, String.reduceBEq, String.reduceEq, Nat.le_refl, Nat.zero_le, Bool.true_eq_false, decide_true, decide_false, Int.reduceEq, Int.reduceLT, Int.reduceLE, Int.reduceSub, Int.reduceAdd, DL.wIfT, DL.wListRg, DL.eSortT, DL.eAddS, DL.eInS, DL.eLenS, DL.wSlS, DL.wI2, DL.evd_mx, DL.evd_mn, DL.evd_gcd, DL.wIStr, DL.wIEnumS, DL.eJnL, DL.eJnT, DL.wJoin, DL.eStrI, DL.eIntS, DL.strsD_map]
  rw [bk, gD_mk, List.map_map, List.map_map] at hP
  exact hP
def F_lnd (f : Nat) : FSp := fun args P => ∃ g : G, args = [some (.dat (gD g))] ∧ ht g < f ∧ nd g ≤ 40000 ∧ P (.dat (.int (nd g))) [none]
theorem ok_law_nodes {k : Nat} (T : Txt K mg) (G_law_nodes : FnOk P w K mg base CX0 k T.a_law_nodes T.d_law_nodes ["_law_game_here"] (spD K (F_lnd f))) : FnOk P w K mg base CX0 (k + 1) T.a_law_nodes T.d_law_nodes ["_law_game_here"] (spD K (F_lnd (f + 1))) := by
  refine T.F_law_nodes.ok sc_law_nodes (fun vs H Q E h => spD_len (fun args P hF => ?_) h) (fun cdv A outer s H vs Q E hr h => ⟨_, (pss_one (ps_ret (pe_op op_add pe_int (pe_callB (cr_sumK (K := K) rfl rfl) rfl T.m_sum (by decide +kernel) (pa_cons (pe_lc (own := [("_law_one", 1)]) rfl sc_law_nodes.nd (pi_tupK (K := K) rfl (pe_op (op_catAK (K := K) rfl) (pe_ix (ix_tupK (K := K) rfl) (pv 0) pe_int (fun _ _ => rfl)) (pe_ix (ix_tupK (K := K) rfl) (pv 0) pe_int (fun _ _ => rfl)))) (blkOk_by (N := ["_law_game_here", "_law_one"]) (sc := defScope s_law_nodes) (by decide +kernel)) (fun _ _ _ _ _ => (pg_name (i := 1) sc_law_nodes.nd rfl (Or.inl rfl))) (fun _ _ _ _ _ => pts_nil) (fun _ _ _ _ _ => (pe_call G_law_nodes hr rfl T.g_law_nodes T.F_law_nodes.kp T.b_law_nodes .nil pass0 (pa_cons (pv 1) pa_nil)))) pa_nil))))), fn_run (N := ["_law_game_here", "_law_one"]) h (fun A' Hz' => (ss_ret (se_op (sr_I0 (fun _ _ => rfl)) se_int (se_cb1 sc_sum (se_lc (si_tup (se_op sr_catA (se_op sr_ixT se_var se_int) (se_op sr_ixT se_var se_int))) sg_name st_yes (se_call (sa_cons se_var sa_nil)) (by decide)))))) (fun args P hl hF => ?_)⟩)
  · obtain ⟨g, rfl, _⟩ := hF
    rfl
  obtain ⟨g, rfl, hh, hn, hP⟩ := hF
  have sl := sides_len g
  have ng := nd_eq g
  simp -implicitDefEqProofs only [DL.WW, List.isEmpty_nil, List.map, List.length, List.length_cons, List.length_nil, List.length_set, List.replicate, List.append, List.cons_append, List.nil_append, List.append_nil, List.getElem?_cons_zero, List.getElem?_cons_succ, List.getElem?_nil, List.set_cons_zero, List.set_cons_succ, ↓reduceIte, Bool.false_eq_true, Bool.not_true, Bool.not_false, Bool.true_and, Bool.false_and, Bool.and_true, Bool.and_false, Bool.or_true, Bool.or_false, Bool.true_or, Bool.false_or, Nat.reduceAdd, Nat.reduceSub, Nat.reduceLT, Nat.reduceLeDiff, true_and, and_true, and_self, decide_eq_true_eq, Nat.zero_lt_succ, Nat.lt_add_left_iff_pos, beq_self_eq_true, String.reduceBEq, String.reduceEq, Nat.le_refl, Nat.zero_le, Bool.true_eq_false, decide_true, decide_false, Int.reduceEq, Int.reduceLT, Int.reduceLE, Int.reduceSub, Int.reduceAdd, DL.wIfT, DL.wListRg, DL.eSortT, DL.eAddS, DL.eInS, DL.eLenS, DL.wSlS, DL.wI2, DL.evd_mx, DL.evd_mn, DL.evd_gcd, DL.wIStr, DL.wIEnumS, DL.eJnL, DL.eJnT, DL.wJoin, DL.eStrI, DL.eIntS, DL.strsD_map, gD_eq g, ← List.map_append, List.length_map]
  refine lc_use ?_
  simp -implicitDefEqProofs only [DL.WW, List.isEmpty_nil, List.map, List.length, List.length_cons, List.length_nil, List.length_set, List.replicate, List.append, List.cons_append, List.nil_append, List.append_nil, List.getElem?_cons_zero, List.getElem?_cons_succ, List.getElem?_nil, List.set_cons_zero, List.set_cons_succ, ↓reduceIte, Bool.false_eq_true, Bool.not_true, Bool.not_false, Bool.true_and, Bool.false_and, Bool.and_true, Bool.and_false, Bool.or_true, Bool.or_false, Bool.true_or, Bool.false_or, Nat.reduceAdd, Nat.reduceSub, Nat.reduceLT, Nat.reduceLeDiff, true_and, and_true, and_self, decide_eq_true_eq, Nat.zero_lt_succ, Nat.lt_add_left_iff_pos, beq_self_eq_true, String.reduceBEq, String.reduceEq, Nat.le_refl, Nat.zero_le, Bool.true_eq_false, decide_true, decide_false, Int.reduceEq, Int.reduceLT, Int.reduceLE, Int.reduceSub, Int.reduceAdd, DL.wIfT, DL.wListRg, DL.eSortT, DL.eAddS, DL.eInS, DL.eLenS, DL.wSlS, DL.wI2, DL.evd_mx, DL.evd_mn, DL.evd_gcd, DL.wIStr, DL.wIEnumS, DL.eJnL, DL.eJnT, DL.wJoin, DL.eStrI, DL.eIntS, DL.strsD_map, ← List.map_append, List.length_map]
  refine ⟨Nat.le_trans (show _ ≤ 50000 by omega) (by decide), ?_⟩
  refine lc_acc (fun j => ((g.lf ++ g.rt).take j).map fun x => PyData.int (nd x)) rfl rfl (fun j hj => ?_) (fun j y hy => ?_) ?_
  · rw [List.length_map, List.length_append] at hj
    rw [List.length_map, List.length_take]
    omega
  · obtain ⟨x, hx, rfl⟩ := map_get hy
    have mx : x ∈ g.lf ∨ x ∈ g.rt := List.mem_append.mp (List.mem_of_getElem? hx)
    have lx := ht_lt mx
    have nx := nd_lt mx
    simp -implicitDefEqProofs only [DL.WW, List.isEmpty_nil, List.map, List.length, List.length_cons, List.length_nil, List.length_set, List.replicate, List.append, List.cons_append, List.nil_append, List.append_nil, List.getElem?_cons_zero, List.getElem?_cons_succ, List.getElem?_nil, List.set_cons_zero, List.set_cons_succ, ↓reduceIte, Bool.false_eq_true, Bool.not_true, Bool.not_false, Bool.true_and, Bool.false_and, Bool.and_true, Bool.and_false, Bool.or_true, Bool.or_false, Bool.true_or, Bool.false_or, Nat.reduceAdd, Nat.reduceSub, Nat.reduceLT, Nat.reduceLeDiff, true_and, and_true, and_self, decide_eq_true_eq, Nat.zero_lt_succ, Nat.lt_add_left_iff_pos, beq_self_eq_true, String.reduceBEq, String.reduceEq, Nat.le_refl, Nat.zero_le, Bool.true_eq_false, decide_true, decide_false, Int.reduceEq, Int.reduceLT, Int.reduceLE, Int.reduceSub, Int.reduceAdd, DL.wIfT, DL.wListRg, DL.eSortT, DL.eAddS, DL.eInS, DL.eLenS, DL.wSlS, DL.wI2, DL.evd_mx, DL.evd_mn, DL.evd_gcd, DL.wIStr, DL.wIEnumS, DL.eJnL, DL.eJnT, DL.wJoin, DL.eStrI, DL.eIntS, DL.strsD_map]
    refine ⟨x, rfl, by omega, by omega, ?_⟩
    simp -implicitDefEqProofs only [DL.WW, List.isEmpty_nil, List.map, List.length, List.length_cons, List.length_nil, List.length_set, List.replicate, List.append, List.cons_append, List.nil_append, List.append_nil, List.getElem?_cons_zero, List.getElem?_cons_succ, List.getElem?_nil, List.set_cons_zero, List.set_cons_succ, ↓reduceIte, Bool.false_eq_true, Bool.not_true, Bool.not_false, Bool.true_and, Bool.false_and, Bool.and_true, Bool.and_false, Bool.or_true, Bool.or_false, Bool.true_or, Bool.false_or, Nat.reduceAdd, Nat.reduceSub, Nat.reduceLT, Nat.reduceLeDiff, true_and, and_true, and_self, decide_eq_true_eq, Nat.zero_lt_succ, Nat.lt_add_left_iff_pos, beq_self_eq_true, String.reduceBEq, String.reduceEq, Nat.le_refl, Nat.zero_le, Bool.true_eq_false, decide_true, decide_false, Int.reduceEq, Int.reduceLT, Int.reduceLE, Int.reduceSub, Int.reduceAdd, DL.wIfT, DL.wListRg, DL.eSortT, DL.eAddS, DL.eInS, DL.eLenS, DL.wSlS, DL.wI2, DL.evd_mx, DL.evd_mn, DL.evd_gcd, DL.wIStr, DL.wIEnumS, DL.eJnL, DL.eJnT, DL.wJoin, DL.eStrI, DL.eIntS, DL.strsD_map]
    rw [List.take_succ, hx, List.map_append]
    rfl
  rw [List.length_map, List.take_length]
  have e1 : ((g.lf ++ g.rt).map fun x => PyData.int (nd x)) = ((g.lf ++ g.rt).map fun x => (nd x : Int)).map PyData.int := by rw [List.map_map]; rfl
  have e2 : ∀ l : List G, (l.map fun x => (nd x : Int)).sum = (ndL l : Int) := fun l => by
    induction l with
    | nil => rfl
    | cons x l ih => rw [List.map_cons, List.sum_cons, ih, ndL]; omega
  rw [e1]
  simp -implicitDefEqProofs only [DL.WW, List.isEmpty_nil, List.map, List.length, List.length_cons, List.length_nil, List.length_set, List.replicate, List.append, List.cons_append, List.nil_append, List.append_nil, List.getElem?_cons_zero, List.getElem?_cons_succ, List.getElem?_nil, List.set_cons_zero, List.set_cons_succ, ↓reduceIte, Bool.false_eq_true, Bool.not_true, Bool.not_false, Bool.true_and, Bool.false_and, Bool.and_true, Bool.and_false, Bool.or_true, Bool.or_false, Bool.true_or, Bool.false_or, Nat.reduceAdd, Nat.reduceSub, Nat.reduceLT, Nat.reduceLeDiff, true_and, and_true, and_self, decide_eq_true_eq, Nat.zero_lt_succ, Nat.lt_add_left_iff_pos, beq_self_eq_true, String.reduceBEq, String.reduceEq, Nat.le_refl, Nat.zero_le, Bool.true_eq_false, decide_true, decide_false, Int.reduceEq, Int.reduceLT, Int.reduceLE, Int.reduceSub, Int.reduceAdd, DL.wIfT, DL.wListRg, DL.eSortT, DL.eAddS, DL.eInS, DL.eLenS, DL.wSlS, DL.wI2, DL.evd_mx, DL.evd_mn, DL.evd_gcd, DL.wIStr, DL.wIEnumS, DL.eJnL, DL.eJnT, DL.wJoin, DL.eStrI, DL.eIntS, DL.strsD_map, intsD_map]
  rw [List.map_append, List.sum_append, e2, e2]
  have e3 : (1 : Int) + ((ndL g.lf : Int) + (ndL g.rt : Int)) = (nd g : Int) := by omega
  rw [e3]
  exact hP
end
theorem ok_back {k : Nat} (T : Txt K mg) : ∀ f, FnOk P w K mg base CX0 (k + f) T.a_law_back T.d_law_back ["_law_game_here"] (spD K (F_lb f))
  | 0 => ok_none fun args P h => by obtain ⟨g, _, h, _⟩ := h; omega
  | f + 1 => ok_law_back T (ok_back T f)
theorem ok_nodes {k : Nat} (T : Txt K mg) : ∀ f, FnOk P w K mg base CX0 (k + f) T.a_law_nodes T.d_law_nodes ["_law_game_here"] (spD K (F_lnd f))
  | 0 => ok_none fun args P h => by obtain ⟨g, _, h, _⟩ := h; omega
  | f + 1 => ok_law_nodes T (ok_nodes T f)
theorem ok_lnumber {k : Nat} (T : Txt K mg) (G_law_whole : FnOk P w K mg base CX0 k T.a_law_whole T.d_law_whole ["_law_number_here"] (spD K F_law_whole)) : ∀ f, FnOk P w K mg base CX0 (k + 1 + f) T.a_law_number T.d_law_number ["_law_top", "_law_bottom"] (spD K (F_ln f))
  | 0 => ok_law_number (Fi := fun _ _ => False) (fun m h => by omega) T (G_law_whole := G_law_whole) (G_law_number := ok_none fun _ _ h => h)
  | f + 1 => ok_law_number (Fi := F_ln f) (fun m h => by rw [Nat.succ.inj h]) T (G_law_whole := G_law_whole.mono (by show k ≤ k + 1 + f; omega)) (G_law_number := ok_lnumber T G_law_whole f)
def F_law_back : FSp := F_lb 5
def F_law_nodes : FSp := F_lnd 28
def F_law_number : FSp := F_ln 6
end
end K06D


set_option Elab.async false
set_option linter.all false
set_option maxRecDepth 100000
set_option maxHeartbeats 4000000
namespace K06D
open PySem L2 TG DL K06
section
variable {P : Program} {w : World} {K : PySem.W.Frag} {mg : Str → Option Value} {base : Heap}
theorem ok_law_pick {k : Nat} (T : Txt K mg) (G_law_taken : FnOk P w K mg base CX0 k T.a_law_taken T.d_law_taken ["_law_row", "_law_many"] (spD K F_law_taken)) : FnOk P w K mg base CX0 (k + 1) T.a_law_pick T.d_law_pick ["_law_row", "_law_things"] (spD K F_law_pick) := by
  refine T.F_law_pick.ok sc_law_pick (fun vs H Q E h => spD_len (fun args P hF => ?_) h) (fun cdv A outer s H vs Q E hr h => ⟨_, (pss_one (ps_ret (pe_ix (ix_listK (K := K) rfl) (pv 1) (pe_call G_law_taken hr rfl T.g_law_taken T.F_law_taken.kp T.b_law_taken .nil pass0 (pa_cons (pv 0) (pa_cons (pe_callB (call_lenK (K := K) rfl) rfl T.m_len PySem.boot_len (pa_cons (pv 1) pa_nil)) pa_nil))) (fun _ _ => rfl)))), fn_run (N := ["_law_row", "_law_things"]) h (fun A' Hz' => (ss_ret (se_op sr_ixL se_var (se_callO (sa_cons (se_cb1 sc_len se_var) sa_nil))))) (fun args P hl hF => ?_)⟩)
  · obtain ⟨o, ds, rfl, _⟩ := hF
    rfl
  obtain ⟨o, ds, rfl, ho, ⟨h1, h2⟩, hP⟩ := hF
  simp -implicitDefEqProofs only [DL.WW, List.isEmpty_nil, List.map, List.length, List.length_cons, List.length_nil, List.length_set, List.replicate, List.append, List.cons_append, List.nil_append, List.append_nil, List.getElem?_cons_zero, List.getElem?_cons_succ, List.getElem?_nil, List.set_cons_zero, List.set_cons_succ, ↓reduceIte, Bool.false_eq_true, Bool.not_true, Bool.not_false, Bool.true_and, Bool.false_and, Bool.and_true, Bool.and_false, Bool.or_true, Bool.or_false, Bool.true_or, Bool.false_or, Nat.reduceAdd, Nat.reduceSub, Nat.reduceLT, Nat.reduceLeDiff, true_and, and_true, and_self, decide_eq_true_eq, Nat.zero_lt_succ, Nat.lt_add_left_iff_pos, beq_self_eq_true, String.reduceBEq, String.reduceEq, Nat.le_refl, Nat.zero_le, Bool.true_eq_false, decide_true, decide_false, Int.reduceEq, Int.reduceLT, Int.reduceLE, Int.reduceSub, Int.reduceAdd]
  refine ⟨o, _, rfl, ho, ⟨by omega, by omega⟩, fun x o' ho' x0 x1 => ?_⟩
  obtain ⟨x, rfl⟩ : ∃ k : Nat, x = k := ⟨x.toNat, by omega⟩
  have hx : x < ds.length := by omega
  have hat : atI ds (x : Int) = some ds[x] := atI_nat (List.getElem?_eq_getElem hx)
  simp -implicitDefEqProofs only [DL.WW, List.isEmpty_nil, List.map, List.length, List.length_cons, List.length_nil, List.length_set, List.replicate, List.append, List.cons_append, List.nil_append, List.append_nil, List.getElem?_cons_zero, List.getElem?_cons_succ, List.getElem?_nil, List.set_cons_zero, List.set_cons_succ, ↓reduceIte, Bool.false_eq_true, Bool.not_true, Bool.not_false, Bool.true_and, Bool.false_and, Bool.and_true, Bool.and_false, Bool.or_true, Bool.or_false, Bool.true_or, Bool.false_or, Nat.reduceAdd, Nat.reduceSub, Nat.reduceLT, Nat.reduceLeDiff, true_and, and_true, and_self, decide_eq_true_eq, Nat.zero_lt_succ, Nat.lt_add_left_iff_pos, beq_self_eq_true, String.reduceBEq, String.reduceEq, Nat.le_refl, Nat.zero_le, Bool.true_eq_false, decide_true, decide_false, Int.reduceEq, Int.reduceLT, Int.reduceLE, Int.reduceSub, Int.reduceAdd, hat]
  exact hP _ _ ho' (List.getElem_mem hx)
end
end K06D


set_option Elab.async false
set_option linter.all false
set_option maxRecDepth 100000
set_option maxHeartbeats 4000000
namespace K06D
open PySem L2 TG DL K06 SK TXG
section
variable {P : Program} {w : World} {K : PySem.W.Frag} {mg : Str → Option Value} {base : Heap}
/-- what _law_named draws -/
def Nm (g : G) : Prop := ht g ≤ 7 ∧ nd g ≤ 200
instance (g : G) : Decidable (Nm g) := by unfold Nm; infer_instance
theorem nm_num : ∀ a ∈ [0, 1, 2], ∀ k ∈ List.range 9, Nm (nG (numN 6 (red a ((k : Int) - 4)).1 (red a ((k : Int) - 4)).2)) := by decide +kernel
theorem nm_sw : ∀ h ∈ List.range 7, ∀ l ∈ List.range 7, Nm (.mk [iG ((h : Int) - 2)] [iG ((l : Int) - 4)]) := by decide +kernel
theorem nm_tiny : ∀ l ∈ List.range 2, Nm (.mk [z] [.mk [z] [iG (-1 - (l : Int))]]) := by decide +kernel
theorem nm_some : Nm star ∧ Nm (nimG 2) ∧ Nm up ∧ Nm (bk 5 up) ∧ Nm upS := by decide +kernel
def F_law_named : FSp := fun args P => ∃ (o : Ob), args = [some (.ob (some 0) o)] ∧ IsRow o ∧ ∀ (g : G) (o' : Ob), IsRow o' → Nm g → P (.dat (gD g)) [some (.ob (some 0) o')]
theorem ok_law_named {k : Nat} (T : Txt K mg) (G_law_taken : FnOk P w K mg base CX0 k T.a_law_taken T.d_law_taken ["_law_row", "_law_many"] (spD K F_law_taken)) (G_law_number : FnOk P w K mg base CX0 k T.a_law_number T.d_law_number ["_law_top", "_law_bottom"] (spD K F_law_number)) (G_law_star : FnOk P w K mg base CX0 k T.a_law_star T.d_law_star [] (spD K F_law_star)) (G_law_nimber : FnOk P w K mg base CX0 k T.a_law_nimber T.d_law_nimber ["_law_size"] (spD K F_law_nimber)) (G_law_pick : FnOk P w K mg base CX0 k T.a_law_pick T.d_law_pick ["_law_row", "_law_things"] (spD K F_law_pick)) (G_law_zero : FnOk P w K mg base CX0 k T.a_law_zero T.d_law_zero [] (spD K F_law_zero)) (G_law_back : FnOk P w K mg base CX0 k T.a_law_back T.d_law_back ["_law_game_here"] (spD K F_law_back)) (G_law_whole : FnOk P w K mg base CX0 k T.a_law_whole T.d_law_whole ["_law_number_here"] (spD K F_law_whole)) : FnOk P w K mg base CX0 (k + 1) T.a_law_named T.d_law_named ["_law_row"] (spD K F_law_named) := by
  refine T.F_law_named.ok sc_law_named (fun vs H Q E h => spD_len (fun args P hF => ?_) h) (fun cdv A outer s H vs Q E hr h => ⟨_, (pss_cons (ps_set (i := 1) sc_law_named.nd rfl (Or.inl rfl) (pe_call G_law_taken hr rfl T.g_law_taken T.F_law_taken.kp T.b_law_taken .nil pass0 (pa_cons (pv 0) (pa_cons pe_int pa_nil))))
  (pss_cons (ps_if (pt_cmpR op_lt (pv 1) pe_int (nomark _))
  (pss_one (ps_ret (pe_call G_law_number hr rfl T.g_law_number T.F_law_number.kp T.b_law_number .nil pass0 (pa_cons (pe_op op_sub (pe_call G_law_taken hr rfl T.g_law_taken T.F_law_taken.kp T.b_law_taken .nil pass0 (pa_cons (pv 0) (pa_cons pe_int pa_nil))) pe_int) (pa_cons (pe_call G_law_pick hr rfl T.g_law_pick T.F_law_pick.kp T.b_law_pick .nil pass0 (pa_cons (pv 0) (pa_cons (pe_lst (pa_cons pe_int (pa_cons pe_int (pa_cons pe_int (pa_cons pe_int pa_nil))))) pa_nil))) pa_nil)))))
  pss_nil)
  (pss_cons (ps_if (pt_cmpR (op_eqDK (K := K) rfl hr.units) (pv 1) pe_int (nomark _))
  (pss_one (ps_ret (pe_call0 G_law_star hr rfl T.g_law_star T.F_law_star.kp T.b_law_star .nil pass0)))
  pss_nil)
  (pss_cons (ps_if (pt_cmpR (op_eqDK (K := K) rfl hr.units) (pv 1) pe_int (nomark _))
  (pss_one (ps_ret (pe_call G_law_nimber hr rfl T.g_law_nimber T.F_law_nimber.kp T.b_law_nimber .nil pass0 (pa_cons pe_int pa_nil))))
  pss_nil)
  (pss_cons (ps_set (i := 2) sc_law_named.nd rfl (Or.inl rfl) (pe_tup (pa_cons (pe_tup (pa_cons (pe_call0 G_law_zero hr rfl T.g_law_zero T.F_law_zero.kp T.b_law_zero .nil pass0) pa_nil)) (pa_cons (pe_tup (pa_cons (pe_call0 G_law_star hr rfl T.g_law_star T.F_law_star.kp T.b_law_star .nil pass0) pa_nil)) pa_nil))))
  (pss_cons (ps_if (pt_cmpR op_lt (pv 1) pe_int (nomark _))
  (pss_one (ps_ret (pe_ifExp (pt_cmpR (op_eqDK (K := K) rfl hr.units) (pv 1) pe_int (nomark _)) (pv 2) (pe_call G_law_back hr rfl T.g_law_back T.F_law_back.kp T.b_law_back .nil pass0 (pa_cons (pv 2) pa_nil)))))
  pss_nil)
  (pss_cons (ps_if (pt_cmpR (op_eqDK (K := K) rfl hr.units) (pv 1) pe_int (nomark _))
  (pss_one (ps_ret (pe_tup (pa_cons (pe_tup (pa_cons (pe_call0 G_law_zero hr rfl T.g_law_zero T.F_law_zero.kp T.b_law_zero .nil pass0) (pa_cons (pe_call0 G_law_star hr rfl T.g_law_star T.F_law_star.kp T.b_law_star .nil pass0) pa_nil))) (pa_cons (pe_tup (pa_cons (pe_call0 G_law_zero hr rfl T.g_law_zero T.F_law_zero.kp T.b_law_zero .nil pass0) pa_nil)) pa_nil)))))
  pss_nil)
  (pss_cons (ps_if (pt_cmpR op_lt (pv 1) pe_int (nomark _))
  (pss_cons (ps_par (i := 3) (j := 4) rfl sc_law_named.nd rfl rfl (by decide) rfl rfl (pa_cons (pe_op op_sub (pe_call G_law_taken hr rfl T.g_law_taken T.F_law_taken.kp T.b_law_taken .nil pass0 (pa_cons (pv 0) (pa_cons pe_int pa_nil))) pe_int) (pa_cons (pe_op op_sub (pe_call G_law_taken hr rfl T.g_law_taken T.F_law_taken.kp T.b_law_taken .nil pass0 (pa_cons (pv 0) (pa_cons pe_int pa_nil))) pe_int) pa_nil)) rfl)
  (pss_one (ps_ret (pe_tup (pa_cons (pe_tup (pa_cons (pe_call G_law_whole hr rfl T.g_law_whole T.F_law_whole.kp T.b_law_whole .nil pass0 (pa_cons (pv 3) pa_nil)) pa_nil)) (pa_cons (pe_tup (pa_cons (pe_call G_law_whole hr rfl T.g_law_whole T.F_law_whole.kp T.b_law_whole .nil pass0 (pa_cons (pv 4) pa_nil)) pa_nil)) pa_nil))))))
  pss_nil)
  (pss_cons (ps_set (i := 5) sc_law_named.nd rfl (Or.inl rfl) (pe_tup (pa_cons (pe_tup (pa_cons (pe_call0 G_law_zero hr rfl T.g_law_zero T.F_law_zero.kp T.b_law_zero .nil pass0) pa_nil)) (pa_cons (pe_tup (pa_cons (pe_call G_law_whole hr rfl T.g_law_whole T.F_law_whole.kp T.b_law_whole .nil pass0 (pa_cons (pe_op op_sub (pe_un un_neg pe_int) (pe_call G_law_taken hr rfl T.g_law_taken T.F_law_taken.kp T.b_law_taken .nil pass0 (pa_cons (pv 0) (pa_cons pe_int pa_nil)))) pa_nil)) pa_nil)) pa_nil))))
  (pss_one (ps_ret (pe_tup (pa_cons (pe_tup (pa_cons (pe_call0 G_law_zero hr rfl T.g_law_zero T.F_law_zero.kp T.b_law_zero .nil pass0) pa_nil)) (pa_cons (pe_tup (pa_cons (pv 5) pa_nil)) pa_nil)))))))))))))), fn_run (N := ["_law_row", "_law_way", "_law_up", "_law_high", "_law_low", "_law_inner"]) h (fun A' Hz' => (ss_seq (ss_asg (se_callO (sa_cons se_int sa_nil)) sg_name)
  (ss_seq (ss_if (st_test (se_op (sr_I0 (fun _ _ => rfl)) se_var se_int))
  (ss_ret (se_call (sa_cons (se_op (sr_I0 (fun _ _ => rfl)) (se_callO (sa_cons se_int sa_nil)) se_int) (sa_cons (se_callO (sa_cons (se_lst (sa_cons se_int (sa_cons se_int (sa_cons se_int (sa_cons se_int sa_nil))))) sa_nil)) sa_nil))))
  ss_next)
  (ss_seq (ss_if (st_test (se_op sr_eqD se_var se_int))
  (ss_ret (se_call sa_nil))
  ss_next)
  (ss_seq (ss_if (st_test (se_op sr_eqD se_var se_int))
  (ss_ret (se_call (sa_cons se_int sa_nil)))
  ss_next)
  (ss_seq (ss_asg (se_tup (sa_cons (se_tup (sa_cons (se_call sa_nil) sa_nil)) (sa_cons (se_tup (sa_cons (se_call sa_nil) sa_nil)) sa_nil))) sg_name)
  (ss_seq (ss_if (st_test (se_op (sr_I0 (fun _ _ => rfl)) se_var se_int))
  (ss_ret (se_if (st_test (se_op sr_eqD se_var se_int)) se_var (se_call (sa_cons se_var sa_nil))))
  ss_next)
  (ss_seq (ss_if (st_test (se_op sr_eqD se_var se_int))
  (ss_ret (se_tup (sa_cons (se_tup (sa_cons (se_call sa_nil) (sa_cons (se_call sa_nil) sa_nil))) (sa_cons (se_tup (sa_cons (se_call sa_nil) sa_nil)) sa_nil))))
  ss_next)
  (ss_seq (ss_if (st_test (se_op (sr_I0 (fun _ _ => rfl)) se_var se_int))
  (ss_seq (ss_par (by decide) (se_op (sr_I0 (fun _ _ => rfl)) (se_callO (sa_cons se_int sa_nil)) se_int) (se_op (sr_I0 (fun _ _ => rfl)) (se_callO (sa_cons se_int sa_nil)) se_int))
  (ss_ret (se_tup (sa_cons (se_tup (sa_cons (se_call (sa_cons se_var sa_nil)) sa_nil)) (sa_cons (se_tup (sa_cons (se_call (sa_cons se_var sa_nil)) sa_nil)) sa_nil)))))
  ss_next)
  (ss_seq (ss_asg (se_tup (sa_cons (se_tup (sa_cons (se_call sa_nil) sa_nil)) (sa_cons (se_tup (sa_cons (se_call (sa_cons (se_op (sr_I0 (fun _ _ => rfl)) (se_un (fun _ => rfl) se_int) (se_callO (sa_cons se_int sa_nil))) sa_nil)) sa_nil)) sa_nil))) sg_name)
  (ss_ret (se_tup (sa_cons (se_tup (sa_cons (se_call sa_nil) sa_nil)) (sa_cons (se_tup (sa_cons se_var sa_nil)) sa_nil)))))))))))))) (fun args P hl hF => ?_)⟩)
  · obtain ⟨o, rfl, _⟩ := hF
    rfl
  obtain ⟨o, rfl, ho, hP⟩ := hF
  simp -implicitDefEqProofs only [DL.WW, List.isEmpty_nil, List.map, List.length, List.length_cons, List.length_nil, List.length_set, List.replicate, List.append, List.cons_append, List.nil_append, List.append_nil, List.getElem?_cons_zero, List.getElem?_cons_succ, List.getElem?_nil, List.set_cons_zero, List.set_cons_succ, ↓reduceIte, Bool.false_eq_true, Bool.not_true, Bool.not_false, Bool.true_and, Bool.false_and, Bool.and_true, Bool.and_false, Bool.or_true, Bool.or_false, Bool.true_or, Bool.false_or, Nat.reduceAdd, Nat.reduceSub, Nat.reduceLT, Nat.reduceLeDiff, true_and, and_true, and_self, decide_eq_true_eq, Nat.zero_lt_succ, Nat.lt_add_left_iff_pos, beq_self_eq_true, String.reduceBEq, String.reduceEq, Nat.le_refl, Nat.zero_le, Bool.true_eq_false, decide_true, decide_false, Int.reduceEq, Int.reduceLT, Int.reduceLE, Int.reduceSub, Int.reduceAdd, DL.wIfT, DL.wListRg, DL.eSortT, DL.eAddS, DL.eInS, DL.eLenS, DL.wSlS, DL.wI2, DL.evd_mx, DL.evd_mn, DL.evd_gcd, DL.wIStr, DL.wIEnumS, DL.eJnL, DL.eJnT, DL.wJoin, DL.eStrI, DL.eIntS, DL.strsD_map]
  refine ⟨o, _, rfl, ho, ⟨by decide, by decide⟩, fun v o1 ho1 v0 v1 => ?_⟩
  simp -implicitDefEqProofs only [DL.WW, List.isEmpty_nil, List.map, List.length, List.length_cons, List.length_nil, List.length_set, List.replicate, List.append, List.cons_append, List.nil_append, List.append_nil, List.getElem?_cons_zero, List.getElem?_cons_succ, List.getElem?_nil, List.set_cons_zero, List.set_cons_succ, ↓reduceIte, Bool.false_eq_true, Bool.not_true, Bool.not_false, Bool.true_and, Bool.false_and, Bool.and_true, Bool.and_false, Bool.or_true, Bool.or_false, Bool.true_or, Bool.false_or, Nat.reduceAdd, Nat.reduceSub, Nat.reduceLT, Nat.reduceLeDiff, true_and, and_true, and_self, decide_eq_true_eq, Nat.zero_lt_succ, Nat.lt_add_left_iff_pos, beq_self_eq_true, String.reduceBEq, String.reduceEq, Nat.le_refl, Nat.zero_le, Bool.true_eq_false, decide_true, decide_false, Int.reduceEq, Int.reduceLT, Int.reduceLE, Int.reduceSub, Int.reduceAdd, DL.wIfT, DL.wListRg, DL.eSortT, DL.eAddS, DL.eInS, DL.eLenS, DL.wSlS, DL.wI2, DL.evd_mx, DL.evd_mn, DL.evd_gcd, DL.wIStr, DL.wIEnumS, DL.eJnL, DL.eJnT, DL.wJoin, DL.eStrI, DL.eIntS, DL.strsD_map]
  by_cases c3 : v < 3
  · rw [if_pos c3]
    refine ⟨o1, _, rfl, ho1, ⟨by decide, by decide⟩, fun p o2 ho2 p0 p1 => ?_⟩
    simp -implicitDefEqProofs only [DL.WW, List.isEmpty_nil, List.map, List.length, List.length_cons, List.length_nil, List.length_set, List.replicate, List.append, List.cons_append, List.nil_append, List.append_nil, List.getElem?_cons_zero, List.getElem?_cons_succ, List.getElem?_nil, List.set_cons_zero, List.set_cons_succ, ↓reduceIte, Bool.false_eq_true, Bool.not_true, Bool.not_false, Bool.true_and, Bool.false_and, Bool.and_true, Bool.and_false, Bool.or_true, Bool.or_false, Bool.true_or, Bool.false_or, Nat.reduceAdd, Nat.reduceSub, Nat.reduceLT, Nat.reduceLeDiff, true_and, and_true, and_self, decide_eq_true_eq, Nat.zero_lt_succ, Nat.lt_add_left_iff_pos, beq_self_eq_true, String.reduceBEq, String.reduceEq, Nat.le_refl, Nat.zero_le, Bool.true_eq_false, decide_true, decide_false, Int.reduceEq, Int.reduceLT, Int.reduceLE, Int.reduceSub, Int.reduceAdd, DL.wIfT, DL.wListRg, DL.eSortT, DL.eAddS, DL.eInS, DL.eLenS, DL.wSlS, DL.wI2, DL.evd_mx, DL.evd_mn, DL.evd_gcd, DL.wIStr, DL.wIEnumS, DL.eJnL, DL.eJnT, DL.wJoin, DL.eStrI, DL.eIntS, DL.strsD_map]
    refine ⟨o2, _, rfl, ho2, ⟨by decide, by decide⟩, fun q o3 ho3 hq => ?_⟩
    obtain ⟨a, ha, rfl⟩ : ∃ a : Nat, a ∈ [0, 1, 2] ∧ q = .int ((2 ^ a : Nat) : Int) := by
      simp at hq
      rcases hq with rfl | rfl | rfl
      · exact ⟨0, by simp, rfl⟩
      · exact ⟨1, by simp, rfl⟩
      · exact ⟨2, by simp, rfl⟩
    obtain ⟨k, rfl⟩ : ∃ k : Nat, p = k := ⟨p.toNat, by omega⟩
    have a2 : a ≤ 2 := by simp at ha; omega
    simp -implicitDefEqProofs only [DL.WW, List.isEmpty_nil, List.map, List.length, List.length_cons, List.length_nil, List.length_set, List.replicate, List.append, List.cons_append, List.nil_append, List.append_nil, List.getElem?_cons_zero, List.getElem?_cons_succ, List.getElem?_nil, List.set_cons_zero, List.set_cons_succ, ↓reduceIte, Bool.false_eq_true, Bool.not_true, Bool.not_false, Bool.true_and, Bool.false_and, Bool.and_true, Bool.and_false, Bool.or_true, Bool.or_false, Bool.true_or, Bool.false_or, Nat.reduceAdd, Nat.reduceSub, Nat.reduceLT, Nat.reduceLeDiff, true_and, and_true, and_self, decide_eq_true_eq, Nat.zero_lt_succ, Nat.lt_add_left_iff_pos, beq_self_eq_true, String.reduceBEq, String.reduceEq, Nat.le_refl, Nat.zero_le, Bool.true_eq_false, decide_true, decide_false, Int.reduceEq, Int.reduceLT, Int.reduceLE, Int.reduceSub, Int.reduceAdd, DL.wIfT, DL.wListRg, DL.eSortT, DL.eAddS, DL.eInS, DL.eLenS, DL.wSlS, DL.wI2, DL.evd_mx, DL.evd_mn, DL.evd_gcd, DL.wIStr, DL.wIEnumS, DL.eJnL, DL.eJnT, DL.wJoin, DL.eStrI, DL.eIntS, DL.strsD_map]
    refine ⟨_, a, rfl, by have := (red_ok a ((k : Int) - 4)).1; omega, by omega, by omega, ?_⟩
    simp -implicitDefEqProofs only [DL.WW, List.isEmpty_nil, List.map, List.length, List.length_cons, List.length_nil, List.length_set, List.replicate, List.append, List.cons_append, List.nil_append, List.append_nil, List.getElem?_cons_zero, List.getElem?_cons_succ, List.getElem?_nil, List.set_cons_zero, List.set_cons_succ, ↓reduceIte, Bool.false_eq_true, Bool.not_true, Bool.not_false, Bool.true_and, Bool.false_and, Bool.and_true, Bool.and_false, Bool.or_true, Bool.or_false, Bool.true_or, Bool.false_or, Nat.reduceAdd, Nat.reduceSub, Nat.reduceLT, Nat.reduceLeDiff, true_and, and_true, and_self, decide_eq_true_eq, Nat.zero_lt_succ, Nat.lt_add_left_iff_pos, beq_self_eq_true, String.reduceBEq, String.reduceEq, Nat.le_refl, Nat.zero_le, Bool.true_eq_false, decide_true, decide_false, Int.reduceEq, Int.reduceLT, Int.reduceLE, Int.reduceSub, Int.reduceAdd, DL.wIfT, DL.wListRg, DL.eSortT, DL.eAddS, DL.eInS, DL.eLenS, DL.wSlS, DL.wI2, DL.evd_mx, DL.evd_mn, DL.evd_gcd, DL.wIStr, DL.wIEnumS, DL.eJnL, DL.eJnT, DL.wJoin, DL.eStrI, DL.eIntS, DL.strsD_map]
    exact hP _ _ ho3 (nm_num a ha k (List.mem_range.mpr (by omega)))
  rw [if_neg c3]
  by_cases c4 : v = 3
  · rw [if_pos c4]
    refine ⟨rfl, ?_⟩
    simp -implicitDefEqProofs only [DL.WW, List.isEmpty_nil, List.map, List.length, List.length_cons, List.length_nil, List.length_set, List.replicate, List.append, List.cons_append, List.nil_append, List.append_nil, List.getElem?_cons_zero, List.getElem?_cons_succ, List.getElem?_nil, List.set_cons_zero, List.set_cons_succ, ↓reduceIte, Bool.false_eq_true, Bool.not_true, Bool.not_false, Bool.true_and, Bool.false_and, Bool.and_true, Bool.and_false, Bool.or_true, Bool.or_false, Bool.true_or, Bool.false_or, Nat.reduceAdd, Nat.reduceSub, Nat.reduceLT, Nat.reduceLeDiff, true_and, and_true, and_self, decide_eq_true_eq, Nat.zero_lt_succ, Nat.lt_add_left_iff_pos, beq_self_eq_true, String.reduceBEq, String.reduceEq, Nat.le_refl, Nat.zero_le, Bool.true_eq_false, decide_true, decide_false, Int.reduceEq, Int.reduceLT, Int.reduceLE, Int.reduceSub, Int.reduceAdd, DL.wIfT, DL.wListRg, DL.eSortT, DL.eAddS, DL.eInS, DL.eLenS, DL.wSlS, DL.wI2, DL.evd_mx, DL.evd_mn, DL.evd_gcd, DL.wIStr, DL.wIEnumS, DL.eJnL, DL.eJnT, DL.wJoin, DL.eStrI, DL.eIntS, DL.strsD_map]
    exact hP _ _ ho1 nm_some.1
  rw [if_neg c4]
  by_cases c5 : v = 4
  · rw [if_pos c5]
    refine ⟨2, rfl, by decide, ?_⟩
    simp -implicitDefEqProofs only [DL.WW, List.isEmpty_nil, List.map, List.length, List.length_cons, List.length_nil, List.length_set, List.replicate, List.append, List.cons_append, List.nil_append, List.append_nil, List.getElem?_cons_zero, List.getElem?_cons_succ, List.getElem?_nil, List.set_cons_zero, List.set_cons_succ, ↓reduceIte, Bool.false_eq_true, Bool.not_true, Bool.not_false, Bool.true_and, Bool.false_and, Bool.and_true, Bool.and_false, Bool.or_true, Bool.or_false, Bool.true_or, Bool.false_or, Nat.reduceAdd, Nat.reduceSub, Nat.reduceLT, Nat.reduceLeDiff, true_and, and_true, and_self, decide_eq_true_eq, Nat.zero_lt_succ, Nat.lt_add_left_iff_pos, beq_self_eq_true, String.reduceBEq, String.reduceEq, Nat.le_refl, Nat.zero_le, Bool.true_eq_false, decide_true, decide_false, Int.reduceEq, Int.reduceLT, Int.reduceLE, Int.reduceSub, Int.reduceAdd, DL.wIfT, DL.wListRg, DL.eSortT, DL.eAddS, DL.eInS, DL.eLenS, DL.wSlS, DL.wI2, DL.evd_mx, DL.evd_mn, DL.evd_gcd, DL.wIStr, DL.wIEnumS, DL.eJnL, DL.eJnT, DL.wJoin, DL.eStrI, DL.eIntS, DL.strsD_map]
    exact hP _ _ ho1 nm_some.2.1
  rw [if_neg c5]
  refine ⟨rfl, ?_⟩
  simp -implicitDefEqProofs only [DL.WW, List.isEmpty_nil, List.map, List.length, List.length_cons, List.length_nil, List.length_set, List.replicate, List.append, List.cons_append, List.nil_append, List.append_nil, List.getElem?_cons_zero, List.getElem?_cons_succ, List.getElem?_nil, List.set_cons_zero, List.set_cons_succ, ↓reduceIte, Bool.false_eq_true, Bool.not_true, Bool.not_false, Bool.true_and, Bool.false_and, Bool.and_true, Bool.and_false, Bool.or_true, Bool.or_false, Bool.true_or, Bool.false_or, Nat.reduceAdd, Nat.reduceSub, Nat.reduceLT, Nat.reduceLeDiff, true_and, and_true, and_self, decide_eq_true_eq, Nat.zero_lt_succ, Nat.lt_add_left_iff_pos, beq_self_eq_true, String.reduceBEq, String.reduceEq, Nat.le_refl, Nat.zero_le, Bool.true_eq_false, decide_true, decide_false, Int.reduceEq, Int.reduceLT, Int.reduceLE, Int.reduceSub, Int.reduceAdd, DL.wIfT, DL.wListRg, DL.eSortT, DL.eAddS, DL.eInS, DL.eLenS, DL.wSlS, DL.wI2, DL.evd_mx, DL.evd_mn, DL.evd_gcd, DL.wIStr, DL.wIEnumS, DL.eJnL, DL.eJnT, DL.wJoin, DL.eStrI, DL.eIntS, DL.strsD_map]
  refine ⟨rfl, ?_⟩
  simp -implicitDefEqProofs only [DL.WW, List.isEmpty_nil, List.map, List.length, List.length_cons, List.length_nil, List.length_set, List.replicate, List.append, List.cons_append, List.nil_append, List.append_nil, List.getElem?_cons_zero, List.getElem?_cons_succ, List.getElem?_nil, List.set_cons_zero, List.set_cons_succ, ↓reduceIte, Bool.false_eq_true, Bool.not_true, Bool.not_false, Bool.true_and, Bool.false_and, Bool.and_true, Bool.and_false, Bool.or_true, Bool.or_false, Bool.true_or, Bool.false_or, Nat.reduceAdd, Nat.reduceSub, Nat.reduceLT, Nat.reduceLeDiff, true_and, and_true, and_self, decide_eq_true_eq, Nat.zero_lt_succ, Nat.lt_add_left_iff_pos, beq_self_eq_true, String.reduceBEq, String.reduceEq, Nat.le_refl, Nat.zero_le, Bool.true_eq_false, decide_true, decide_false, Int.reduceEq, Int.reduceLT, Int.reduceLE, Int.reduceSub, Int.reduceAdd, DL.wIfT, DL.wListRg, DL.eSortT, DL.eAddS, DL.eInS, DL.eLenS, DL.wSlS, DL.wI2, DL.evd_mx, DL.evd_mn, DL.evd_gcd, DL.wIStr, DL.wIEnumS, DL.eJnL, DL.eJnT, DL.wJoin, DL.eStrI, DL.eIntS, DL.strsD_map, dU]
  by_cases c7 : v < 7
  · rw [if_pos c7]
    split
    · exact hP _ _ ho1 nm_some.2.2.1
    · refine ⟨up, rfl, by decide +kernel, by decide +kernel, ?_⟩
      simp -implicitDefEqProofs only [DL.WW, List.isEmpty_nil, List.map, List.length, List.length_cons, List.length_nil, List.length_set, List.replicate, List.append, List.cons_append, List.nil_append, List.append_nil, List.getElem?_cons_zero, List.getElem?_cons_succ, List.getElem?_nil, List.set_cons_zero, List.set_cons_succ, ↓reduceIte, Bool.false_eq_true, Bool.not_true, Bool.not_false, Bool.true_and, Bool.false_and, Bool.and_true, Bool.and_false, Bool.or_true, Bool.or_false, Bool.true_or, Bool.false_or, Nat.reduceAdd, Nat.reduceSub, Nat.reduceLT, Nat.reduceLeDiff, true_and, and_true, and_self, decide_eq_true_eq, Nat.zero_lt_succ, Nat.lt_add_left_iff_pos, beq_self_eq_true, String.reduceBEq, String.reduceEq, Nat.le_refl, Nat.zero_le, Bool.true_eq_false, decide_true, decide_false, Int.reduceEq, Int.reduceLT, Int.reduceLE, Int.reduceSub, Int.reduceAdd, DL.wIfT, DL.wListRg, DL.eSortT, DL.eAddS, DL.eInS, DL.eLenS, DL.wSlS, DL.wI2, DL.evd_mx, DL.evd_mn, DL.evd_gcd, DL.wIStr, DL.wIEnumS, DL.eJnL, DL.eJnT, DL.wJoin, DL.eStrI, DL.eIntS, DL.strsD_map]
      exact hP _ _ ho1 nm_some.2.2.2.1
  rw [if_neg c7]
  by_cases c8 : v = 7
  · rw [if_pos c8]
    refine ⟨rfl, ?_⟩
    simp -implicitDefEqProofs only [DL.WW, List.isEmpty_nil, List.map, List.length, List.length_cons, List.length_nil, List.length_set, List.replicate, List.append, List.cons_append, List.nil_append, List.append_nil, List.getElem?_cons_zero, List.getElem?_cons_succ, List.getElem?_nil, List.set_cons_zero, List.set_cons_succ, ↓reduceIte, Bool.false_eq_true, Bool.not_true, Bool.not_false, Bool.true_and, Bool.false_and, Bool.and_true, Bool.and_false, Bool.or_true, Bool.or_false, Bool.true_or, Bool.false_or, Nat.reduceAdd, Nat.reduceSub, Nat.reduceLT, Nat.reduceLeDiff, true_and, and_true, and_self, decide_eq_true_eq, Nat.zero_lt_succ, Nat.lt_add_left_iff_pos, beq_self_eq_true, String.reduceBEq, String.reduceEq, Nat.le_refl, Nat.zero_le, Bool.true_eq_false, decide_true, decide_false, Int.reduceEq, Int.reduceLT, Int.reduceLE, Int.reduceSub, Int.reduceAdd, DL.wIfT, DL.wListRg, DL.eSortT, DL.eAddS, DL.eInS, DL.eLenS, DL.wSlS, DL.wI2, DL.evd_mx, DL.evd_mn, DL.evd_gcd, DL.wIStr, DL.wIEnumS, DL.eJnL, DL.eJnT, DL.wJoin, DL.eStrI, DL.eIntS, DL.strsD_map]
    refine ⟨rfl, ?_⟩
    simp -implicitDefEqProofs only [DL.WW, List.isEmpty_nil, List.map, List.length, List.length_cons, List.length_nil, List.length_set, List.replicate, List.append, List.cons_append, List.nil_append, List.append_nil, List.getElem?_cons_zero, List.getElem?_cons_succ, List.getElem?_nil, List.set_cons_zero, List.set_cons_succ, ↓reduceIte, Bool.false_eq_true, Bool.not_true, Bool.not_false, Bool.true_and, Bool.false_and, Bool.and_true, Bool.and_false, Bool.or_true, Bool.or_false, Bool.true_or, Bool.false_or, Nat.reduceAdd, Nat.reduceSub, Nat.reduceLT, Nat.reduceLeDiff, true_and, and_true, and_self, decide_eq_true_eq, Nat.zero_lt_succ, Nat.lt_add_left_iff_pos, beq_self_eq_true, String.reduceBEq, String.reduceEq, Nat.le_refl, Nat.zero_le, Bool.true_eq_false, decide_true, decide_false, Int.reduceEq, Int.reduceLT, Int.reduceLE, Int.reduceSub, Int.reduceAdd, DL.wIfT, DL.wListRg, DL.eSortT, DL.eAddS, DL.eInS, DL.eLenS, DL.wSlS, DL.wI2, DL.evd_mx, DL.evd_mn, DL.evd_gcd, DL.wIStr, DL.wIEnumS, DL.eJnL, DL.eJnT, DL.wJoin, DL.eStrI, DL.eIntS, DL.strsD_map]
    refine ⟨rfl, ?_⟩
    simp -implicitDefEqProofs only [DL.WW, List.isEmpty_nil, List.map, List.length, List.length_cons, List.length_nil, List.length_set, List.replicate, List.append, List.cons_append, List.nil_append, List.append_nil, List.getElem?_cons_zero, List.getElem?_cons_succ, List.getElem?_nil, List.set_cons_zero, List.set_cons_succ, ↓reduceIte, Bool.false_eq_true, Bool.not_true, Bool.not_false, Bool.true_and, Bool.false_and, Bool.and_true, Bool.and_false, Bool.or_true, Bool.or_false, Bool.true_or, Bool.false_or, Nat.reduceAdd, Nat.reduceSub, Nat.reduceLT, Nat.reduceLeDiff, true_and, and_true, and_self, decide_eq_true_eq, Nat.zero_lt_succ, Nat.lt_add_left_iff_pos, beq_self_eq_true, String.reduceBEq, String.reduceEq, Nat.le_refl, Nat.zero_le, Bool.true_eq_false, decide_true, decide_false, Int.reduceEq, Int.reduceLT, Int.reduceLE, Int.reduceSub, Int.reduceAdd, DL.wIfT, DL.wListRg, DL.eSortT, DL.eAddS, DL.eInS, DL.eLenS, DL.wSlS, DL.wI2, DL.evd_mx, DL.evd_mn, DL.evd_gcd, DL.wIStr, DL.wIEnumS, DL.eJnL, DL.eJnT, DL.wJoin, DL.eStrI, DL.eIntS, DL.strsD_map, dUS]
    exact hP _ _ ho1 nm_some.2.2.2.2
  rw [if_neg c8]
  by_cases c11 : v < 11
  · rw [if_pos c11]
    refine ⟨o1, _, rfl, ho1, ⟨by decide, by decide⟩, fun h o2 ho2 h0 h1 => ?_⟩
    simp -implicitDefEqProofs only [DL.WW, List.isEmpty_nil, List.map, List.length, List.length_cons, List.length_nil, List.length_set, List.replicate, List.append, List.cons_append, List.nil_append, List.append_nil, List.getElem?_cons_zero, List.getElem?_cons_succ, List.getElem?_nil, List.set_cons_zero, List.set_cons_succ, ↓reduceIte, Bool.false_eq_true, Bool.not_true, Bool.not_false, Bool.true_and, Bool.false_and, Bool.and_true, Bool.and_false, Bool.or_true, Bool.or_false, Bool.true_or, Bool.false_or, Nat.reduceAdd, Nat.reduceSub, Nat.reduceLT, Nat.reduceLeDiff, true_and, and_true, and_self, decide_eq_true_eq, Nat.zero_lt_succ, Nat.lt_add_left_iff_pos, beq_self_eq_true, String.reduceBEq, String.reduceEq, Nat.le_refl, Nat.zero_le, Bool.true_eq_false, decide_true, decide_false, Int.reduceEq, Int.reduceLT, Int.reduceLE, Int.reduceSub, Int.reduceAdd, DL.wIfT, DL.wListRg, DL.eSortT, DL.eAddS, DL.eInS, DL.eLenS, DL.wSlS, DL.wI2, DL.evd_mx, DL.evd_mn, DL.evd_gcd, DL.wIStr, DL.wIEnumS, DL.eJnL, DL.eJnT, DL.wJoin, DL.eStrI, DL.eIntS, DL.strsD_map]
    refine ⟨o2, _, rfl, ho2, ⟨by decide, by decide⟩, fun l o3 ho3 l0 l1 => ?_⟩
    obtain ⟨h, rfl⟩ : ∃ k : Nat, h = k := ⟨h.toNat, by omega⟩
    obtain ⟨l, rfl⟩ : ∃ k : Nat, l = k := ⟨l.toNat, by omega⟩
    simp -implicitDefEqProofs only [DL.WW, List.isEmpty_nil, List.map, List.length, List.length_cons, List.length_nil, List.length_set, List.replicate, List.append, List.cons_append, List.nil_append, List.append_nil, List.getElem?_cons_zero, List.getElem?_cons_succ, List.getElem?_nil, List.set_cons_zero, List.set_cons_succ, ↓reduceIte, Bool.false_eq_true, Bool.not_true, Bool.not_false, Bool.true_and, Bool.false_and, Bool.and_true, Bool.and_false, Bool.or_true, Bool.or_false, Bool.true_or, Bool.false_or, Nat.reduceAdd, Nat.reduceSub, Nat.reduceLT, Nat.reduceLeDiff, true_and, and_true, and_self, decide_eq_true_eq, Nat.zero_lt_succ, Nat.lt_add_left_iff_pos, beq_self_eq_true, String.reduceBEq, String.reduceEq, Nat.le_refl, Nat.zero_le, Bool.true_eq_false, decide_true, decide_false, Int.reduceEq, Int.reduceLT, Int.reduceLE, Int.reduceSub, Int.reduceAdd, DL.wIfT, DL.wListRg, DL.eSortT, DL.eAddS, DL.eInS, DL.eLenS, DL.wSlS, DL.wI2, DL.evd_mx, DL.evd_mn, DL.evd_gcd, DL.wIStr, DL.wIEnumS, DL.eJnL, DL.eJnT, DL.wJoin, DL.eStrI, DL.eIntS, DL.strsD_map]
    refine ⟨_, rfl, ⟨by omega, by omega⟩, ?_⟩
    simp -implicitDefEqProofs only [DL.WW, List.isEmpty_nil, List.map, List.length, List.length_cons, List.length_nil, List.length_set, List.replicate, List.append, List.cons_append, List.nil_append, List.append_nil, List.getElem?_cons_zero, List.getElem?_cons_succ, List.getElem?_nil, List.set_cons_zero, List.set_cons_succ, ↓reduceIte, Bool.false_eq_true, Bool.not_true, Bool.not_false, Bool.true_and, Bool.false_and, Bool.and_true, Bool.and_false, Bool.or_true, Bool.or_false, Bool.true_or, Bool.false_or, Nat.reduceAdd, Nat.reduceSub, Nat.reduceLT, Nat.reduceLeDiff, true_and, and_true, and_self, decide_eq_true_eq, Nat.zero_lt_succ, Nat.lt_add_left_iff_pos, beq_self_eq_true, String.reduceBEq, String.reduceEq, Nat.le_refl, Nat.zero_le, Bool.true_eq_false, decide_true, decide_false, Int.reduceEq, Int.reduceLT, Int.reduceLE, Int.reduceSub, Int.reduceAdd, DL.wIfT, DL.wListRg, DL.eSortT, DL.eAddS, DL.eInS, DL.eLenS, DL.wSlS, DL.wI2, DL.evd_mx, DL.evd_mn, DL.evd_gcd, DL.wIStr, DL.wIEnumS, DL.eJnL, DL.eJnT, DL.wJoin, DL.eStrI, DL.eIntS, DL.strsD_map]
    refine ⟨_, rfl, ⟨by omega, by omega⟩, ?_⟩
    simp -implicitDefEqProofs only [DL.WW, List.isEmpty_nil, List.map, List.length, List.length_cons, List.length_nil, List.length_set, List.replicate, List.append, List.cons_append, List.nil_append, List.append_nil, List.getElem?_cons_zero, List.getElem?_cons_succ, List.getElem?_nil, List.set_cons_zero, List.set_cons_succ, ↓reduceIte, Bool.false_eq_true, Bool.not_true, Bool.not_false, Bool.true_and, Bool.false_and, Bool.and_true, Bool.and_false, Bool.or_true, Bool.or_false, Bool.true_or, Bool.false_or, Nat.reduceAdd, Nat.reduceSub, Nat.reduceLT, Nat.reduceLeDiff, true_and, and_true, and_self, decide_eq_true_eq, Nat.zero_lt_succ, Nat.lt_add_left_iff_pos, beq_self_eq_true, String.reduceBEq, String.reduceEq, Nat.le_refl, Nat.zero_le, Bool.true_eq_false, decide_true, decide_false, Int.reduceEq, Int.reduceLT, Int.reduceLE, Int.reduceSub, Int.reduceAdd, DL.wIfT, DL.wListRg, DL.eSortT, DL.eAddS, DL.eInS, DL.eLenS, DL.wSlS, DL.wI2, DL.evd_mx, DL.evd_mn, DL.evd_gcd, DL.wIStr, DL.wIEnumS, DL.eJnL, DL.eJnT, DL.wJoin, DL.eStrI, DL.eIntS, DL.strsD_map]
    have := hP _ _ ho3 (nm_sw h (List.mem_range.mpr (by omega)) l (List.mem_range.mpr (by omega)))
    rw [gD_mk] at this
    exact this
  rw [if_neg c11]
  refine ⟨rfl, ?_⟩
  simp -implicitDefEqProofs only [DL.WW, List.isEmpty_nil, List.map, List.length, List.length_cons, List.length_nil, List.length_set, List.replicate, List.append, List.cons_append, List.nil_append, List.append_nil, List.getElem?_cons_zero, List.getElem?_cons_succ, List.getElem?_nil, List.set_cons_zero, List.set_cons_succ, ↓reduceIte, Bool.false_eq_true, Bool.not_true, Bool.not_false, Bool.true_and, Bool.false_and, Bool.and_true, Bool.and_false, Bool.or_true, Bool.or_false, Bool.true_or, Bool.false_or, Nat.reduceAdd, Nat.reduceSub, Nat.reduceLT, Nat.reduceLeDiff, true_and, and_true, and_self, decide_eq_true_eq, Nat.zero_lt_succ, Nat.lt_add_left_iff_pos, beq_self_eq_true, String.reduceBEq, String.reduceEq, Nat.le_refl, Nat.zero_le, Bool.true_eq_false, decide_true, decide_false, Int.reduceEq, Int.reduceLT, Int.reduceLE, Int.reduceSub, Int.reduceAdd, DL.wIfT, DL.wListRg, DL.eSortT, DL.eAddS, DL.eInS, DL.eLenS, DL.wSlS, DL.wI2, DL.evd_mx, DL.evd_mn, DL.evd_gcd, DL.wIStr, DL.wIEnumS, DL.eJnL, DL.eJnT, DL.wJoin, DL.eStrI, DL.eIntS, DL.strsD_map]
  refine ⟨o1, _, rfl, ho1, ⟨by decide, by decide⟩, fun l o3 ho3 l0 l1 => ?_⟩
  obtain ⟨l, rfl⟩ : ∃ k : Nat, l = k := ⟨l.toNat, by omega⟩
  simp -implicitDefEqProofs only [DL.WW, List.isEmpty_nil, List.map, List.length, List.length_cons, List.length_nil, List.length_set, List.replicate, List.append, List.cons_append, List.nil_append, List.append_nil, List.getElem?_cons_zero, List.getElem?_cons_succ, List.getElem?_nil, List.set_cons_zero, List.set_cons_succ, ↓reduceIte, Bool.false_eq_true, Bool.not_true, Bool.not_false, Bool.true_and, Bool.false_and, Bool.and_true, Bool.and_false, Bool.or_true, Bool.or_false, Bool.true_or, Bool.false_or, Nat.reduceAdd, Nat.reduceSub, Nat.reduceLT, Nat.reduceLeDiff, true_and, and_true, and_self, decide_eq_true_eq, Nat.zero_lt_succ, Nat.lt_add_left_iff_pos, beq_self_eq_true, String.reduceBEq, String.reduceEq, Nat.le_refl, Nat.zero_le, Bool.true_eq_false, decide_true, decide_false, Int.reduceEq, Int.reduceLT, Int.reduceLE, Int.reduceSub, Int.reduceAdd, DL.wIfT, DL.wListRg, DL.eSortT, DL.eAddS, DL.eInS, DL.eLenS, DL.wSlS, DL.wI2, DL.evd_mx, DL.evd_mn, DL.evd_gcd, DL.wIStr, DL.wIEnumS, DL.eJnL, DL.eJnT, DL.wJoin, DL.eStrI, DL.eIntS, DL.strsD_map]
  refine ⟨_, rfl, ⟨by omega, by omega⟩, ?_⟩
  simp -implicitDefEqProofs only [DL.WW, List.isEmpty_nil, List.map, List.length, List.length_cons, List.length_nil, List.length_set, List.replicate, List.append, List.cons_append, List.nil_append, List.append_nil, List.getElem?_cons_zero, List.getElem?_cons_succ, List.getElem?_nil, List.set_cons_zero, List.set_cons_succ, ↓reduceIte, Bool.false_eq_true, Bool.not_true, Bool.not_false, Bool.true_and, Bool.false_and, Bool.and_true, Bool.and_false, Bool.or_true, Bool.or_false, Bool.true_or, Bool.false_or, Nat.reduceAdd, Nat.reduceSub, Nat.reduceLT, Nat.reduceLeDiff, true_and, and_true, and_self, decide_eq_true_eq, Nat.zero_lt_succ, Nat.lt_add_left_iff_pos, beq_self_eq_true, String.reduceBEq, String.reduceEq, Nat.le_refl, Nat.zero_le, Bool.true_eq_false, decide_true, decide_false, Int.reduceEq, Int.reduceLT, Int.reduceLE, Int.reduceSub, Int.reduceAdd, DL.wIfT, DL.wListRg, DL.eSortT, DL.eAddS, DL.eInS, DL.eLenS, DL.wSlS, DL.wI2, DL.evd_mx, DL.evd_mn, DL.evd_gcd, DL.wIStr, DL.wIEnumS, DL.eJnL, DL.eJnT, DL.wJoin, DL.eStrI, DL.eIntS, DL.strsD_map]
  refine ⟨rfl, ?_⟩
  simp -implicitDefEqProofs only [DL.WW, List.isEmpty_nil, List.map, List.length, List.length_cons, List.length_nil, List.length_set, List.replicate, List.append, List.cons_append, List.nil_append, List.append_nil, List.getElem?_cons_zero, List.getElem?_cons_succ, List.getElem?_nil, List.set_cons_zero, List.set_cons_succ, ↓reduceIte, Bool.false_eq_true, Bool.not_true, Bool.not_false, Bool.true_and, Bool.false_and, Bool.and_true, Bool.and_false, Bool.or_true, Bool.or_false, Bool.true_or, Bool.false_or, Nat.reduceAdd, Nat.reduceSub, Nat.reduceLT, Nat.reduceLeDiff, true_and, and_true, and_self, decide_eq_true_eq, Nat.zero_lt_succ, Nat.lt_add_left_iff_pos, beq_self_eq_true, String.reduceBEq, String.reduceEq, Nat.le_refl, Nat.zero_le, Bool.true_eq_false, decide_true, decide_false, Int.reduceEq, Int.reduceLT, Int.reduceLE, Int.reduceSub, Int.reduceAdd, DL.wIfT, DL.wListRg, DL.eSortT, DL.eAddS, DL.eInS, DL.eLenS, DL.wSlS, DL.wI2, DL.evd_mx, DL.evd_mn, DL.evd_gcd, DL.wIStr, DL.wIEnumS, DL.eJnL, DL.eJnT, DL.wJoin, DL.eStrI, DL.eIntS, DL.strsD_map]
  have := hP _ _ ho3 (nm_tiny l (List.mem_range.mpr (by omega)))
  rw [gD_mk, List.map_singleton, List.map_singleton, gD_mk] at this
  exact this
end
end K06D


set_option Elab.async false
set_option linter.all false
set_option maxRecDepth 100000
set_option maxHeartbeats 4000000
namespace K06D
open PySem L2 TG DL K06 SK TXG
section
variable {P : Program} {w : World} {K : PySem.W.Frag} {mg : Str → Option Value} {base : Heap}
def nB : Nat → Nat
  | 0 => 200
  | f + 1 => 1 + 4 * nB f
theorem nB_le (f : Nat) : 200 ≤ nB f := by
  induction f with
  | zero => exact Nat.le_refl _
  | succ f ih => rw [nB]; omega
def Gm (f : Nat) (g : G) : Prop := ht g ≤ f + 7 ∧ nd g ≤ nB f
def F_lg (f : Nat) : FSp := fun args P => ∃ (o : Ob), args = [some (.ob (some 0) o), some (.dat (.int (f : Int)))] ∧ IsRow o ∧ f ≤ 3 ∧ ∀ (g : G) (o' : Ob), IsRow o' → Gm f g → P (.dat (gD g)) [some (.ob (some 0) o'), none]
section
variable {f : Nat} {Fi : FSp} (hE : ∀ m', f = m' + 1 → Fi = F_lg m')
include hE
theorem ok_law_game {k : Nat} (T : Txt K mg) (G_law_taken : FnOk P w K mg base CX0 k T.a_law_taken T.d_law_taken ["_law_row", "_law_many"] (spD K F_law_taken)) (G_law_named : FnOk P w K mg base CX0 k T.a_law_named T.d_law_named ["_law_row"] (spD K F_law_named)) (G_law_zero : FnOk P w K mg base CX0 k T.a_law_zero T.d_law_zero [] (spD K F_law_zero)) (G_law_game : FnOk P w K mg base CX0 k T.a_law_game T.d_law_game ["_law_row", "_law_deep"] (spD K Fi)) : FnOk P w K mg base CX0 (k + 1) T.a_law_game T.d_law_game ["_law_row", "_law_deep"] (spD K (F_lg f)) := by
  refine T.F_law_game.ok sc_law_game (fun vs H Q E h => spD_len (fun args P hF => ?_) h) (fun cdv A outer s H vs Q E hr h => ⟨_, (pss_cons (ps_if (PW.pt (pw_or (pt_cmpR (op_eqDK (K := K) rfl hr.units) (pv 1) pe_int (nomark _)) (pw_or1 (pt_cmpR (op_eqDK (K := K) rfl hr.units) (pe_call G_law_taken hr rfl T.g_law_taken T.F_law_taken.kp T.b_law_taken .nil pass0 (pa_cons (pv 0) (pa_cons pe_int pa_nil))) pe_int (nomark _)))))
  (pss_one (ps_ret (pe_ifExp (pt_cmpR op_gt (pe_call G_law_taken hr rfl T.g_law_taken T.F_law_taken.kp T.b_law_taken .nil pass0 (pa_cons (pv 0) (pa_cons pe_int pa_nil))) pe_int (nomark _)) (pe_call G_law_named hr rfl T.g_law_named T.F_law_named.kp T.b_law_named .nil pass0 (pa_cons (pv 0) pa_nil)) (pe_call0 G_law_zero hr rfl T.g_law_zero T.F_law_zero.kp T.b_law_zero .nil pass0))))
  pss_nil)
  (pss_cons (ps_set (i := 2) sc_law_game.nd rfl (Or.inl rfl) (pe_lst pa_nil))
  (pss_cons (ps_for PassesOwn.never rfl (pi_range1 rfl T.m_range (pa_cons pe_int pa_nil)) (pg_name (i := 3) sc_law_game.nd rfl (Or.inl rfl))
  (pss_one (ps_expr (pe_bmK (K := K) rfl PySem.F.plainAttrs_list PySem.F.slot_list_append PySem.F.type_list_append mt_append (pv 2) (pa_cons (pe_callTy (call_tuple_ofK (K := K) rfl) rfl T.m_tuple (by decide +kernel) (pa_cons (pe_lc (own := [("_law_at", 4)]) rfl sc_law_game.nd (pi_range1 rfl T.m_range (pa_cons (pe_call G_law_taken hr rfl T.g_law_taken T.F_law_taken.kp T.b_law_taken .nil pass0 (pa_cons (pv 0) (pa_cons pe_int pa_nil))) pa_nil)) (blkOk_by (N := ["_law_row", "_law_deep", "_law_sides", "_law_side", "_law_at"]) (sc := defScope s_law_game) (by decide +kernel)) (fun _ _ _ _ _ => (pg_name (i := 4) sc_law_game.nd rfl (Or.inl rfl))) (fun _ _ _ _ _ => pts_nil) (fun _ _ _ _ _ => (pe_call G_law_game hr rfl T.g_law_game T.F_law_game.kp T.b_law_game .nil pass0 (pa_cons (pv 0) (pa_cons (pe_op op_sub (pv 1) pe_int) pa_nil))))) pa_nil)) pa_nil)))))
  (pss_one (ps_ret (pe_tup (pa_cons (pe_ix (ix_listK (K := K) rfl) (pv 2) pe_int (fun _ _ => rfl)) (pa_cons (pe_ix (ix_listK (K := K) rfl) (pv 2) pe_int (fun _ _ => rfl)) pa_nil)))))))), fn_run (N := ["_law_row", "_law_deep", "_law_sides", "_law_side", "_law_at"]) h (fun A' Hz' => (ss_seq (ss_if (st_or (st_test (se_op sr_eqD se_var se_int)) (st_test (se_op sr_eqD (se_callO (sa_cons se_int sa_nil)) se_int)))
  (ss_ret (se_if (st_test (se_op (sr_I0 (fun _ _ => rfl)) (se_callO (sa_cons se_int sa_nil)) se_int)) (se_callO sa_nil) (se_call sa_nil)))
  ss_next)
  (ss_seq (ss_asg (se_lst sa_nil) sg_name)
  (ss_seq (ss_for (si_rng1 se_int) sg_name
  (ss_drop (se_app (se_cb1 sc_tupOf (se_lc (si_rng1 (se_callO (sa_cons se_int sa_nil))) sg_name st_yes (se_callO (sa_cons (se_op (sr_I0 (fun _ _ => rfl)) se_var se_int) sa_nil)) (by decide))))))
  (ss_ret (se_tup (sa_cons (se_op sr_ixL se_var se_int) (sa_cons (se_op sr_ixL se_var se_int) sa_nil)))))))) (fun args P hl hF => ?_)⟩)
  · obtain ⟨o, rfl, _⟩ := hF
    rfl
  obtain ⟨o, rfl, ho, hf3, hP⟩ := hF
  have hb := nB_le f
  have nm : ∀ g, Nm g → Gm f g := fun g hg => ⟨by have := hg.1; omega, by have := hg.2; omega⟩
  have gz : Gm f z := nm z (by decide +kernel)
  simp -implicitDefEqProofs only [DL.WW, List.isEmpty_nil, List.map, List.length, List.length_cons, List.length_nil, List.length_set, List.replicate, List.append, List.cons_append, List.nil_append, List.append_nil, List.getElem?_cons_zero, List.getElem?_cons_succ, List.getElem?_nil, List.set_cons_zero, List.set_cons_succ, ↓reduceIte, Bool.false_eq_true, Bool.not_true, Bool.not_false, Bool.true_and, Bool.false_and, Bool.and_true, Bool.and_false, Bool.or_true, Bool.or_false, Bool.true_or, Bool.false_or, Nat.reduceAdd, Nat.reduceSub, Nat.reduceLT, Nat.reduceLeDiff, true_and, and_true, and_self, decide_eq_true_eq, Nat.zero_lt_succ, Nat.lt_add_left_iff_pos, beq_self_eq_true, String.reduceBEq, String.reduceEq, Nat.le_refl, Nat.zero_le, Bool.true_eq_false, decide_true, decide_false, Int.reduceEq, Int.reduceLT, Int.reduceLE, Int.reduceSub, Int.reduceAdd, DL.wIfT, DL.wListRg, DL.eSortT, DL.eAddS, DL.eInS, DL.eLenS, DL.wSlS, DL.wI2, DL.evd_mx, DL.evd_mn, DL.evd_gcd, DL.wIStr, DL.wIEnumS, DL.eJnL, DL.eJnT, DL.wJoin, DL.eStrI, DL.eIntS, DL.strsD_map]
  by_cases cf : (f : Int) = 0
  · rw [if_pos cf]
    refine ⟨o, _, rfl, ho, ⟨by decide, by decide⟩, fun y o2 ho2 y0 y1 => ?_⟩
    simp -implicitDefEqProofs only [DL.WW, List.isEmpty_nil, List.map, List.length, List.length_cons, List.length_nil, List.length_set, List.replicate, List.append, List.cons_append, List.nil_append, List.append_nil, List.getElem?_cons_zero, List.getElem?_cons_succ, List.getElem?_nil, List.set_cons_zero, List.set_cons_succ, ↓reduceIte, Bool.false_eq_true, Bool.not_true, Bool.not_false, Bool.true_and, Bool.false_and, Bool.and_true, Bool.and_false, Bool.or_true, Bool.or_false, Bool.true_or, Bool.false_or, Nat.reduceAdd, Nat.reduceSub, Nat.reduceLT, Nat.reduceLeDiff, true_and, and_true, and_self, decide_eq_true_eq, Nat.zero_lt_succ, Nat.lt_add_left_iff_pos, beq_self_eq_true, String.reduceBEq, String.reduceEq, Nat.le_refl, Nat.zero_le, Bool.true_eq_false, decide_true, decide_false, Int.reduceEq, Int.reduceLT, Int.reduceLE, Int.reduceSub, Int.reduceAdd, DL.wIfT, DL.wListRg, DL.eSortT, DL.eAddS, DL.eInS, DL.eLenS, DL.wSlS, DL.wI2, DL.evd_mx, DL.evd_mn, DL.evd_gcd, DL.wIStr, DL.wIEnumS, DL.eJnL, DL.eJnT, DL.wJoin, DL.eStrI, DL.eIntS, DL.strsD_map]
    split
    · refine ⟨o2, rfl, ho2, fun g o3 ho3 hg => ?_⟩
      simp -implicitDefEqProofs only [DL.WW, List.isEmpty_nil, List.map, List.length, List.length_cons, List.length_nil, List.length_set, List.replicate, List.append, List.cons_append, List.nil_append, List.append_nil, List.getElem?_cons_zero, List.getElem?_cons_succ, List.getElem?_nil, List.set_cons_zero, List.set_cons_succ, ↓reduceIte, Bool.false_eq_true, Bool.not_true, Bool.not_false, Bool.true_and, Bool.false_and, Bool.and_true, Bool.and_false, Bool.or_true, Bool.or_false, Bool.true_or, Bool.false_or, Nat.reduceAdd, Nat.reduceSub, Nat.reduceLT, Nat.reduceLeDiff, true_and, and_true, and_self, decide_eq_true_eq, Nat.zero_lt_succ, Nat.lt_add_left_iff_pos, beq_self_eq_true, String.reduceBEq, String.reduceEq, Nat.le_refl, Nat.zero_le, Bool.true_eq_false, decide_true, decide_false, Int.reduceEq, Int.reduceLT, Int.reduceLE, Int.reduceSub, Int.reduceAdd, DL.wIfT, DL.wListRg, DL.eSortT, DL.eAddS, DL.eInS, DL.eLenS, DL.wSlS, DL.wI2, DL.evd_mx, DL.evd_mn, DL.evd_gcd, DL.wIStr, DL.wIEnumS, DL.eJnL, DL.eJnT, DL.wJoin, DL.eStrI, DL.eIntS, DL.strsD_map]
      exact hP _ _ ho3 (nm g hg)
    · refine ⟨rfl, ?_⟩
      simp -implicitDefEqProofs only [DL.WW, List.isEmpty_nil, List.map, List.length, List.length_cons, List.length_nil, List.length_set, List.replicate, List.append, List.cons_append, List.nil_append, List.append_nil, List.getElem?_cons_zero, List.getElem?_cons_succ, List.getElem?_nil, List.set_cons_zero, List.set_cons_succ, ↓reduceIte, Bool.false_eq_true, Bool.not_true, Bool.not_false, Bool.true_and, Bool.false_and, Bool.and_true, Bool.and_false, Bool.or_true, Bool.or_false, Bool.true_or, Bool.false_or, Nat.reduceAdd, Nat.reduceSub, Nat.reduceLT, Nat.reduceLeDiff, true_and, and_true, and_self, decide_eq_true_eq, Nat.zero_lt_succ, Nat.lt_add_left_iff_pos, beq_self_eq_true, String.reduceBEq, String.reduceEq, Nat.le_refl, Nat.zero_le, Bool.true_eq_false, decide_true, decide_false, Int.reduceEq, Int.reduceLT, Int.reduceLE, Int.reduceSub, Int.reduceAdd, DL.wIfT, DL.wListRg, DL.eSortT, DL.eAddS, DL.eInS, DL.eLenS, DL.wSlS, DL.wI2, DL.evd_mx, DL.evd_mn, DL.evd_gcd, DL.wIStr, DL.wIEnumS, DL.eJnL, DL.eJnT, DL.wJoin, DL.eStrI, DL.eIntS, DL.strsD_map]
      exact hP _ _ ho2 gz
  rw [if_neg cf]
  obtain ⟨f, rfl⟩ : ∃ f', f = f' + 1 := ⟨f - 1, by omega⟩
  have hFi := hE f rfl
  subst hFi
  refine ⟨o, _, rfl, ho, ⟨by decide, by decide⟩, fun x o1 ho1 x0 x1 => ?_⟩
  simp -implicitDefEqProofs only [DL.WW, List.isEmpty_nil, List.map, List.length, List.length_cons, List.length_nil, List.length_set, List.replicate, List.append, List.cons_append, List.nil_append, List.append_nil, List.getElem?_cons_zero, List.getElem?_cons_succ, List.getElem?_nil, List.set_cons_zero, List.set_cons_succ, ↓reduceIte, Bool.false_eq_true, Bool.not_true, Bool.not_false, Bool.true_and, Bool.false_and, Bool.and_true, Bool.and_false, Bool.or_true, Bool.or_false, Bool.true_or, Bool.false_or, Nat.reduceAdd, Nat.reduceSub, Nat.reduceLT, Nat.reduceLeDiff, true_and, and_true, and_self, decide_eq_true_eq, Nat.zero_lt_succ, Nat.lt_add_left_iff_pos, beq_self_eq_true, String.reduceBEq, String.reduceEq, Nat.le_refl, Nat.zero_le, Bool.true_eq_false, decide_true, decide_false, Int.reduceEq, Int.reduceLT, Int.reduceLE, Int.reduceSub, Int.reduceAdd, DL.wIfT, DL.wListRg, DL.eSortT, DL.eAddS, DL.eInS, DL.eLenS, DL.wSlS, DL.wI2, DL.evd_mx, DL.evd_mn, DL.evd_gcd, DL.wIStr, DL.wIEnumS, DL.eJnL, DL.eJnT, DL.wJoin, DL.eStrI, DL.eIntS, DL.strsD_map]
  by_cases cx : x = 0
  · rw [if_pos cx]
    refine ⟨o1, _, rfl, ho1, ⟨by decide, by decide⟩, fun y o2 ho2 y0 y1 => ?_⟩
    simp -implicitDefEqProofs only [DL.WW, List.isEmpty_nil, List.map, List.length, List.length_cons, List.length_nil, List.length_set, List.replicate, List.append, List.cons_append, List.nil_append, List.append_nil, List.getElem?_cons_zero, List.getElem?_cons_succ, List.getElem?_nil, List.set_cons_zero, List.set_cons_succ, ↓reduceIte, Bool.false_eq_true, Bool.not_true, Bool.not_false, Bool.true_and, Bool.false_and, Bool.and_true, Bool.and_false, Bool.or_true, Bool.or_false, Bool.true_or, Bool.false_or, Nat.reduceAdd, Nat.reduceSub, Nat.reduceLT, Nat.reduceLeDiff, true_and, and_true, and_self, decide_eq_true_eq, Nat.zero_lt_succ, Nat.lt_add_left_iff_pos, beq_self_eq_true, String.reduceBEq, String.reduceEq, Nat.le_refl, Nat.zero_le, Bool.true_eq_false, decide_true, decide_false, Int.reduceEq, Int.reduceLT, Int.reduceLE, Int.reduceSub, Int.reduceAdd, DL.wIfT, DL.wListRg, DL.eSortT, DL.eAddS, DL.eInS, DL.eLenS, DL.wSlS, DL.wI2, DL.evd_mx, DL.evd_mn, DL.evd_gcd, DL.wIStr, DL.wIEnumS, DL.eJnL, DL.eJnT, DL.wJoin, DL.eStrI, DL.eIntS, DL.strsD_map]
    split
    · refine ⟨o2, rfl, ho2, fun g o3 ho3 hg => ?_⟩
      simp -implicitDefEqProofs only [DL.WW, List.isEmpty_nil, List.map, List.length, List.length_cons, List.length_nil, List.length_set, List.replicate, List.append, List.cons_append, List.nil_append, List.append_nil, List.getElem?_cons_zero, List.getElem?_cons_succ, List.getElem?_nil, List.set_cons_zero, List.set_cons_succ, ↓reduceIte, Bool.false_eq_true, Bool.not_true, Bool.not_false, Bool.true_and, Bool.false_and, Bool.and_true, Bool.and_false, Bool.or_true, Bool.or_false, Bool.true_or, Bool.false_or, Nat.reduceAdd, Nat.reduceSub, Nat.reduceLT, Nat.reduceLeDiff, true_and, and_true, and_self, decide_eq_true_eq, Nat.zero_lt_succ, Nat.lt_add_left_iff_pos, beq_self_eq_true, String.reduceBEq, String.reduceEq, Nat.le_refl, Nat.zero_le, Bool.true_eq_false, decide_true, decide_false, Int.reduceEq, Int.reduceLT, Int.reduceLE, Int.reduceSub, Int.reduceAdd, DL.wIfT, DL.wListRg, DL.eSortT, DL.eAddS, DL.eInS, DL.eLenS, DL.wSlS, DL.wI2, DL.evd_mx, DL.evd_mn, DL.evd_gcd, DL.wIStr, DL.wIEnumS, DL.eJnL, DL.eJnT, DL.wJoin, DL.eStrI, DL.eIntS, DL.strsD_map]
      exact hP _ _ ho3 (nm g hg)
    · refine ⟨rfl, ?_⟩
      simp -implicitDefEqProofs only [DL.WW, List.isEmpty_nil, List.map, List.length, List.length_cons, List.length_nil, List.length_set, List.replicate, List.append, List.cons_append, List.nil_append, List.append_nil, List.getElem?_cons_zero, List.getElem?_cons_succ, List.getElem?_nil, List.set_cons_zero, List.set_cons_succ, ↓reduceIte, Bool.false_eq_true, Bool.not_true, Bool.not_false, Bool.true_and, Bool.false_and, Bool.and_true, Bool.and_false, Bool.or_true, Bool.or_false, Bool.true_or, Bool.false_or, Nat.reduceAdd, Nat.reduceSub, Nat.reduceLT, Nat.reduceLeDiff, true_and, and_true, and_self, decide_eq_true_eq, Nat.zero_lt_succ, Nat.lt_add_left_iff_pos, beq_self_eq_true, String.reduceBEq, String.reduceEq, Nat.le_refl, Nat.zero_le, Bool.true_eq_false, decide_true, decide_false, Int.reduceEq, Int.reduceLT, Int.reduceLE, Int.reduceSub, Int.reduceAdd, DL.wIfT, DL.wListRg, DL.eSortT, DL.eAddS, DL.eInS, DL.eLenS, DL.wSlS, DL.wI2, DL.evd_mx, DL.evd_mn, DL.evd_gcd, DL.wIStr, DL.wIEnumS, DL.eJnL, DL.eJnT, DL.wJoin, DL.eStrI, DL.eIntS, DL.strsD_map]
      exact hP _ _ ho2 gz
  rw [if_neg cx]
  have hnil2 : ∀ g : G, g ∈ ([] : List G) → Gm f g := fun l hl => by cases hl
  have hnil : ∀ l : List G, l ∈ ([] : List (List G)) → l.length ≤ 2 ∧ ∀ g ∈ l, Gm f g := fun l hl => by cases hl
  refine for_use ?_
  simp -implicitDefEqProofs only [DL.WW, List.isEmpty_nil, List.map, List.length, List.length_cons, List.length_nil, List.length_set, List.replicate, List.append, List.cons_append, List.nil_append, List.append_nil, List.getElem?_cons_zero, List.getElem?_cons_succ, List.getElem?_nil, List.set_cons_zero, List.set_cons_succ, ↓reduceIte, Bool.false_eq_true, Bool.not_true, Bool.not_false, Bool.true_and, Bool.false_and, Bool.and_true, Bool.and_false, Bool.or_true, Bool.or_false, Bool.true_or, Bool.false_or, Nat.reduceAdd, Nat.reduceSub, Nat.reduceLT, Nat.reduceLeDiff, true_and, and_true, and_self, decide_eq_true_eq, Nat.zero_lt_succ, Nat.lt_add_left_iff_pos, beq_self_eq_true, String.reduceBEq, String.reduceEq, Nat.le_refl, Nat.zero_le, Bool.true_eq_false, decide_true, decide_false, Int.reduceEq, Int.reduceLT, Int.reduceLE, Int.reduceSub, Int.reduceAdd, DL.wIfT, DL.wListRg, DL.eSortT, DL.eAddS, DL.eInS, DL.eLenS, DL.wSlS, DL.wI2, DL.evd_mx, DL.evd_mn, DL.evd_gcd, DL.wIStr, DL.wIEnumS, DL.eJnL, DL.eJnT, DL.wJoin, DL.eStrI, DL.eIntS, DL.strsD_map]
  have hrl : ∀ m, (rangeD 0 m).length = m := fun m => by simp [rangeD]
  refine ⟨⟨by decide, by decide⟩, fun i e => ∃ (o' : Ob) (sd : List (List G)) (z3 : Option B), IsRow o' ∧ sd.length = i ∧ (∀ l ∈ sd, l.length ≤ 2 ∧ ∀ g ∈ l, Gm f g) ∧
    e = [some (.ob (some 0) o'), some (.dat (.int ((f + 1 : Nat) : Int))), some (.ob none (.lst (sd.map fun l => .tuple (l.map gD)))), z3, none], ⟨o1, [], none, ho1, rfl, hnil, rfl⟩, ?_, ?_⟩
  · rintro i d e hd ⟨o', sd, z3, ho', hsl, hsd, rfl⟩
    have hi := (List.getElem?_eq_some_iff.mp hd).1
    rw [hrl] at hi
    have hi2 : i < 2 := hi
    simp -implicitDefEqProofs only [DL.WW, List.isEmpty_nil, List.map, List.length, List.length_cons, List.length_nil, List.length_set, List.replicate, List.append, List.cons_append, List.nil_append, List.append_nil, List.getElem?_cons_zero, List.getElem?_cons_succ, List.getElem?_nil, List.set_cons_zero, List.set_cons_succ, ↓reduceIte, Bool.false_eq_true, Bool.not_true, Bool.not_false, Bool.true_and, Bool.false_and, Bool.and_true, Bool.and_false, Bool.or_true, Bool.or_false, Bool.true_or, Bool.false_or, Nat.reduceAdd, Nat.reduceSub, Nat.reduceLT, Nat.reduceLeDiff, true_and, and_true, and_self, decide_eq_true_eq, Nat.zero_lt_succ, Nat.lt_add_left_iff_pos, beq_self_eq_true, String.reduceBEq, String.reduceEq, Nat.le_refl, Nat.zero_le, Bool.true_eq_false, decide_true, decide_false, Int.reduceEq, Int.reduceLT, Int.reduceLE, Int.reduceSub, Int.reduceAdd, DL.wIfT, DL.wListRg, DL.eSortT, DL.eAddS, DL.eInS, DL.eLenS, DL.wSlS, DL.wI2, DL.evd_mx, DL.evd_mn, DL.evd_gcd, DL.wIStr, DL.wIEnumS, DL.eJnL, DL.eJnT, DL.wJoin, DL.eStrI, DL.eIntS, DL.strsD_map]
    refine lc_use ?_
    simp -implicitDefEqProofs only [DL.WW, List.isEmpty_nil, List.map, List.length, List.length_cons, List.length_nil, List.length_set, List.replicate, List.append, List.cons_append, List.nil_append, List.append_nil, List.getElem?_cons_zero, List.getElem?_cons_succ, List.getElem?_nil, List.set_cons_zero, List.set_cons_succ, ↓reduceIte, Bool.false_eq_true, Bool.not_true, Bool.not_false, Bool.true_and, Bool.false_and, Bool.and_true, Bool.and_false, Bool.or_true, Bool.or_false, Bool.true_or, Bool.false_or, Nat.reduceAdd, Nat.reduceSub, Nat.reduceLT, Nat.reduceLeDiff, true_and, and_true, and_self, decide_eq_true_eq, Nat.zero_lt_succ, Nat.lt_add_left_iff_pos, beq_self_eq_true, String.reduceBEq, String.reduceEq, Nat.le_refl, Nat.zero_le, Bool.true_eq_false, decide_true, decide_false, Int.reduceEq, Int.reduceLT, Int.reduceLE, Int.reduceSub, Int.reduceAdd, DL.wIfT, DL.wListRg, DL.eSortT, DL.eAddS, DL.eInS, DL.eLenS, DL.wSlS, DL.wI2, DL.evd_mx, DL.evd_mn, DL.evd_gcd, DL.wIStr, DL.wIEnumS, DL.eJnL, DL.eJnT, DL.wJoin, DL.eStrI, DL.eIntS, DL.strsD_map]
    refine ⟨o', _, rfl, ho', ⟨by decide, by decide⟩, fun c o2 ho2 c0 c1 => ?_⟩
    simp -implicitDefEqProofs only [DL.WW, List.isEmpty_nil, List.map, List.length, List.length_cons, List.length_nil, List.length_set, List.replicate, List.append, List.cons_append, List.nil_append, List.append_nil, List.getElem?_cons_zero, List.getElem?_cons_succ, List.getElem?_nil, List.set_cons_zero, List.set_cons_succ, ↓reduceIte, Bool.false_eq_true, Bool.not_true, Bool.not_false, Bool.true_and, Bool.false_and, Bool.and_true, Bool.and_false, Bool.or_true, Bool.or_false, Bool.true_or, Bool.false_or, Nat.reduceAdd, Nat.reduceSub, Nat.reduceLT, Nat.reduceLeDiff, true_and, and_true, and_self, decide_eq_true_eq, Nat.zero_lt_succ, Nat.lt_add_left_iff_pos, beq_self_eq_true, String.reduceBEq, String.reduceEq, Nat.le_refl, Nat.zero_le, Bool.true_eq_false, decide_true, decide_false, Int.reduceEq, Int.reduceLT, Int.reduceLE, Int.reduceSub, Int.reduceAdd, DL.wIfT, DL.wListRg, DL.eSortT, DL.eAddS, DL.eInS, DL.eLenS, DL.wSlS, DL.wI2, DL.evd_mx, DL.evd_mn, DL.evd_gcd, DL.wIStr, DL.wIEnumS, DL.eJnL, DL.eJnT, DL.wJoin, DL.eStrI, DL.eIntS, DL.strsD_map]
    refine ⟨⟨by omega, by omega⟩, ?_⟩
    refine ⟨fun j acc e => ∃ (o' : Ob) (l : List G), IsRow o' ∧ l.length = j ∧ (∀ g ∈ l, Gm f g) ∧ acc = l.map gD ∧
      e = [some (.ob (some 0) o'), some (.dat (.int ((f + 1 : Nat) : Int))), some (.ob none (.lst (sd.map fun l => .tuple (l.map gD)))), some (.dat d), none], ⟨o2, [], ho2, rfl, hnil2, rfl, rfl⟩, ?_, ?_⟩
    · rintro j d2 acc e hd2 ⟨o5, l, ho5, hlj, hl, rfl, rfl⟩
      have hj := (List.getElem?_eq_some_iff.mp hd2).1
      rw [hrl] at hj
      simp -implicitDefEqProofs only [DL.WW, List.isEmpty_nil, List.map, List.length, List.length_cons, List.length_nil, List.length_set, List.replicate, List.append, List.cons_append, List.nil_append, List.append_nil, List.getElem?_cons_zero, List.getElem?_cons_succ, List.getElem?_nil, List.set_cons_zero, List.set_cons_succ, ↓reduceIte, Bool.false_eq_true, Bool.not_true, Bool.not_false, Bool.true_and, Bool.false_and, Bool.and_true, Bool.and_false, Bool.or_true, Bool.or_false, Bool.true_or, Bool.false_or, Nat.reduceAdd, Nat.reduceSub, Nat.reduceLT, Nat.reduceLeDiff, true_and, and_true, and_self, decide_eq_true_eq, Nat.zero_lt_succ, Nat.lt_add_left_iff_pos, beq_self_eq_true, String.reduceBEq, String.reduceEq, Nat.le_refl, Nat.zero_le, Bool.true_eq_false, decide_true, decide_false, Int.reduceEq, Int.reduceLT, Int.reduceLE, Int.reduceSub, Int.reduceAdd, DL.wIfT, DL.wListRg, DL.eSortT, DL.eAddS, DL.eInS, DL.eLenS, DL.wSlS, DL.wI2, DL.evd_mx, DL.evd_mn, DL.evd_gcd, DL.wIStr, DL.wIEnumS, DL.eJnL, DL.eJnT, DL.wJoin, DL.eStrI, DL.eIntS, DL.strsD_map]
      refine ⟨by rw [List.length_map]; omega, ?_⟩
      have ef : ((f + 1 : Nat) : Int) - 1 = (f : Int) := by omega
      rw [ef]
      refine ⟨o5, rfl, ho5, by omega, fun g o6 ho6 hg => ?_⟩
      simp -implicitDefEqProofs only [DL.WW, List.isEmpty_nil, List.map, List.length, List.length_cons, List.length_nil, List.length_set, List.replicate, List.append, List.cons_append, List.nil_append, List.append_nil, List.getElem?_cons_zero, List.getElem?_cons_succ, List.getElem?_nil, List.set_cons_zero, List.set_cons_succ, ↓reduceIte, Bool.false_eq_true, Bool.not_true, Bool.not_false, Bool.true_and, Bool.false_and, Bool.and_true, Bool.and_false, Bool.or_true, Bool.or_false, Bool.true_or, Bool.false_or, Nat.reduceAdd, Nat.reduceSub, Nat.reduceLT, Nat.reduceLeDiff, true_and, and_true, and_self, decide_eq_true_eq, Nat.zero_lt_succ, Nat.lt_add_left_iff_pos, beq_self_eq_true, String.reduceBEq, String.reduceEq, Nat.le_refl, Nat.zero_le, Bool.true_eq_false, decide_true, decide_false, Int.reduceEq, Int.reduceLT, Int.reduceLE, Int.reduceSub, Int.reduceAdd, DL.wIfT, DL.wListRg, DL.eSortT, DL.eAddS, DL.eInS, DL.eLenS, DL.wSlS, DL.wI2, DL.evd_mx, DL.evd_mn, DL.evd_gcd, DL.wIStr, DL.wIEnumS, DL.eJnL, DL.eJnT, DL.wJoin, DL.eStrI, DL.eIntS, DL.strsD_map]
      refine ⟨o6, l ++ [g], ho6, by simp [hlj], fun y hy => ?_, by rw [List.map_append]; rfl, rfl⟩
      rcases List.mem_append.mp hy with h | h
      · exact hl y h
      · rw [List.mem_singleton.mp h]; exact hg
    · rintro acc e ⟨o5, l, ho5, hlj, hl, rfl, rfl⟩
      rw [hrl] at hlj
      simp -implicitDefEqProofs only [DL.WW, List.isEmpty_nil, List.map, List.length, List.length_cons, List.length_nil, List.length_set, List.replicate, List.append, List.cons_append, List.nil_append, List.append_nil, List.getElem?_cons_zero, List.getElem?_cons_succ, List.getElem?_nil, List.set_cons_zero, List.set_cons_succ, ↓reduceIte, Bool.false_eq_true, Bool.not_true, Bool.not_false, Bool.true_and, Bool.false_and, Bool.and_true, Bool.and_false, Bool.or_true, Bool.or_false, Bool.true_or, Bool.false_or, Nat.reduceAdd, Nat.reduceSub, Nat.reduceLT, Nat.reduceLeDiff, true_and, and_true, and_self, decide_eq_true_eq, Nat.zero_lt_succ, Nat.lt_add_left_iff_pos, beq_self_eq_true, String.reduceBEq, String.reduceEq, Nat.le_refl, Nat.zero_le, Bool.true_eq_false, decide_true, decide_false, Int.reduceEq, Int.reduceLT, Int.reduceLE, Int.reduceSub, Int.reduceAdd, DL.wIfT, DL.wListRg, DL.eSortT, DL.eAddS, DL.eInS, DL.eLenS, DL.wSlS, DL.wI2, DL.evd_mx, DL.evd_mn, DL.evd_gcd, DL.wIStr, DL.wIEnumS, DL.eJnL, DL.eJnT, DL.wJoin, DL.eStrI, DL.eIntS, DL.strsD_map]
      refine ⟨by rw [List.length_map]; omega, o5, sd ++ [l], _, ho5, by simp [hsl], fun y hy => ?_, by rw [List.map_append]; rfl⟩
      rcases List.mem_append.mp hy with h | h
      · exact hsd y h
      · rw [List.mem_singleton.mp h]; exact ⟨by omega, hl⟩
  · rintro e ⟨o', sd, z3, ho', hsl, hsd, rfl⟩
    rw [hrl] at hsl
    have hsl2 : sd.length = 2 := hsl
    obtain ⟨l, r, rfl⟩ : ∃ l r, sd = [l, r] := by
      match sd, hsl2 with
      | [l, r], _ => exact ⟨l, r, rfl⟩
    simp -implicitDefEqProofs only [DL.WW, List.isEmpty_nil, List.map, List.length, List.length_cons, List.length_nil, List.length_set, List.replicate, List.append, List.cons_append, List.nil_append, List.append_nil, List.getElem?_cons_zero, List.getElem?_cons_succ, List.getElem?_nil, List.set_cons_zero, List.set_cons_succ, ↓reduceIte, Bool.false_eq_true, Bool.not_true, Bool.not_false, Bool.true_and, Bool.false_and, Bool.and_true, Bool.and_false, Bool.or_true, Bool.or_false, Bool.true_or, Bool.false_or, Nat.reduceAdd, Nat.reduceSub, Nat.reduceLT, Nat.reduceLeDiff, true_and, and_true, and_self, decide_eq_true_eq, Nat.zero_lt_succ, Nat.lt_add_left_iff_pos, beq_self_eq_true, String.reduceBEq, String.reduceEq, Nat.le_refl, Nat.zero_le, Bool.true_eq_false, decide_true, decide_false, Int.reduceEq, Int.reduceLT, Int.reduceLE, Int.reduceSub, Int.reduceAdd, DL.wIfT, DL.wListRg, DL.eSortT, DL.eAddS, DL.eInS, DL.eLenS, DL.wSlS, DL.wI2, DL.evd_mx, DL.evd_mn, DL.evd_gcd, DL.wIStr, DL.wIEnumS, DL.eJnL, DL.eJnT, DL.wJoin, DL.eStrI, DL.eIntS, DL.strsD_map]
    have h1 := hsd l (by simp)
    have h2 := hsd r (by simp)
    have hs : ∀ l : List G, (l.length ≤ 2 ∧ ∀ g ∈ l, Gm f g) → htL l ≤ f + 8 ∧ ndL l ≤ 2 * nB f := fun l h => by
      match l, h with
      | [], _ => simp [htL, ndL]
      | [a], h =>
        have := h.2 a (by simp)
        simp only [htL, ndL]
        exact ⟨by have := this.1; omega, by have := this.2; omega⟩
      | [a, b], h =>
        have h1 := h.2 a (by simp)
        have h2 := h.2 b (by simp)
        simp only [htL, ndL]
        exact ⟨by have := h1.1; have := h2.1; omega, by have := h1.2; have := h2.2; omega⟩
      | a :: b :: c :: l, h => exact absurd h.1 (by simp)
    have k1 := hs l h1
    have k2 := hs r h2
    have := hP (.mk l r) o' ho' ⟨by rw [ht]; omega, by rw [nd, nB]; omega⟩
    rw [gD_mk] at this
    exact this
end
def F_law_game : FSp := F_lg 3
def F_law_some : FSp := fun args P => ∃ (o : Ob), args = [some (.ob (some 0) o), some (.dat (.int 3)), some (.dat (.int 60))] ∧ IsRow o ∧ ∀ (g : G) (o' : Ob), IsRow o' → ht g ≤ 10 → nd g ≤ 200 → P (.dat (gD g)) [some (.ob (some 0) o'), none, none]
theorem ok_law_some {k : Nat} (T : Txt K mg) (G_law_game : FnOk P w K mg base CX0 k T.a_law_game T.d_law_game ["_law_row", "_law_deep"] (spD K F_law_game)) (G_law_named : FnOk P w K mg base CX0 k T.a_law_named T.d_law_named ["_law_row"] (spD K F_law_named)) (G_law_nodes : FnOk P w K mg base CX0 k T.a_law_nodes T.d_law_nodes ["_law_game_here"] (spD K F_law_nodes)) : FnOk P w K mg base CX0 (k + 1) T.a_law_some T.d_law_some ["_law_row", "_law_deep", "_law_most"] (spD K F_law_some) := by
  refine T.F_law_some.ok sc_law_some (fun vs H Q E h => spD_len (fun args P hF => ?_) h) (fun cdv A outer s H vs Q E hr h => ⟨_, (pss_cons (ps_set (i := 3) sc_law_some.nd rfl (Or.inl rfl) (pe_call G_law_game hr rfl T.g_law_game T.F_law_game.kp T.b_law_game .nil pass0 (pa_cons (pv 0) (pa_cons (pv 1) pa_nil))))
  (pss_one (ps_ret (pe_ifExp (pt_cmpR op_le (pe_call G_law_nodes hr rfl T.g_law_nodes T.F_law_nodes.kp T.b_law_nodes .nil pass0 (pa_cons (pv 3) pa_nil)) (pv 2) (nomark _)) (pv 3) (pe_call G_law_named hr rfl T.g_law_named T.F_law_named.kp T.b_law_named .nil pass0 (pa_cons (pv 0) pa_nil)))))), fn_run (N := ["_law_row", "_law_deep", "_law_most", "_law_game_here"]) h (fun A' Hz' => (ss_seq (ss_asg (se_callO (sa_cons se_var sa_nil)) sg_name)
  (ss_ret (se_if (st_test (se_op (sr_I0 (fun _ _ => rfl)) (se_call (sa_cons se_var sa_nil)) se_var)) se_var (se_callO sa_nil))))) (fun args P hl hF => ?_)⟩)
  · obtain ⟨o, rfl, _⟩ := hF
    rfl
  obtain ⟨o, rfl, ho, hP⟩ := hF
  simp -implicitDefEqProofs only [DL.WW, List.isEmpty_nil, List.map, List.length, List.length_cons, List.length_nil, List.length_set, List.replicate, List.append, List.cons_append, List.nil_append, List.append_nil, List.getElem?_cons_zero, List.getElem?_cons_succ, List.getElem?_nil, List.set_cons_zero, List.set_cons_succ, ↓reduceIte, Bool.false_eq_true, Bool.not_true, Bool.not_false, Bool.true_and, Bool.false_and, Bool.and_true, Bool.and_false, Bool.or_true, Bool.or_false, Bool.true_or, Bool.false_or, Nat.reduceAdd, Nat.reduceSub, Nat.reduceLT, Nat.reduceLeDiff, true_and, and_true, and_self, decide_eq_true_eq, Nat.zero_lt_succ, Nat.lt_add_left_iff_pos, beq_self_eq_true, String.reduceBEq, String.reduceEq, Nat.le_refl, Nat.zero_le, Bool.true_eq_false, decide_true, decide_false, Int.reduceEq, Int.reduceLT, Int.reduceLE, Int.reduceSub, Int.reduceAdd, DL.wIfT, DL.wListRg, DL.eSortT, DL.eAddS, DL.eInS, DL.eLenS, DL.wSlS, DL.wI2, DL.evd_mx, DL.evd_mn, DL.evd_gcd, DL.wIStr, DL.wIEnumS, DL.eJnL, DL.eJnT, DL.wJoin, DL.eStrI, DL.eIntS, DL.strsD_map]
  refine ⟨o, rfl, ho, Nat.le_refl _, fun g o1 ho1 hg => ?_⟩
  simp -implicitDefEqProofs only [DL.WW, List.isEmpty_nil, List.map, List.length, List.length_cons, List.length_nil, List.length_set, List.replicate, List.append, List.cons_append, List.nil_append, List.append_nil, List.getElem?_cons_zero, List.getElem?_cons_succ, List.getElem?_nil, List.set_cons_zero, List.set_cons_succ, ↓reduceIte, Bool.false_eq_true, Bool.not_true, Bool.not_false, Bool.true_and, Bool.false_and, Bool.and_true, Bool.and_false, Bool.or_true, Bool.or_false, Bool.true_or, Bool.false_or, Nat.reduceAdd, Nat.reduceSub, Nat.reduceLT, Nat.reduceLeDiff, true_and, and_true, and_self, decide_eq_true_eq, Nat.zero_lt_succ, Nat.lt_add_left_iff_pos, beq_self_eq_true, String.reduceBEq, String.reduceEq, Nat.le_refl, Nat.zero_le, Bool.true_eq_false, decide_true, decide_false, Int.reduceEq, Int.reduceLT, Int.reduceLE, Int.reduceSub, Int.reduceAdd, DL.wIfT, DL.wListRg, DL.eSortT, DL.eAddS, DL.eInS, DL.eLenS, DL.wSlS, DL.wI2, DL.evd_mx, DL.evd_mn, DL.evd_gcd, DL.wIStr, DL.wIEnumS, DL.eJnL, DL.eJnT, DL.wJoin, DL.eStrI, DL.eIntS, DL.strsD_map]
  have hn3 : nB 3 ≤ 40000 := by decide
  have hg1 := hg.1
  have hg2 := hg.2
  refine ⟨g, rfl, by omega, by omega, ?_⟩
  simp -implicitDefEqProofs only [DL.WW, List.isEmpty_nil, List.map, List.length, List.length_cons, List.length_nil, List.length_set, List.replicate, List.append, List.cons_append, List.nil_append, List.append_nil, List.getElem?_cons_zero, List.getElem?_cons_succ, List.getElem?_nil, List.set_cons_zero, List.set_cons_succ, ↓reduceIte, Bool.false_eq_true, Bool.not_true, Bool.not_false, Bool.true_and, Bool.false_and, Bool.and_true, Bool.and_false, Bool.or_true, Bool.or_false, Bool.true_or, Bool.false_or, Nat.reduceAdd, Nat.reduceSub, Nat.reduceLT, Nat.reduceLeDiff, true_and, and_true, and_self, decide_eq_true_eq, Nat.zero_lt_succ, Nat.lt_add_left_iff_pos, beq_self_eq_true, String.reduceBEq, String.reduceEq, Nat.le_refl, Nat.zero_le, Bool.true_eq_false, decide_true, decide_false, Int.reduceEq, Int.reduceLT, Int.reduceLE, Int.reduceSub, Int.reduceAdd, DL.wIfT, DL.wListRg, DL.eSortT, DL.eAddS, DL.eInS, DL.eLenS, DL.wSlS, DL.wI2, DL.evd_mx, DL.evd_mn, DL.evd_gcd, DL.wIStr, DL.wIEnumS, DL.eJnL, DL.eJnT, DL.wJoin, DL.eStrI, DL.eIntS, DL.strsD_map]
  by_cases c : (nd g : Int) ≤ 60
  · simp -implicitDefEqProofs only [DL.WW, List.isEmpty_nil, List.map, List.length, List.length_cons, List.length_nil, List.length_set, List.replicate, List.append, List.cons_append, List.nil_append, List.append_nil, List.getElem?_cons_zero, List.getElem?_cons_succ, List.getElem?_nil, List.set_cons_zero, List.set_cons_succ, ↓reduceIte, Bool.false_eq_true, Bool.not_true, Bool.not_false, Bool.true_and, Bool.false_and, Bool.and_true, Bool.and_false, Bool.or_true, Bool.or_false, Bool.true_or, Bool.false_or, Nat.reduceAdd, Nat.reduceSub, Nat.reduceLT, Nat.reduceLeDiff, true_and, and_true, and_self, decide_eq_true_eq, Nat.zero_lt_succ, Nat.lt_add_left_iff_pos, beq_self_eq_true, String.reduceBEq, String.reduceEq, Nat.le_refl, Nat.zero_le, Bool.true_eq_false, decide_true, decide_false, Int.reduceEq, Int.reduceLT, Int.reduceLE, Int.reduceSub, Int.reduceAdd, DL.wIfT, DL.wListRg, DL.eSortT, DL.eAddS, DL.eInS, DL.eLenS, DL.wSlS, DL.wI2, DL.evd_mx, DL.evd_mn, DL.evd_gcd, DL.wIStr, DL.wIEnumS, DL.eJnL, DL.eJnT, DL.wJoin, DL.eStrI, DL.eIntS, DL.strsD_map, c]
    exact hP _ _ ho1 (by omega) (by omega)
  · simp -implicitDefEqProofs only [DL.WW, List.isEmpty_nil, List.map, List.length, List.length_cons, List.length_nil, List.length_set, List.replicate, List.append, List.cons_append, List.nil_append, List.append_nil, List.getElem?_cons_zero, List.getElem?_cons_succ, List.getElem?_nil, List.set_cons_zero, List.set_cons_succ, ↓reduceIte, Bool.false_eq_true, Bool.not_true, Bool.not_false, Bool.true_and, Bool.false_and, Bool.and_true, Bool.and_false, Bool.or_true, Bool.or_false, Bool.true_or, Bool.false_or, Nat.reduceAdd, Nat.reduceSub, Nat.reduceLT, Nat.reduceLeDiff, true_and, and_true, and_self, decide_eq_true_eq, Nat.zero_lt_succ, Nat.lt_add_left_iff_pos, beq_self_eq_true, String.reduceBEq, String.reduceEq, Nat.le_refl, Nat.zero_le, Bool.true_eq_false, decide_true, decide_false, Int.reduceEq, Int.reduceLT, Int.reduceLE, Int.reduceSub, Int.reduceAdd, DL.wIfT, DL.wListRg, DL.eSortT, DL.eAddS, DL.eInS, DL.eLenS, DL.wSlS, DL.wI2, DL.evd_mx, DL.evd_mn, DL.evd_gcd, DL.wIStr, DL.wIEnumS, DL.eJnL, DL.eJnT, DL.wJoin, DL.eStrI, DL.eIntS, DL.strsD_map, c]
    refine ⟨o1, rfl, ho1, fun g' o2 ho2 hg' => ?_⟩
    simp -implicitDefEqProofs only [DL.WW, List.isEmpty_nil, List.map, List.length, List.length_cons, List.length_nil, List.length_set, List.replicate, List.append, List.cons_append, List.nil_append, List.append_nil, List.getElem?_cons_zero, List.getElem?_cons_succ, List.getElem?_nil, List.set_cons_zero, List.set_cons_succ, ↓reduceIte, Bool.false_eq_true, Bool.not_true, Bool.not_false, Bool.true_and, Bool.false_and, Bool.and_true, Bool.and_false, Bool.or_true, Bool.or_false, Bool.true_or, Bool.false_or, Nat.reduceAdd, Nat.reduceSub, Nat.reduceLT, Nat.reduceLeDiff, true_and, and_true, and_self, decide_eq_true_eq, Nat.zero_lt_succ, Nat.lt_add_left_iff_pos, beq_self_eq_true, String.reduceBEq, String.reduceEq, Nat.le_refl, Nat.zero_le, Bool.true_eq_false, decide_true, decide_false, Int.reduceEq, Int.reduceLT, Int.reduceLE, Int.reduceSub, Int.reduceAdd, DL.wIfT, DL.wListRg, DL.eSortT, DL.eAddS, DL.eInS, DL.eLenS, DL.wSlS, DL.wI2, DL.evd_mx, DL.evd_mn, DL.evd_gcd, DL.wIStr, DL.wIEnumS, DL.eJnL, DL.eJnT, DL.wJoin, DL.eStrI, DL.eIntS, DL.strsD_map]
    exact hP _ _ ho2 (by have := hg'.1; omega) (by have := hg'.2; omega)
end
end K06D


set_option Elab.async false
set_option linter.all false
set_option maxRecDepth 100000
set_option maxHeartbeats 4000000
namespace K06D
open PySem L2 TG DL K06 SK TXG
section
variable {P : Program} {w : World} {K : PySem.W.Frag} {mg : Str → Option Value} {base : Heap}
/-- a name and its game -/
def Nk (t : List Nat) (g : G) : Prop := nameOf g = some t ∧ ht g ≤ 13 ∧ nd g ≤ 400
instance (t : List Nat) (g : G) : Decidable (Nk t g) := by unfold Nk; infer_instance
theorem nk_int : ∀ k ∈ List.range 25, Nk (intT ((k : Int) - 12)) (iG ((k : Int) - 12)) := by decide +kernel
theorem nk_frac : ∀ a ∈ [1, 2, 3, 4], ∀ k ∈ List.range (2 ^ a), Nk (fracT (2 * (k : Int) - 2 ^ a + 1) (2 ^ a)) (nG (numN 6 (red a (2 * (k : Int) - 2 ^ a + 1)).1 (red a (2 * (k : Int) - 2 ^ a + 1)).2)) := by decide +kernel
theorem nk_nim : Nk [42] (nimG 1) ∧ Nk [42, 50] (nimG 2) ∧ Nk [42, 51] (nimG 3) ∧ Nk [42, 52] (nimG 4) := by decide +kernel
theorem nk_up : Nk [94] up ∧ Nk [118] down ∧ Nk [94, 42] upS ∧ Nk [118, 42] downS := by decide +kernel
def F_law_name : FSp := fun args P => ∃ (o : Ob), args = [some (.ob (some 0) o)] ∧ IsRow o ∧ ∀ (t : List Nat) (g : G) (o' : Ob), IsRow o' → Nk t g → P (.dat (.tuple [.str (stC t), gD g])) [some (.ob (some 0) o')]
theorem ok_law_name {k : Nat} (T : Txt K mg) (G_law_taken : FnOk P w K mg base CX0 k T.a_law_taken T.d_law_taken ["_law_row", "_law_many"] (spD K F_law_taken)) (G_law_pick : FnOk P w K mg base CX0 k T.a_law_pick T.d_law_pick ["_law_row", "_law_things"] (spD K F_law_pick)) (G_law_zero : FnOk P w K mg base CX0 k T.a_law_zero T.d_law_zero [] (spD K F_law_zero)) (G_law_star : FnOk P w K mg base CX0 k T.a_law_star T.d_law_star [] (spD K F_law_star)) (G_law_whole : FnOk P w K mg base CX0 k T.a_law_whole T.d_law_whole ["_law_number_here"] (spD K F_law_whole)) (G_law_number : FnOk P w K mg base CX0 k T.a_law_number T.d_law_number ["_law_top", "_law_bottom"] (spD K F_law_number)) (G_law_nimber : FnOk P w K mg base CX0 k T.a_law_nimber T.d_law_nimber ["_law_size"] (spD K F_law_nimber)) : FnOk P w K mg base CX0 (k + 1) T.a_law_name T.d_law_name ["_law_row"] (spD K F_law_name) := by
  refine T.F_law_name.ok sc_law_name (fun vs H Q E h => spD_len (fun args P hF => ?_) h) (fun cdv A outer s H vs Q E hr h => ⟨_, (pss_cons (ps_set (i := 1) sc_law_name.nd rfl (Or.inl rfl) (pe_call G_law_taken hr rfl T.g_law_taken T.F_law_taken.kp T.b_law_taken .nil pass0 (pa_cons (pv 0) (pa_cons pe_int pa_nil))))
  (pss_cons (ps_if (pt_cmpR op_lt (pv 1) pe_int (nomark _))
  (pss_cons (ps_set (i := 2) sc_law_name.nd rfl (Or.inl rfl) (pe_ifExp (pt_cmpR (op_eqDK (K := K) rfl hr.units) (pv 1) pe_int (nomark _)) (pe_op op_sub (pe_call G_law_taken hr rfl T.g_law_taken T.F_law_taken.kp T.b_law_taken .nil pass0 (pa_cons (pv 0) (pa_cons pe_int pa_nil))) pe_int) (pe_op op_sub (pe_call G_law_taken hr rfl T.g_law_taken T.F_law_taken.kp T.b_law_taken .nil pass0 (pa_cons (pv 0) (pa_cons pe_int pa_nil))) pe_int)))
  (pss_one (ps_ret (pe_tup (pa_cons (pe_callTy call_str_int rfl T.m_str (by decide +kernel) (pa_cons (pv 2) pa_nil)) (pa_cons (pe_call G_law_whole hr rfl T.g_law_whole T.F_law_whole.kp T.b_law_whole .nil pass0 (pa_cons (pv 2) pa_nil)) pa_nil))))))
  pss_nil)
  (pss_cons (ps_if (pt_cmpR (op_eqDK (K := K) rfl hr.units) (pv 1) pe_int (nomark _))
  (pss_cons (ps_set (i := 3) sc_law_name.nd rfl (Or.inl rfl) (pe_call G_law_pick hr rfl T.g_law_pick T.F_law_pick.kp T.b_law_pick .nil pass0 (pa_cons (pv 0) (pa_cons (pe_lst (pa_cons pe_int (pa_cons pe_int (pa_cons pe_int (pa_cons pe_int (pa_cons pe_int pa_nil)))))) pa_nil))))
  (pss_cons (ps_set (i := 4) sc_law_name.nd rfl (Or.inl rfl) (pe_op op_add (pe_op op_sub (pe_op op_mul pe_int (pe_call G_law_taken hr rfl T.g_law_taken T.F_law_taken.kp T.b_law_taken .nil pass0 (pa_cons (pv 0) (pa_cons (pv 3) pa_nil)))) (pv 3)) pe_int))
  (pss_cons (ps_set (i := 4) sc_law_name.nd rfl (Or.inl rfl) (pe_ifExp (pt_cmpR (op_eqDK (K := K) rfl hr.units) (pe_op op_mod (pe_callTy call_int1 rfl T.m_int (by decide +kernel) (pa_cons (pv 4) pa_nil)) pe_int) pe_int (nomark _)) (pv 4) (pe_op op_add (pv 4) pe_int)))
  (pss_one (ps_ret (pe_tup (pa_cons (pe_op op_add_str (pe_op op_add_str (pe_callTy call_str_int rfl T.m_str (by decide +kernel) (pa_cons (pv 4) pa_nil)) pe_str) (pe_callTy call_str_int rfl T.m_str (by decide +kernel) (pa_cons (pv 3) pa_nil))) (pa_cons (pe_call G_law_number hr rfl T.g_law_number T.F_law_number.kp T.b_law_number .nil pass0 (pa_cons (pv 4) (pa_cons (pv 3) pa_nil))) pa_nil))))))))
  pss_nil)
  (pss_cons (ps_par (i := 5) (j := 6) rfl sc_law_name.nd rfl rfl (by decide) rfl rfl (pa_cons (pe_call0 G_law_zero hr rfl T.g_law_zero T.F_law_zero.kp T.b_law_zero .nil pass0) (pa_cons (pe_call0 G_law_star hr rfl T.g_law_star T.F_law_star.kp T.b_law_star .nil pass0) pa_nil)) rfl)
  (pss_cons (ps_if (pt_cmpR (op_eqDK (K := K) rfl hr.units) (pv 1) pe_int (nomark _))
  (pss_cons (ps_set (i := 7) sc_law_name.nd rfl (Or.inl rfl) (pe_op op_add pe_int (pe_call G_law_taken hr rfl T.g_law_taken T.F_law_taken.kp T.b_law_taken .nil pass0 (pa_cons (pv 0) (pa_cons pe_int pa_nil)))))
  (pss_one (ps_ret (pe_tup (pa_cons (pe_ifExp (pt_cmpR (op_eqDK (K := K) rfl hr.units) (pv 7) pe_int (nomark _)) pe_str (pe_op op_add_str pe_str (pe_callTy call_str_int rfl T.m_str (by decide +kernel) (pa_cons (pv 7) pa_nil)))) (pa_cons (pe_call G_law_nimber hr rfl T.g_law_nimber T.F_law_nimber.kp T.b_law_nimber .nil pass0 (pa_cons (pv 7) pa_nil)) pa_nil))))))
  pss_nil)
  (pss_cons (ps_set (i := 8) sc_law_name.nd rfl (Or.inl rfl) (pe_lst (pa_cons (pe_tup (pa_cons pe_str (pa_cons (pe_tup (pa_cons (pe_tup (pa_cons (pv 5) pa_nil)) (pa_cons (pe_tup (pa_cons (pv 6) pa_nil)) pa_nil))) pa_nil))) (pa_cons (pe_tup (pa_cons pe_str (pa_cons (pe_tup (pa_cons (pe_tup (pa_cons (pv 6) pa_nil)) (pa_cons (pe_tup (pa_cons (pv 5) pa_nil)) pa_nil))) pa_nil))) (pa_cons (pe_tup (pa_cons pe_str (pa_cons (pe_tup (pa_cons (pe_tup (pa_cons (pv 5) (pa_cons (pv 6) pa_nil))) (pa_cons (pe_tup (pa_cons (pv 5) pa_nil)) pa_nil))) pa_nil))) pa_nil)))))
  (pss_one (ps_ret (pe_call G_law_pick hr rfl T.g_law_pick T.F_law_pick.kp T.b_law_pick .nil pass0 (pa_cons (pv 0) (pa_cons (pe_op (op_catQ (K := K) rfl) (pv 8) (pe_lst (pa_cons (pe_tup (pa_cons pe_str (pa_cons (pe_tup (pa_cons (pe_tup (pa_cons (pv 5) pa_nil)) (pa_cons (pe_tup (pa_cons (pv 5) (pa_cons (pv 6) pa_nil))) pa_nil))) pa_nil))) pa_nil))) pa_nil))))))))))), fn_run (N := ["_law_row", "_law_way", "_law_number_here", "_law_bottom", "_law_top", "_law_zero_here", "_law_star_here", "_law_size", "_law_some_here"]) h (fun A' Hz' => (ss_seq (ss_asg (se_callO (sa_cons se_int sa_nil)) sg_name)
  (ss_seq (ss_if (st_test (se_op (sr_I0 (fun _ _ => rfl)) se_var se_int))
  (ss_seq (ss_asg (se_if (st_test (se_op sr_eqD se_var se_int)) (se_op (sr_I0 (fun _ _ => rfl)) (se_callO (sa_cons se_int sa_nil)) se_int) (se_op (sr_I0 (fun _ _ => rfl)) (se_callO (sa_cons se_int sa_nil)) se_int)) sg_name)
  (ss_ret (se_tup (sa_cons (se_cb1 sc_strI se_var) (sa_cons (se_call (sa_cons se_var sa_nil)) sa_nil)))))
  ss_next)
  (ss_seq (ss_if (st_test (se_op sr_eqD se_var se_int))
  (ss_seq (ss_asg (se_callO (sa_cons (se_lst (sa_cons se_int (sa_cons se_int (sa_cons se_int (sa_cons se_int (sa_cons se_int sa_nil)))))) sa_nil)) sg_name)
  (ss_seq (ss_asg (se_op (sr_I0 (fun _ _ => rfl)) (se_op (sr_I0 (fun _ _ => rfl)) (se_op (sr_I (fun _ _ => rfl)) se_int (se_callO (sa_cons se_var sa_nil))) se_var) se_int) sg_name)
  (ss_seq (ss_asg (se_if (st_test (se_op sr_eqD (se_op (sr_I (fun _ _ => rfl)) (se_cb1 sc_int se_var) se_int) se_int)) se_var (se_op (sr_I0 (fun _ _ => rfl)) se_var se_int)) sg_name)
  (ss_ret (se_tup (sa_cons (se_op sr_addS (se_op sr_addS (se_cb1 sc_strI se_var) se_str) (se_cb1 sc_strI se_var)) (sa_cons (se_call (sa_cons se_var (sa_cons se_var sa_nil))) sa_nil)))))))
  ss_next)
  (ss_seq (ss_par (by decide) (se_call sa_nil) (se_call sa_nil))
  (ss_seq (ss_if (st_test (se_op sr_eqD se_var se_int))
  (ss_seq (ss_asg (se_op (sr_I0 (fun _ _ => rfl)) se_int (se_callO (sa_cons se_int sa_nil))) sg_name)
  (ss_ret (se_tup (sa_cons (se_if (st_test (se_op sr_eqD se_var se_int)) se_str (se_op sr_addS se_str (se_cb1 sc_strI se_var))) (sa_cons (se_call (sa_cons se_var sa_nil)) sa_nil)))))
  ss_next)
  (ss_seq (ss_asg (se_lst (sa_cons (se_tup (sa_cons se_str (sa_cons (se_tup (sa_cons (se_tup (sa_cons se_var sa_nil)) (sa_cons (se_tup (sa_cons se_var sa_nil)) sa_nil))) sa_nil))) (sa_cons (se_tup (sa_cons se_str (sa_cons (se_tup (sa_cons (se_tup (sa_cons se_var sa_nil)) (sa_cons (se_tup (sa_cons se_var sa_nil)) sa_nil))) sa_nil))) (sa_cons (se_tup (sa_cons se_str (sa_cons (se_tup (sa_cons (se_tup (sa_cons se_var (sa_cons se_var sa_nil))) (sa_cons (se_tup (sa_cons se_var sa_nil)) sa_nil))) sa_nil))) sa_nil)))) sg_name)
  (ss_ret (se_callO (sa_cons (se_op sr_cat se_var (se_lst (sa_cons (se_tup (sa_cons se_str (sa_cons (se_tup (sa_cons (se_tup (sa_cons se_var sa_nil)) (sa_cons (se_tup (sa_cons se_var (sa_cons se_var sa_nil))) sa_nil))) sa_nil))) sa_nil))) sa_nil)))))))))) (fun args P hl hF => ?_)⟩)
  · obtain ⟨o, rfl, _⟩ := hF
    rfl
  obtain ⟨o, rfl, ho, hP⟩ := hF
  simp -implicitDefEqProofs only [DL.WW, List.isEmpty_nil, List.map, List.length, List.length_cons, List.length_nil, List.length_set, List.replicate, List.append, List.cons_append, List.nil_append, List.append_nil, List.getElem?_cons_zero, List.getElem?_cons_succ, List.getElem?_nil, List.set_cons_zero, List.set_cons_succ, ↓reduceIte, Bool.false_eq_true, Bool.not_true, Bool.not_false, Bool.true_and, Bool.false_and, Bool.and_true, Bool.and_false, Bool.or_true, Bool.or_false, Bool.true_or, Bool.false_or, Nat.reduceAdd, Nat.reduceSub, Nat.reduceLT, Nat.reduceLeDiff, true_and, and_true, and_self, decide_eq_true_eq, Nat.zero_lt_succ, Nat.lt_add_left_iff_pos, beq_self_eq_true, String.reduceBEq, String.reduceEq, Nat.le_refl, Nat.zero_le, Bool.true_eq_false, decide_true, decide_false, Int.reduceEq, Int.reduceLT, Int.reduceLE, Int.reduceSub, Int.reduceAdd, DL.wIfT, DL.wListRg, DL.eSortT, DL.eAddS, DL.eInS, DL.eLenS, DL.wSlS, DL.wI2, DL.evd_mx, DL.evd_mn, DL.evd_gcd, DL.wIStr, DL.wIEnumS, DL.eJnL, DL.eJnT, DL.wJoin, DL.eStrI, DL.eIntS, DL.strsD_map]
  refine ⟨o, _, rfl, ho, ⟨by decide, by decide⟩, fun v o1 ho1 v0 v1 => ?_⟩
  simp -implicitDefEqProofs only [DL.WW, List.isEmpty_nil, List.map, List.length, List.length_cons, List.length_nil, List.length_set, List.replicate, List.append, List.cons_append, List.nil_append, List.append_nil, List.getElem?_cons_zero, List.getElem?_cons_succ, List.getElem?_nil, List.set_cons_zero, List.set_cons_succ, ↓reduceIte, Bool.false_eq_true, Bool.not_true, Bool.not_false, Bool.true_and, Bool.false_and, Bool.and_true, Bool.and_false, Bool.or_true, Bool.or_false, Bool.true_or, Bool.false_or, Nat.reduceAdd, Nat.reduceSub, Nat.reduceLT, Nat.reduceLeDiff, true_and, and_true, and_self, decide_eq_true_eq, Nat.zero_lt_succ, Nat.lt_add_left_iff_pos, beq_self_eq_true, String.reduceBEq, String.reduceEq, Nat.le_refl, Nat.zero_le, Bool.true_eq_false, decide_true, decide_false, Int.reduceEq, Int.reduceLT, Int.reduceLE, Int.reduceSub, Int.reduceAdd, DL.wIfT, DL.wListRg, DL.eSortT, DL.eAddS, DL.eInS, DL.eLenS, DL.wSlS, DL.wI2, DL.evd_mx, DL.evd_mn, DL.evd_gcd, DL.wIStr, DL.wIEnumS, DL.eJnL, DL.eJnT, DL.wJoin, DL.eStrI, DL.eIntS, DL.strsD_map]
  by_cases c2 : v < 2
  · rw [if_pos c2]
    have num : ∀ (n : Int) (o3 : Ob), IsRow o3 → -12 ≤ n → n ≤ 12 → P (.dat (.tuple [.str (stC (intT n)), gD (iG n)])) [some (.ob (some 0) o3)] := fun n o3 h3 n0 n1 => by
      have := nk_int (n + 12).toNat (List.mem_range.mpr (by omega))
      have e : (((n + 12).toNat : Nat) : Int) - 12 = n := by omega
      rw [e] at this
      exact hP _ _ o3 h3 this
    split
    · refine ⟨o1, _, rfl, ho1, ⟨by decide, by decide⟩, fun p o2 ho2 p0 p1 => ?_⟩
      simp -implicitDefEqProofs only [DL.WW, List.isEmpty_nil, List.map, List.length, List.length_cons, List.length_nil, List.length_set, List.replicate, List.append, List.cons_append, List.nil_append, List.append_nil, List.getElem?_cons_zero, List.getElem?_cons_succ, List.getElem?_nil, List.set_cons_zero, List.set_cons_succ, ↓reduceIte, Bool.false_eq_true, Bool.not_true, Bool.not_false, Bool.true_and, Bool.false_and, Bool.and_true, Bool.and_false, Bool.or_true, Bool.or_false, Bool.true_or, Bool.false_or, Nat.reduceAdd, Nat.reduceSub, Nat.reduceLT, Nat.reduceLeDiff, true_and, and_true, and_self, decide_eq_true_eq, Nat.zero_lt_succ, Nat.lt_add_left_iff_pos, beq_self_eq_true, String.reduceBEq, String.reduceEq, Nat.le_refl, Nat.zero_le, Bool.true_eq_false, decide_true, decide_false, Int.reduceEq, Int.reduceLT, Int.reduceLE, Int.reduceSub, Int.reduceAdd, DL.wIfT, DL.wListRg, DL.eSortT, DL.eAddS, DL.eInS, DL.eLenS, DL.wSlS, DL.wI2, DL.evd_mx, DL.evd_mn, DL.evd_gcd, DL.wIStr, DL.wIEnumS, DL.eJnL, DL.eJnT, DL.wJoin, DL.eStrI, DL.eIntS, DL.strsD_map]
      refine ⟨log_small (by omega), _, rfl, ⟨by omega, by omega⟩, ?_⟩
      rw [str_int (by omega)]
      simp -implicitDefEqProofs only [DL.WW, List.isEmpty_nil, List.map, List.length, List.length_cons, List.length_nil, List.length_set, List.replicate, List.append, List.cons_append, List.nil_append, List.append_nil, List.getElem?_cons_zero, List.getElem?_cons_succ, List.getElem?_nil, List.set_cons_zero, List.set_cons_succ, ↓reduceIte, Bool.false_eq_true, Bool.not_true, Bool.not_false, Bool.true_and, Bool.false_and, Bool.and_true, Bool.and_false, Bool.or_true, Bool.or_false, Bool.true_or, Bool.false_or, Nat.reduceAdd, Nat.reduceSub, Nat.reduceLT, Nat.reduceLeDiff, true_and, and_true, and_self, decide_eq_true_eq, Nat.zero_lt_succ, Nat.lt_add_left_iff_pos, beq_self_eq_true, String.reduceBEq, String.reduceEq, Nat.le_refl, Nat.zero_le, Bool.true_eq_false, decide_true, decide_false, Int.reduceEq, Int.reduceLT, Int.reduceLE, Int.reduceSub, Int.reduceAdd, DL.wIfT, DL.wListRg, DL.eSortT, DL.eAddS, DL.eInS, DL.eLenS, DL.wSlS, DL.wI2, DL.evd_mx, DL.evd_mn, DL.evd_gcd, DL.wIStr, DL.wIEnumS, DL.eJnL, DL.eJnT, DL.wJoin, DL.eStrI, DL.eIntS, DL.strsD_map]
      exact num _ _ ho2 (by omega) (by omega)
    · refine ⟨o1, _, rfl, ho1, ⟨by decide, by decide⟩, fun p o2 ho2 p0 p1 => ?_⟩
      simp -implicitDefEqProofs only [DL.WW, List.isEmpty_nil, List.map, List.length, List.length_cons, List.length_nil, List.length_set, List.replicate, List.append, List.cons_append, List.nil_append, List.append_nil, List.getElem?_cons_zero, List.getElem?_cons_succ, List.getElem?_nil, List.set_cons_zero, List.set_cons_succ, ↓reduceIte, Bool.false_eq_true, Bool.not_true, Bool.not_false, Bool.true_and, Bool.false_and, Bool.and_true, Bool.and_false, Bool.or_true, Bool.or_false, Bool.true_or, Bool.false_or, Nat.reduceAdd, Nat.reduceSub, Nat.reduceLT, Nat.reduceLeDiff, true_and, and_true, and_self, decide_eq_true_eq, Nat.zero_lt_succ, Nat.lt_add_left_iff_pos, beq_self_eq_true, String.reduceBEq, String.reduceEq, Nat.le_refl, Nat.zero_le, Bool.true_eq_false, decide_true, decide_false, Int.reduceEq, Int.reduceLT, Int.reduceLE, Int.reduceSub, Int.reduceAdd, DL.wIfT, DL.wListRg, DL.eSortT, DL.eAddS, DL.eInS, DL.eLenS, DL.wSlS, DL.wI2, DL.evd_mx, DL.evd_mn, DL.evd_gcd, DL.wIStr, DL.wIEnumS, DL.eJnL, DL.eJnT, DL.wJoin, DL.eStrI, DL.eIntS, DL.strsD_map]
      refine ⟨log_small (by omega), _, rfl, ⟨by omega, by omega⟩, ?_⟩
      rw [str_int (by omega)]
      simp -implicitDefEqProofs only [DL.WW, List.isEmpty_nil, List.map, List.length, List.length_cons, List.length_nil, List.length_set, List.replicate, List.append, List.cons_append, List.nil_append, List.append_nil, List.getElem?_cons_zero, List.getElem?_cons_succ, List.getElem?_nil, List.set_cons_zero, List.set_cons_succ, ↓reduceIte, Bool.false_eq_true, Bool.not_true, Bool.not_false, Bool.true_and, Bool.false_and, Bool.and_true, Bool.and_false, Bool.or_true, Bool.or_false, Bool.true_or, Bool.false_or, Nat.reduceAdd, Nat.reduceSub, Nat.reduceLT, Nat.reduceLeDiff, true_and, and_true, and_self, decide_eq_true_eq, Nat.zero_lt_succ, Nat.lt_add_left_iff_pos, beq_self_eq_true, String.reduceBEq, String.reduceEq, Nat.le_refl, Nat.zero_le, Bool.true_eq_false, decide_true, decide_false, Int.reduceEq, Int.reduceLT, Int.reduceLE, Int.reduceSub, Int.reduceAdd, DL.wIfT, DL.wListRg, DL.eSortT, DL.eAddS, DL.eInS, DL.eLenS, DL.wSlS, DL.wI2, DL.evd_mx, DL.evd_mn, DL.evd_gcd, DL.wIStr, DL.wIEnumS, DL.eJnL, DL.eJnT, DL.wJoin, DL.eStrI, DL.eIntS, DL.strsD_map]
      exact num _ _ ho2 (by omega) (by omega)
  rw [if_neg c2]
  by_cases c3 : v = 2
  · rw [if_pos c3]
    refine ⟨o1, _, rfl, ho1, ⟨by decide, by decide⟩, fun q o2 ho2 hq => ?_⟩
    obtain ⟨a, ha, rfl⟩ : ∃ a : Nat, a ∈ [1, 2, 3, 4] ∧ q = .int ((2 ^ a : Nat) : Int) := by
      simp at hq
      rcases hq with rfl | rfl | rfl | rfl
      · exact ⟨1, by simp, rfl⟩
      · exact ⟨2, by simp, rfl⟩
      · exact ⟨3, by simp, rfl⟩
      · exact ⟨4, by simp, rfl⟩
    simp -implicitDefEqProofs only [DL.WW, List.isEmpty_nil, List.map, List.length, List.length_cons, List.length_nil, List.length_set, List.replicate, List.append, List.cons_append, List.nil_append, List.append_nil, List.getElem?_cons_zero, List.getElem?_cons_succ, List.getElem?_nil, List.set_cons_zero, List.set_cons_succ, ↓reduceIte, Bool.false_eq_true, Bool.not_true, Bool.not_false, Bool.true_and, Bool.false_and, Bool.and_true, Bool.and_false, Bool.or_true, Bool.or_false, Bool.true_or, Bool.false_or, Nat.reduceAdd, Nat.reduceSub, Nat.reduceLT, Nat.reduceLeDiff, true_and, and_true, and_self, decide_eq_true_eq, Nat.zero_lt_succ, Nat.lt_add_left_iff_pos, beq_self_eq_true, String.reduceBEq, String.reduceEq, Nat.le_refl, Nat.zero_le, Bool.true_eq_false, decide_true, decide_false, Int.reduceEq, Int.reduceLT, Int.reduceLE, Int.reduceSub, Int.reduceAdd, DL.wIfT, DL.wListRg, DL.eSortT, DL.eAddS, DL.eInS, DL.eLenS, DL.wSlS, DL.wI2, DL.evd_mx, DL.evd_mn, DL.evd_gcd, DL.wIStr, DL.wIEnumS, DL.eJnL, DL.eJnT, DL.wJoin, DL.eStrI, DL.eIntS, DL.strsD_map]
    have ha4 : 1 ≤ a ∧ a ≤ 4 := by simp at ha; omega
    have hN : ((2 ^ a : Nat) : Int) % 2 = 0 ∧ 2 ≤ 2 ^ a ∧ 2 ^ a ≤ 16 := by
      have : a = 1 ∨ a = 2 ∨ a = 3 ∨ a = 4 := by omega
      rcases this with rfl | rfl | rfl | rfl <;> decide
    refine ⟨o2, _, rfl, ho2, ⟨by omega, by omega⟩, fun x o3 ho3 x0 x1 => ?_⟩
    obtain ⟨k, rfl⟩ : ∃ k : Nat, x = k := ⟨x.toNat, by omega⟩
    have hk := nk_frac a ha k (List.mem_range.mpr (by omega))
    have eN : (2 : Int) ^ a = ((2 ^ a : Nat) : Int) := by simp
    rw [eN] at hk
    have odd : (2 * (k : Int) - ((2 ^ a : Nat) : Int) + 1) % 2 = 1 := by omega
    have hta : (2 * (k : Int) - ((2 ^ a : Nat) : Int) + 1).natAbs ≤ 16 := by omega
    obtain ⟨tp, htp⟩ : ∃ tp, tp = 2 * (k : Int) - ((2 ^ a : Nat) : Int) + 1 := ⟨_, rfl⟩
    rw [← htp] at hk odd hta
    simp -implicitDefEqProofs only [DL.WW, List.isEmpty_nil, List.map, List.length, List.length_cons, List.length_nil, List.length_set, List.replicate, List.append, List.cons_append, List.nil_append, List.append_nil, List.getElem?_cons_zero, List.getElem?_cons_succ, List.getElem?_nil, List.set_cons_zero, List.set_cons_succ, ↓reduceIte, Bool.false_eq_true, Bool.not_true, Bool.not_false, Bool.true_and, Bool.false_and, Bool.and_true, Bool.and_false, Bool.or_true, Bool.or_false, Bool.true_or, Bool.false_or, Nat.reduceAdd, Nat.reduceSub, Nat.reduceLT, Nat.reduceLeDiff, true_and, and_true, and_self, decide_eq_true_eq, Nat.zero_lt_succ, Nat.lt_add_left_iff_pos, beq_self_eq_true, String.reduceBEq, String.reduceEq, Nat.le_refl, Nat.zero_le, Bool.true_eq_false, decide_true, decide_false, Int.reduceEq, Int.reduceLT, Int.reduceLE, Int.reduceSub, Int.reduceAdd, DL.wIfT, DL.wListRg, DL.eSortT, DL.eAddS, DL.eInS, DL.eLenS, DL.wSlS, DL.wI2, DL.evd_mx, DL.evd_mn, DL.evd_gcd, DL.wIStr, DL.wIEnumS, DL.eJnL, DL.eJnT, DL.wJoin, DL.eStrI, DL.eIntS, DL.strsD_map, ← htp, odd]
    have e1 := str_int (n := tp) (by omega)
    have e2 : Str.ofString (toString ((2 ^ a : Nat) : Int)) = stC (digs (2 ^ a)) := (dig (by omega)).pos
    have e3 : Str.ofString "/" = stC [47] := by decide +kernel
    have l1 := intT_len (n := tp) (by omega)
    have l2 := digs_len (n := 2 ^ a) (by omega)
    rw [e1, e2, e3, stC_app, stC_app]
    refine ⟨.inl ⟨by decide, by decide⟩, log_small (by omega), ?_, log_small (by omega), ?_, ?_⟩
    · rw [stC_len, stC_len]
      exact Nat.le_trans (show _ ≤ 100 by simp; omega) (by decide)
    · rw [stC_len, stC_len]
      exact Nat.le_trans (show _ ≤ 100 by simp; omega) (by decide)
    · have e4 : intT tp ++ [47] ++ digs (2 ^ a) = fracT tp (2 ^ a) := by unfold fracT; simp
      rw [e4]
      refine ⟨tp, a, rfl, by have := (red_ok a tp).1; omega, by omega, by omega, ?_⟩
      simp -implicitDefEqProofs only [DL.WW, List.isEmpty_nil, List.map, List.length, List.length_cons, List.length_nil, List.length_set, List.replicate, List.append, List.cons_append, List.nil_append, List.append_nil, List.getElem?_cons_zero, List.getElem?_cons_succ, List.getElem?_nil, List.set_cons_zero, List.set_cons_succ, ↓reduceIte, Bool.false_eq_true, Bool.not_true, Bool.not_false, Bool.true_and, Bool.false_and, Bool.and_true, Bool.and_false, Bool.or_true, Bool.or_false, Bool.true_or, Bool.false_or, Nat.reduceAdd, Nat.reduceSub, Nat.reduceLT, Nat.reduceLeDiff, true_and, and_true, and_self, decide_eq_true_eq, Nat.zero_lt_succ, Nat.lt_add_left_iff_pos, beq_self_eq_true, String.reduceBEq, String.reduceEq, Nat.le_refl, Nat.zero_le, Bool.true_eq_false, decide_true, decide_false, Int.reduceEq, Int.reduceLT, Int.reduceLE, Int.reduceSub, Int.reduceAdd, DL.wIfT, DL.wListRg, DL.eSortT, DL.eAddS, DL.eInS, DL.eLenS, DL.wSlS, DL.wI2, DL.evd_mx, DL.evd_mn, DL.evd_gcd, DL.wIStr, DL.wIEnumS, DL.eJnL, DL.eJnT, DL.wJoin, DL.eStrI, DL.eIntS, DL.strsD_map]
      exact hP _ _ _ ho3 hk
  rw [if_neg c3]
  refine ⟨rfl, ?_⟩
  simp -implicitDefEqProofs only [DL.WW, List.isEmpty_nil, List.map, List.length, List.length_cons, List.length_nil, List.length_set, List.replicate, List.append, List.cons_append, List.nil_append, List.append_nil, List.getElem?_cons_zero, List.getElem?_cons_succ, List.getElem?_nil, List.set_cons_zero, List.set_cons_succ, ↓reduceIte, Bool.false_eq_true, Bool.not_true, Bool.not_false, Bool.true_and, Bool.false_and, Bool.and_true, Bool.and_false, Bool.or_true, Bool.or_false, Bool.true_or, Bool.false_or, Nat.reduceAdd, Nat.reduceSub, Nat.reduceLT, Nat.reduceLeDiff, true_and, and_true, and_self, decide_eq_true_eq, Nat.zero_lt_succ, Nat.lt_add_left_iff_pos, beq_self_eq_true, String.reduceBEq, String.reduceEq, Nat.le_refl, Nat.zero_le, Bool.true_eq_false, decide_true, decide_false, Int.reduceEq, Int.reduceLT, Int.reduceLE, Int.reduceSub, Int.reduceAdd, DL.wIfT, DL.wListRg, DL.eSortT, DL.eAddS, DL.eInS, DL.eLenS, DL.wSlS, DL.wI2, DL.evd_mx, DL.evd_mn, DL.evd_gcd, DL.wIStr, DL.wIEnumS, DL.eJnL, DL.eJnT, DL.wJoin, DL.eStrI, DL.eIntS, DL.strsD_map]
  refine ⟨rfl, ?_⟩
  simp -implicitDefEqProofs only [DL.WW, List.isEmpty_nil, List.map, List.length, List.length_cons, List.length_nil, List.length_set, List.replicate, List.append, List.cons_append, List.nil_append, List.append_nil, List.getElem?_cons_zero, List.getElem?_cons_succ, List.getElem?_nil, List.set_cons_zero, List.set_cons_succ, ↓reduceIte, Bool.false_eq_true, Bool.not_true, Bool.not_false, Bool.true_and, Bool.false_and, Bool.and_true, Bool.and_false, Bool.or_true, Bool.or_false, Bool.true_or, Bool.false_or, Nat.reduceAdd, Nat.reduceSub, Nat.reduceLT, Nat.reduceLeDiff, true_and, and_true, and_self, decide_eq_true_eq, Nat.zero_lt_succ, Nat.lt_add_left_iff_pos, beq_self_eq_true, String.reduceBEq, String.reduceEq, Nat.le_refl, Nat.zero_le, Bool.true_eq_false, decide_true, decide_false, Int.reduceEq, Int.reduceLT, Int.reduceLE, Int.reduceSub, Int.reduceAdd, DL.wIfT, DL.wListRg, DL.eSortT, DL.eAddS, DL.eInS, DL.eLenS, DL.wSlS, DL.wI2, DL.evd_mx, DL.evd_mn, DL.evd_gcd, DL.wIStr, DL.wIEnumS, DL.eJnL, DL.eJnT, DL.wJoin, DL.eStrI, DL.eIntS, DL.strsD_map]
  have ss : Str.ofString "*" = stC [42] := by decide +kernel
  have su : Str.ofString "^" = stC [94] := by decide +kernel
  have sv : Str.ofString "v" = stC [118] := by decide +kernel
  have sus : Str.ofString "^*" = stC [94, 42] := by decide +kernel
  have svs : Str.ofString "v*" = stC [118, 42] := by decide +kernel
  have d2 : Str.ofString (toString (2 : Int)) = stC [50] := by decide +kernel
  have d3 : Str.ofString (toString (3 : Int)) = stC [51] := by decide +kernel
  have d4 : Str.ofString (toString (4 : Int)) = stC [52] := by decide +kernel
  by_cases c4 : v = 3
  · rw [if_pos c4]
    refine ⟨o1, _, rfl, ho1, ⟨by decide, by decide⟩, fun x o2 ho2 x0 x1 => ?_⟩
    have hx : x = 0 ∨ x = 1 ∨ x = 2 ∨ x = 3 := by omega
    rcases hx with rfl | rfl | rfl | rfl
    · simp -implicitDefEqProofs only [DL.WW, List.isEmpty_nil, List.map, List.length, List.length_cons, List.length_nil, List.length_set, List.replicate, List.append, List.cons_append, List.nil_append, List.append_nil, List.getElem?_cons_zero, List.getElem?_cons_succ, List.getElem?_nil, List.set_cons_zero, List.set_cons_succ, ↓reduceIte, Bool.false_eq_true, Bool.not_true, Bool.not_false, Bool.true_and, Bool.false_and, Bool.and_true, Bool.and_false, Bool.or_true, Bool.or_false, Bool.true_or, Bool.false_or, Nat.reduceAdd, Nat.reduceSub, Nat.reduceLT, Nat.reduceLeDiff, true_and, and_true, and_self, decide_eq_true_eq, Nat.zero_lt_succ, Nat.lt_add_left_iff_pos, beq_self_eq_true, String.reduceBEq, String.reduceEq, Nat.le_refl, Nat.zero_le, Bool.true_eq_false, decide_true, decide_false, Int.reduceEq, Int.reduceLT, Int.reduceLE, Int.reduceSub, Int.reduceAdd, DL.wIfT, DL.wListRg, DL.eSortT, DL.eAddS, DL.eInS, DL.eLenS, DL.wSlS, DL.wI2, DL.evd_mx, DL.evd_mn, DL.evd_gcd, DL.wIStr, DL.wIEnumS, DL.eJnL, DL.eJnT, DL.wJoin, DL.eStrI, DL.eIntS, DL.strsD_map, ss]
      refine ⟨1, rfl, by decide, ?_⟩
      simp -implicitDefEqProofs only [DL.WW, List.isEmpty_nil, List.map, List.length, List.length_cons, List.length_nil, List.length_set, List.replicate, List.append, List.cons_append, List.nil_append, List.append_nil, List.getElem?_cons_zero, List.getElem?_cons_succ, List.getElem?_nil, List.set_cons_zero, List.set_cons_succ, ↓reduceIte, Bool.false_eq_true, Bool.not_true, Bool.not_false, Bool.true_and, Bool.false_and, Bool.and_true, Bool.and_false, Bool.or_true, Bool.or_false, Bool.true_or, Bool.false_or, Nat.reduceAdd, Nat.reduceSub, Nat.reduceLT, Nat.reduceLeDiff, true_and, and_true, and_self, decide_eq_true_eq, Nat.zero_lt_succ, Nat.lt_add_left_iff_pos, beq_self_eq_true, String.reduceBEq, String.reduceEq, Nat.le_refl, Nat.zero_le, Bool.true_eq_false, decide_true, decide_false, Int.reduceEq, Int.reduceLT, Int.reduceLE, Int.reduceSub, Int.reduceAdd, DL.wIfT, DL.wListRg, DL.eSortT, DL.eAddS, DL.eInS, DL.eLenS, DL.wSlS, DL.wI2, DL.evd_mx, DL.evd_mn, DL.evd_gcd, DL.wIStr, DL.wIEnumS, DL.eJnL, DL.eJnT, DL.wJoin, DL.eStrI, DL.eIntS, DL.strsD_map]
      exact hP _ _ _ ho2 nk_nim.1
    · simp -implicitDefEqProofs only [DL.WW, List.isEmpty_nil, List.map, List.length, List.length_cons, List.length_nil, List.length_set, List.replicate, List.append, List.cons_append, List.nil_append, List.append_nil, List.getElem?_cons_zero, List.getElem?_cons_succ, List.getElem?_nil, List.set_cons_zero, List.set_cons_succ, ↓reduceIte, Bool.false_eq_true, Bool.not_true, Bool.not_false, Bool.true_and, Bool.false_and, Bool.and_true, Bool.and_false, Bool.or_true, Bool.or_false, Bool.true_or, Bool.false_or, Nat.reduceAdd, Nat.reduceSub, Nat.reduceLT, Nat.reduceLeDiff, true_and, and_true, and_self, decide_eq_true_eq, Nat.zero_lt_succ, Nat.lt_add_left_iff_pos, beq_self_eq_true, String.reduceBEq, String.reduceEq, Nat.le_refl, Nat.zero_le, Bool.true_eq_false, decide_true, decide_false, Int.reduceEq, Int.reduceLT, Int.reduceLE, Int.reduceSub, Int.reduceAdd, DL.wIfT, DL.wListRg, DL.eSortT, DL.eAddS, DL.eInS, DL.eLenS, DL.wSlS, DL.wI2, DL.evd_mx, DL.evd_mn, DL.evd_gcd, DL.wIStr, DL.wIEnumS, DL.eJnL, DL.eJnT, DL.wJoin, DL.eStrI, DL.eIntS, DL.strsD_map, ss, d2, stC_app]
      refine ⟨by decide, by rw [stC_len, stC_len]; decide, 2, rfl, by decide, ?_⟩
      simp -implicitDefEqProofs only [DL.WW, List.isEmpty_nil, List.map, List.length, List.length_cons, List.length_nil, List.length_set, List.replicate, List.append, List.cons_append, List.nil_append, List.append_nil, List.getElem?_cons_zero, List.getElem?_cons_succ, List.getElem?_nil, List.set_cons_zero, List.set_cons_succ, ↓reduceIte, Bool.false_eq_true, Bool.not_true, Bool.not_false, Bool.true_and, Bool.false_and, Bool.and_true, Bool.and_false, Bool.or_true, Bool.or_false, Bool.true_or, Bool.false_or, Nat.reduceAdd, Nat.reduceSub, Nat.reduceLT, Nat.reduceLeDiff, true_and, and_true, and_self, decide_eq_true_eq, Nat.zero_lt_succ, Nat.lt_add_left_iff_pos, beq_self_eq_true, String.reduceBEq, String.reduceEq, Nat.le_refl, Nat.zero_le, Bool.true_eq_false, decide_true, decide_false, Int.reduceEq, Int.reduceLT, Int.reduceLE, Int.reduceSub, Int.reduceAdd, DL.wIfT, DL.wListRg, DL.eSortT, DL.eAddS, DL.eInS, DL.eLenS, DL.wSlS, DL.wI2, DL.evd_mx, DL.evd_mn, DL.evd_gcd, DL.wIStr, DL.wIEnumS, DL.eJnL, DL.eJnT, DL.wJoin, DL.eStrI, DL.eIntS, DL.strsD_map]
      exact hP _ _ _ ho2 nk_nim.2.1
    · simp -implicitDefEqProofs only [DL.WW, List.isEmpty_nil, List.map, List.length, List.length_cons, List.length_nil, List.length_set, List.replicate, List.append, List.cons_append, List.nil_append, List.append_nil, List.getElem?_cons_zero, List.getElem?_cons_succ, List.getElem?_nil, List.set_cons_zero, List.set_cons_succ, ↓reduceIte, Bool.false_eq_true, Bool.not_true, Bool.not_false, Bool.true_and, Bool.false_and, Bool.and_true, Bool.and_false, Bool.or_true, Bool.or_false, Bool.true_or, Bool.false_or, Nat.reduceAdd, Nat.reduceSub, Nat.reduceLT, Nat.reduceLeDiff, true_and, and_true, and_self, decide_eq_true_eq, Nat.zero_lt_succ, Nat.lt_add_left_iff_pos, beq_self_eq_true, String.reduceBEq, String.reduceEq, Nat.le_refl, Nat.zero_le, Bool.true_eq_false, decide_true, decide_false, Int.reduceEq, Int.reduceLT, Int.reduceLE, Int.reduceSub, Int.reduceAdd, DL.wIfT, DL.wListRg, DL.eSortT, DL.eAddS, DL.eInS, DL.eLenS, DL.wSlS, DL.wI2, DL.evd_mx, DL.evd_mn, DL.evd_gcd, DL.wIStr, DL.wIEnumS, DL.eJnL, DL.eJnT, DL.wJoin, DL.eStrI, DL.eIntS, DL.strsD_map, ss, d3, stC_app]
      refine ⟨by decide, by rw [stC_len, stC_len]; decide, 3, rfl, by decide, ?_⟩
      simp -implicitDefEqProofs only [DL.WW, List.isEmpty_nil, List.map, List.length, List.length_cons, List.length_nil, List.length_set, List.replicate, List.append, List.cons_append, List.nil_append, List.append_nil, List.getElem?_cons_zero, List.getElem?_cons_succ, List.getElem?_nil, List.set_cons_zero, List.set_cons_succ, ↓reduceIte, Bool.false_eq_true, Bool.not_true, Bool.not_false, Bool.true_and, Bool.false_and, Bool.and_true, Bool.and_false, Bool.or_true, Bool.or_false, Bool.true_or, Bool.false_or, Nat.reduceAdd, Nat.reduceSub, Nat.reduceLT, Nat.reduceLeDiff, true_and, and_true, and_self, decide_eq_true_eq, Nat.zero_lt_succ, Nat.lt_add_left_iff_pos, beq_self_eq_true, String.reduceBEq, String.reduceEq, Nat.le_refl, Nat.zero_le, Bool.true_eq_false, decide_true, decide_false, Int.reduceEq, Int.reduceLT, Int.reduceLE, Int.reduceSub, Int.reduceAdd, DL.wIfT, DL.wListRg, DL.eSortT, DL.eAddS, DL.eInS, DL.eLenS, DL.wSlS, DL.wI2, DL.evd_mx, DL.evd_mn, DL.evd_gcd, DL.wIStr, DL.wIEnumS, DL.eJnL, DL.eJnT, DL.wJoin, DL.eStrI, DL.eIntS, DL.strsD_map]
      exact hP _ _ _ ho2 nk_nim.2.2.1
    · simp -implicitDefEqProofs only [DL.WW, List.isEmpty_nil, List.map, List.length, List.length_cons, List.length_nil, List.length_set, List.replicate, List.append, List.cons_append, List.nil_append, List.append_nil, List.getElem?_cons_zero, List.getElem?_cons_succ, List.getElem?_nil, List.set_cons_zero, List.set_cons_succ, ↓reduceIte, Bool.false_eq_true, Bool.not_true, Bool.not_false, Bool.true_and, Bool.false_and, Bool.and_true, Bool.and_false, Bool.or_true, Bool.or_false, Bool.true_or, Bool.false_or, Nat.reduceAdd, Nat.reduceSub, Nat.reduceLT, Nat.reduceLeDiff, true_and, and_true, and_self, decide_eq_true_eq, Nat.zero_lt_succ, Nat.lt_add_left_iff_pos, beq_self_eq_true, String.reduceBEq, String.reduceEq, Nat.le_refl, Nat.zero_le, Bool.true_eq_false, decide_true, decide_false, Int.reduceEq, Int.reduceLT, Int.reduceLE, Int.reduceSub, Int.reduceAdd, DL.wIfT, DL.wListRg, DL.eSortT, DL.eAddS, DL.eInS, DL.eLenS, DL.wSlS, DL.wI2, DL.evd_mx, DL.evd_mn, DL.evd_gcd, DL.wIStr, DL.wIEnumS, DL.eJnL, DL.eJnT, DL.wJoin, DL.eStrI, DL.eIntS, DL.strsD_map, ss, d4, stC_app]
      refine ⟨by decide, by rw [stC_len, stC_len]; decide, 4, rfl, by decide, ?_⟩
      simp -implicitDefEqProofs only [DL.WW, List.isEmpty_nil, List.map, List.length, List.length_cons, List.length_nil, List.length_set, List.replicate, List.append, List.cons_append, List.nil_append, List.append_nil, List.getElem?_cons_zero, List.getElem?_cons_succ, List.getElem?_nil, List.set_cons_zero, List.set_cons_succ, ↓reduceIte, Bool.false_eq_true, Bool.not_true, Bool.not_false, Bool.true_and, Bool.false_and, Bool.and_true, Bool.and_false, Bool.or_true, Bool.or_false, Bool.true_or, Bool.false_or, Nat.reduceAdd, Nat.reduceSub, Nat.reduceLT, Nat.reduceLeDiff, true_and, and_true, and_self, decide_eq_true_eq, Nat.zero_lt_succ, Nat.lt_add_left_iff_pos, beq_self_eq_true, String.reduceBEq, String.reduceEq, Nat.le_refl, Nat.zero_le, Bool.true_eq_false, decide_true, decide_false, Int.reduceEq, Int.reduceLT, Int.reduceLE, Int.reduceSub, Int.reduceAdd, DL.wIfT, DL.wListRg, DL.eSortT, DL.eAddS, DL.eInS, DL.eLenS, DL.wSlS, DL.wI2, DL.evd_mx, DL.evd_mn, DL.evd_gcd, DL.wIStr, DL.wIEnumS, DL.eJnL, DL.eJnT, DL.wJoin, DL.eStrI, DL.eIntS, DL.strsD_map]
      exact hP _ _ _ ho2 nk_nim.2.2.2
  rw [if_neg c4]
  refine ⟨by decide, o1, _, rfl, ho1, ⟨by decide, by decide⟩, fun y o2 ho2 hy => ?_⟩
  simp only [dU, dD, dUS, dDS, su, sv, sus, svs, List.mem_cons, List.mem_nil_iff, or_false] at hy
  rcases hy with rfl | rfl | rfl | rfl
  · simp -implicitDefEqProofs only [DL.WW, List.isEmpty_nil, List.map, List.length, List.length_cons, List.length_nil, List.length_set, List.replicate, List.append, List.cons_append, List.nil_append, List.append_nil, List.getElem?_cons_zero, List.getElem?_cons_succ, List.getElem?_nil, List.set_cons_zero, List.set_cons_succ, ↓reduceIte, Bool.false_eq_true, Bool.not_true, Bool.not_false, Bool.true_and, Bool.false_and, Bool.and_true, Bool.and_false, Bool.or_true, Bool.or_false, Bool.true_or, Bool.false_or, Nat.reduceAdd, Nat.reduceSub, Nat.reduceLT, Nat.reduceLeDiff, true_and, and_true, and_self, decide_eq_true_eq, Nat.zero_lt_succ, Nat.lt_add_left_iff_pos, beq_self_eq_true, String.reduceBEq, String.reduceEq, Nat.le_refl, Nat.zero_le, Bool.true_eq_false, decide_true, decide_false, Int.reduceEq, Int.reduceLT, Int.reduceLE, Int.reduceSub, Int.reduceAdd, DL.wIfT, DL.wListRg, DL.eSortT, DL.eAddS, DL.eInS, DL.eLenS, DL.wSlS, DL.wI2, DL.evd_mx, DL.evd_mn, DL.evd_gcd, DL.wIStr, DL.wIEnumS, DL.eJnL, DL.eJnT, DL.wJoin, DL.eStrI, DL.eIntS, DL.strsD_map]
    exact hP _ _ _ ho2 nk_up.1
  · simp -implicitDefEqProofs only [DL.WW, List.isEmpty_nil, List.map, List.length, List.length_cons, List.length_nil, List.length_set, List.replicate, List.append, List.cons_append, List.nil_append, List.append_nil, List.getElem?_cons_zero, List.getElem?_cons_succ, List.getElem?_nil, List.set_cons_zero, List.set_cons_succ, ↓reduceIte, Bool.false_eq_true, Bool.not_true, Bool.not_false, Bool.true_and, Bool.false_and, Bool.and_true, Bool.and_false, Bool.or_true, Bool.or_false, Bool.true_or, Bool.false_or, Nat.reduceAdd, Nat.reduceSub, Nat.reduceLT, Nat.reduceLeDiff, true_and, and_true, and_self, decide_eq_true_eq, Nat.zero_lt_succ, Nat.lt_add_left_iff_pos, beq_self_eq_true, String.reduceBEq, String.reduceEq, Nat.le_refl, Nat.zero_le, Bool.true_eq_false, decide_true, decide_false, Int.reduceEq, Int.reduceLT, Int.reduceLE, Int.reduceSub, Int.reduceAdd, DL.wIfT, DL.wListRg, DL.eSortT, DL.eAddS, DL.eInS, DL.eLenS, DL.wSlS, DL.wI2, DL.evd_mx, DL.evd_mn, DL.evd_gcd, DL.wIStr, DL.wIEnumS, DL.eJnL, DL.eJnT, DL.wJoin, DL.eStrI, DL.eIntS, DL.strsD_map]
    exact hP _ _ _ ho2 nk_up.2.1
  · simp -implicitDefEqProofs only [DL.WW, List.isEmpty_nil, List.map, List.length, List.length_cons, List.length_nil, List.length_set, List.replicate, List.append, List.cons_append, List.nil_append, List.append_nil, List.getElem?_cons_zero, List.getElem?_cons_succ, List.getElem?_nil, List.set_cons_zero, List.set_cons_succ, ↓reduceIte, Bool.false_eq_true, Bool.not_true, Bool.not_false, Bool.true_and, Bool.false_and, Bool.and_true, Bool.and_false, Bool.or_true, Bool.or_false, Bool.true_or, Bool.false_or, Nat.reduceAdd, Nat.reduceSub, Nat.reduceLT, Nat.reduceLeDiff, true_and, and_true, and_self, decide_eq_true_eq, Nat.zero_lt_succ, Nat.lt_add_left_iff_pos, beq_self_eq_true, String.reduceBEq, String.reduceEq, Nat.le_refl, Nat.zero_le, Bool.true_eq_false, decide_true, decide_false, Int.reduceEq, Int.reduceLT, Int.reduceLE, Int.reduceSub, Int.reduceAdd, DL.wIfT, DL.wListRg, DL.eSortT, DL.eAddS, DL.eInS, DL.eLenS, DL.wSlS, DL.wI2, DL.evd_mx, DL.evd_mn, DL.evd_gcd, DL.wIStr, DL.wIEnumS, DL.eJnL, DL.eJnT, DL.wJoin, DL.eStrI, DL.eIntS, DL.strsD_map]
    exact hP _ _ _ ho2 nk_up.2.2.1
  · simp -implicitDefEqProofs only [DL.WW, List.isEmpty_nil, List.map, List.length, List.length_cons, List.length_nil, List.length_set, List.replicate, List.append, List.cons_append, List.nil_append, List.append_nil, List.getElem?_cons_zero, List.getElem?_cons_succ, List.getElem?_nil, List.set_cons_zero, List.set_cons_succ, ↓reduceIte, Bool.false_eq_true, Bool.not_true, Bool.not_false, Bool.true_and, Bool.false_and, Bool.and_true, Bool.and_false, Bool.or_true, Bool.or_false, Bool.true_or, Bool.false_or, Nat.reduceAdd, Nat.reduceSub, Nat.reduceLT, Nat.reduceLeDiff, true_and, and_true, and_self, decide_eq_true_eq, Nat.zero_lt_succ, Nat.lt_add_left_iff_pos, beq_self_eq_true, String.reduceBEq, String.reduceEq, Nat.le_refl, Nat.zero_le, Bool.true_eq_false, decide_true, decide_false, Int.reduceEq, Int.reduceLT, Int.reduceLE, Int.reduceSub, Int.reduceAdd, DL.wIfT, DL.wListRg, DL.eSortT, DL.eAddS, DL.eInS, DL.eLenS, DL.wSlS, DL.wI2, DL.evd_mx, DL.evd_mn, DL.evd_gcd, DL.wIStr, DL.wIEnumS, DL.eJnL, DL.eJnT, DL.wJoin, DL.eStrI, DL.eIntS, DL.strsD_map]
    exact hP _ _ _ ho2 nk_up.2.2.2
end
end K06D


set_option Elab.async false
set_option linter.all false
set_option maxRecDepth 100000
set_option maxHeartbeats 4000000
namespace K06D
open PySem L2 TG DL K06 SK TXG
section
variable {P : Program} {w : World} {K : PySem.W.Frag} {mg : Str → Option Value} {base : Heap}
def nC : Nat → Nat
  | 0 => 400
  | f + 1 => 1 + 4 * nC f
def lC : Nat → Nat
  | 0 => 8
  | f + 1 => 7 + 4 * lC f
structure Td (f : Nat) (t : List Nat) (g : G) : Prop where
  tx : Tx f t g
  ht : ht g ≤ f + 13
  nd : nd g ≤ nC f
  cd : CdOk t
  ln : t.length ≤ lC f
def tgD (p : List Nat × G) : PyData := .tuple [.str (stC p.1), gD p.2]
def F_lto (f : Nat) : FSp := fun args P => ∃ (o : Ob), args = [some (.ob (some 0) o), some (.dat (.int (f : Int)))] ∧ IsRow o ∧ f ≤ 2 ∧ ∀ (t : List Nat) (g : G) (o' : Ob), IsRow o' → Td f t g → P (.dat (.tuple [.str (stC t), gD g])) [some (.ob (some 0) o'), none]
theorem td_name {t : List Nat} {g : G} (f : Nat) (h : Nk t g) : Td f t g := by
  have n := name_ok h.1
  have h1 : 400 ≤ nC f := by
    induction f with
    | zero => exact Nat.le_refl _
    | succ f ih => rw [nC]; omega
  have h2 : 8 ≤ lC f := by
    clear h1
    induction f with
    | zero => exact Nat.le_refl _
    | succ f ih => rw [lC]; omega
  exact ⟨tx_name f h.1, by have := h.2.1; omega, by have := h.2.2; omega, n.2, by have := n.1; omega⟩
section
variable {f : Nat} {Fi : FSp} (hE : ∀ m', f = m' + 1 → Fi = F_lto m')
include hE
theorem ok_law_told {k : Nat} (T : Txt K mg) (G_law_name : FnOk P w K mg base CX0 k T.a_law_name T.d_law_name ["_law_row"] (spD K F_law_name)) (G_law_taken : FnOk P w K mg base CX0 k T.a_law_taken T.d_law_taken ["_law_row", "_law_many"] (spD K F_law_taken)) (G_law_told : FnOk P w K mg base CX0 k T.a_law_told T.d_law_told ["_law_row", "_law_deep"] (spD K Fi)) : FnOk P w K mg base CX0 (k + 1) T.a_law_told T.d_law_told ["_law_row", "_law_deep"] (spD K (F_lto f)) := by
  refine T.F_law_told.ok sc_law_told (fun vs H Q E h => spD_len (fun args P hF => ?_) h) (fun cdv A outer s H vs Q E hr h => ⟨_, (pss_cons (ps_if (PW.pt (pw_or (pt_cmpR (op_eqDK (K := K) rfl hr.units) (pv 1) pe_int (nomark _)) (pw_or1 (pt_cmpR (op_eqDK (K := K) rfl hr.units) (pe_call G_law_taken hr rfl T.g_law_taken T.F_law_taken.kp T.b_law_taken .nil pass0 (pa_cons (pv 0) (pa_cons pe_int pa_nil))) pe_int (nomark _)))))
  (pss_one (ps_ret (pe_call G_law_name hr rfl T.g_law_name T.F_law_name.kp T.b_law_name .nil pass0 (pa_cons (pv 0) pa_nil))))
  pss_nil)
  (pss_cons (ps_par (i := 2) (j := 3) rfl sc_law_told.nd rfl rfl (by decide) rfl rfl (pa_cons (pe_lst pa_nil) (pa_cons (pe_lst pa_nil) pa_nil)) rfl)
  (pss_cons (ps_for PassesOwn.never rfl (pi_range1 rfl T.m_range (pa_cons pe_int pa_nil)) (pg_name (i := 4) sc_law_told.nd rfl (Or.inl rfl))
  (pss_cons (ps_setLc (i := 5) (own := [("_law_at", 6)]) rfl sc_law_told.nd rfl rfl (sw_true rfl rfl rfl (by decide +kernel)) (pi_range1 rfl T.m_range (pa_cons (pe_call G_law_taken hr rfl T.g_law_taken T.F_law_taken.kp T.b_law_taken .nil pass0 (pa_cons (pv 0) (pa_cons pe_int pa_nil))) pa_nil)) (blkOk_by (N := ["_law_row", "_law_deep", "_law_texts", "_law_sides", "_law_side", "_law_some_here", "_law_at", "_law_told_here"]) (sc := defScope s_law_told) (by decide +kernel)) (fun _ _ _ _ _ => (pg_name (i := 6) sc_law_told.nd rfl (Or.inl rfl))) (fun _ _ _ _ _ => pts_nil) (fun _ _ _ _ _ => (pe_call G_law_told hr rfl T.g_law_told T.F_law_told.kp T.b_law_told .nil pass0 (pa_cons (pv 0) (pa_cons (pe_op op_sub (pv 1) pe_int) pa_nil)))))
  (pss_cons (ps_expr (pe_bmK (K := K) rfl PySem.F.plainAttrs_list PySem.F.slot_list_append PySem.F.type_list_append mt_append (pv 2) (pa_cons (pe_joinK (K := K) rfl pe_str (pe_lc (own := [("_law_told_here", 7)]) rfl sc_law_told.nd (pi_listK (K := K) rfl (pv 5)) (blkOk_by (N := ["_law_row", "_law_deep", "_law_texts", "_law_sides", "_law_side", "_law_some_here", "_law_at", "_law_told_here"]) (sc := defScope s_law_told) (by decide +kernel)) (fun _ _ _ _ _ => (pg_name (i := 7) sc_law_told.nd rfl (Or.inl rfl))) (fun _ _ _ _ _ => pts_nil) (fun _ _ _ _ _ => (pe_ix (ix_tupK (K := K) rfl) (pv 7) pe_int (fun _ _ => rfl))))) pa_nil)))
  (pss_one (ps_expr (pe_bmK (K := K) rfl PySem.F.plainAttrs_list PySem.F.slot_list_append PySem.F.type_list_append mt_append (pv 3) (pa_cons (pe_callTy (call_tuple_ofK (K := K) rfl) rfl T.m_tuple (by decide +kernel) (pa_cons (pe_lc (own := [("_law_told_here", 7)]) rfl sc_law_told.nd (pi_listK (K := K) rfl (pv 5)) (blkOk_by (N := ["_law_row", "_law_deep", "_law_texts", "_law_sides", "_law_side", "_law_some_here", "_law_at", "_law_told_here"]) (sc := defScope s_law_told) (by decide +kernel)) (fun _ _ _ _ _ => (pg_name (i := 7) sc_law_told.nd rfl (Or.inl rfl))) (fun _ _ _ _ _ => pts_nil) (fun _ _ _ _ _ => (pe_ix (ix_tupK (K := K) rfl) (pv 7) pe_int (fun _ _ => rfl)))) pa_nil)) pa_nil)))))))
  (pss_one (ps_ret (pe_tup (pa_cons (pe_op op_add_str (pe_op op_add_str (pe_op op_add_str (pe_op op_add_str pe_str (pe_ix (ix_listK (K := K) rfl) (pv 2) pe_int (fun _ _ => rfl))) pe_str) (pe_ix (ix_listK (K := K) rfl) (pv 2) pe_int (fun _ _ => rfl))) pe_str) (pa_cons (pe_tup (pa_cons (pe_ix (ix_listK (K := K) rfl) (pv 3) pe_int (fun _ _ => rfl)) (pa_cons (pe_ix (ix_listK (K := K) rfl) (pv 3) pe_int (fun _ _ => rfl)) pa_nil))) pa_nil)))))))), fn_run (N := ["_law_row", "_law_deep", "_law_texts", "_law_sides", "_law_side", "_law_some_here", "_law_at", "_law_told_here"]) h (fun A' Hz' => (ss_seq (ss_if (st_or (st_test (se_op sr_eqD se_var se_int)) (st_test (se_op sr_eqD (se_callO (sa_cons se_int sa_nil)) se_int)))
  (ss_ret (se_callO sa_nil))
  ss_next)
  (ss_seq (ss_par (by decide) (se_lst sa_nil) (se_lst sa_nil))
  (ss_seq (ss_for (si_rng1 se_int) sg_name
  (ss_seq (ss_asg (se_lc (si_rng1 (se_callO (sa_cons se_int sa_nil))) sg_name st_yes (se_callO (sa_cons (se_op (sr_I0 (fun _ _ => rfl)) se_var se_int) sa_nil)) (by decide)) sg_name)
  (ss_seq (ss_drop (se_app (se_join se_str (se_lc (si_list se_var) sg_name st_yes (se_op sr_ixT se_var se_int) (by decide)))))
  (ss_drop (se_app (se_cb1 sc_tupOf (se_lc (si_list se_var) sg_name st_yes (se_op sr_ixT se_var se_int) (by decide))))))))
  (ss_ret (se_tup (sa_cons (se_op sr_addS (se_op sr_addS (se_op sr_addS (se_op sr_addS se_str (se_op sr_ixL se_var se_int)) se_str) (se_op sr_ixL se_var se_int)) se_str) (sa_cons (se_tup (sa_cons (se_op sr_ixL se_var se_int) (sa_cons (se_op sr_ixL se_var se_int) sa_nil))) sa_nil)))))))) (fun args P hl hF => ?_)⟩)
  · obtain ⟨o, rfl, _⟩ := hF
    rfl
  obtain ⟨o, rfl, ho, hf3, hP⟩ := hF
  simp -implicitDefEqProofs only [DL.WW, List.isEmpty_nil, List.map, List.length, List.length_cons, List.length_nil, List.length_set, List.replicate, List.append, List.cons_append, List.nil_append, List.append_nil, List.getElem?_cons_zero, List.getElem?_cons_succ, List.getElem?_nil, List.set_cons_zero, List.set_cons_succ, ↓reduceIte, Bool.false_eq_true, Bool.not_true, Bool.not_false, Bool.true_and, Bool.false_and, Bool.and_true, Bool.and_false, Bool.or_true, Bool.or_false, Bool.true_or, Bool.false_or, Nat.reduceAdd, Nat.reduceSub, Nat.reduceLT, Nat.reduceLeDiff, true_and, and_true, and_self, decide_eq_true_eq, Nat.zero_lt_succ, Nat.lt_add_left_iff_pos, beq_self_eq_true, String.reduceBEq, String.reduceEq, Nat.le_refl, Nat.zero_le, Bool.true_eq_false, decide_true, decide_false, Int.reduceEq, Int.reduceLT, Int.reduceLE, Int.reduceSub, Int.reduceAdd, DL.wIfT, DL.wListRg, DL.eSortT, DL.eAddS, DL.eInS, DL.eLenS, DL.wSlS, DL.wI2, DL.evd_mx, DL.evd_mn, DL.evd_gcd, DL.wIStr, DL.wIEnumS, DL.eJnL, DL.eJnT, DL.wJoin, DL.eStrI, DL.eIntS, DL.strsD_map]
  by_cases cf : (f : Int) = 0
  · rw [if_pos cf]
    refine ⟨o, rfl, ho, fun t g o2 ho2 hn => ?_⟩
    simp -implicitDefEqProofs only [DL.WW, List.isEmpty_nil, List.map, List.length, List.length_cons, List.length_nil, List.length_set, List.replicate, List.append, List.cons_append, List.nil_append, List.append_nil, List.getElem?_cons_zero, List.getElem?_cons_succ, List.getElem?_nil, List.set_cons_zero, List.set_cons_succ, ↓reduceIte, Bool.false_eq_true, Bool.not_true, Bool.not_false, Bool.true_and, Bool.false_and, Bool.and_true, Bool.and_false, Bool.or_true, Bool.or_false, Bool.true_or, Bool.false_or, Nat.reduceAdd, Nat.reduceSub, Nat.reduceLT, Nat.reduceLeDiff, true_and, and_true, and_self, decide_eq_true_eq, Nat.zero_lt_succ, Nat.lt_add_left_iff_pos, beq_self_eq_true, String.reduceBEq, String.reduceEq, Nat.le_refl, Nat.zero_le, Bool.true_eq_false, decide_true, decide_false, Int.reduceEq, Int.reduceLT, Int.reduceLE, Int.reduceSub, Int.reduceAdd, DL.wIfT, DL.wListRg, DL.eSortT, DL.eAddS, DL.eInS, DL.eLenS, DL.wSlS, DL.wI2, DL.evd_mx, DL.evd_mn, DL.evd_gcd, DL.wIStr, DL.wIEnumS, DL.eJnL, DL.eJnT, DL.wJoin, DL.eStrI, DL.eIntS, DL.strsD_map]
    exact hP _ _ _ ho2 (td_name f hn)
  rw [if_neg cf]
  obtain ⟨f, rfl⟩ : ∃ f', f = f' + 1 := ⟨f - 1, by omega⟩
  have hFi := hE f rfl
  subst hFi
  refine ⟨o, _, rfl, ho, ⟨by decide, by decide⟩, fun x o1 ho1 x0 x1 => ?_⟩
  simp -implicitDefEqProofs only [DL.WW, List.isEmpty_nil, List.map, List.length, List.length_cons, List.length_nil, List.length_set, List.replicate, List.append, List.cons_append, List.nil_append, List.append_nil, List.getElem?_cons_zero, List.getElem?_cons_succ, List.getElem?_nil, List.set_cons_zero, List.set_cons_succ, ↓reduceIte, Bool.false_eq_true, Bool.not_true, Bool.not_false, Bool.true_and, Bool.false_and, Bool.and_true, Bool.and_false, Bool.or_true, Bool.or_false, Bool.true_or, Bool.false_or, Nat.reduceAdd, Nat.reduceSub, Nat.reduceLT, Nat.reduceLeDiff, true_and, and_true, and_self, decide_eq_true_eq, Nat.zero_lt_succ, Nat.lt_add_left_iff_pos, beq_self_eq_true, String.reduceBEq, String.reduceEq, Nat.le_refl, Nat.zero_le, Bool.true_eq_false, decide_true, decide_false, Int.reduceEq, Int.reduceLT, Int.reduceLE, Int.reduceSub, Int.reduceAdd, DL.wIfT, DL.wListRg, DL.eSortT, DL.eAddS, DL.eInS, DL.eLenS, DL.wSlS, DL.wI2, DL.evd_mx, DL.evd_mn, DL.evd_gcd, DL.wIStr, DL.wIEnumS, DL.eJnL, DL.eJnT, DL.wJoin, DL.eStrI, DL.eIntS, DL.strsD_map]
  by_cases cx : x = 0
  · rw [if_pos cx]
    refine ⟨o1, rfl, ho1, fun t g o2 ho2 hn => ?_⟩
    simp -implicitDefEqProofs only [DL.WW, List.isEmpty_nil, List.map, List.length, List.length_cons, List.length_nil, List.length_set, List.replicate, List.append, List.cons_append, List.nil_append, List.append_nil, List.getElem?_cons_zero, List.getElem?_cons_succ, List.getElem?_nil, List.set_cons_zero, List.set_cons_succ, ↓reduceIte, Bool.false_eq_true, Bool.not_true, Bool.not_false, Bool.true_and, Bool.false_and, Bool.and_true, Bool.and_false, Bool.or_true, Bool.or_false, Bool.true_or, Bool.false_or, Nat.reduceAdd, Nat.reduceSub, Nat.reduceLT, Nat.reduceLeDiff, true_and, and_true, and_self, decide_eq_true_eq, Nat.zero_lt_succ, Nat.lt_add_left_iff_pos, beq_self_eq_true, String.reduceBEq, String.reduceEq, Nat.le_refl, Nat.zero_le, Bool.true_eq_false, decide_true, decide_false, Int.reduceEq, Int.reduceLT, Int.reduceLE, Int.reduceSub, Int.reduceAdd, DL.wIfT, DL.wListRg, DL.eSortT, DL.eAddS, DL.eInS, DL.eLenS, DL.wSlS, DL.wI2, DL.evd_mx, DL.evd_mn, DL.evd_gcd, DL.wIStr, DL.wIEnumS, DL.eJnL, DL.eJnT, DL.wJoin, DL.eStrI, DL.eIntS, DL.strsD_map]
    exact hP _ _ _ ho2 (td_name _ hn)
  rw [if_neg cx]
  have hrl : ∀ m, (rangeD 0 m).length = m := fun m => by simp [rangeD]
  have hnil2 : ∀ p : List Nat × G, p ∈ ([] : List (List Nat × G)) → Td f p.1 p.2 := fun l hl => by cases hl
  have hnil : ∀ l : List (List Nat × G), l ∈ ([] : List (List (List Nat × G))) → l.length ≤ 2 ∧ ∀ p ∈ l, Td f p.1 p.2 := fun l hl => by cases hl
  have scm : Str.ofString "," = stC [44] := by decide +kernel
  have hlc : lC f ≤ 40 := by
    have : f = 0 ∨ f = 1 := by omega
    rcases this with rfl | rfl <;> decide
  refine for_use ?_
  simp -implicitDefEqProofs only [DL.WW, List.isEmpty_nil, List.map, List.length, List.length_cons, List.length_nil, List.length_set, List.replicate, List.append, List.cons_append, List.nil_append, List.append_nil, List.getElem?_cons_zero, List.getElem?_cons_succ, List.getElem?_nil, List.set_cons_zero, List.set_cons_succ, ↓reduceIte, Bool.false_eq_true, Bool.not_true, Bool.not_false, Bool.true_and, Bool.false_and, Bool.and_true, Bool.and_false, Bool.or_true, Bool.or_false, Bool.true_or, Bool.false_or, Nat.reduceAdd, Nat.reduceSub, Nat.reduceLT, Nat.reduceLeDiff, true_and, and_true, and_self, decide_eq_true_eq, Nat.zero_lt_succ, Nat.lt_add_left_iff_pos, beq_self_eq_true, String.reduceBEq, String.reduceEq, Nat.le_refl, Nat.zero_le, Bool.true_eq_false, decide_true, decide_false, Int.reduceEq, Int.reduceLT, Int.reduceLE, Int.reduceSub, Int.reduceAdd, DL.wIfT, DL.wListRg, DL.eSortT, DL.eAddS, DL.eInS, DL.eLenS, DL.wSlS, DL.wI2, DL.evd_mx, DL.evd_mn, DL.evd_gcd, DL.wIStr, DL.wIEnumS, DL.eJnL, DL.eJnT, DL.wJoin, DL.eStrI, DL.eIntS, DL.strsD_map]
  refine ⟨⟨by decide, by decide⟩, fun i e => ∃ (o' : Ob) (sd : List (List (List Nat × G))) (z4 z5 : Option B), IsRow o' ∧ sd.length = i ∧ (∀ l ∈ sd, l.length ≤ 2 ∧ ∀ p ∈ l, Td f p.1 p.2) ∧
    e = [some (.ob (some 0) o'), some (.dat (.int ((f + 1 : Nat) : Int))), some (.ob none (.lst (sd.map fun l => .str (stC (joinC (l.map (·.1))))))), some (.ob none (.lst (sd.map fun l => .tuple (l.map fun p => gD p.2)))), z4, z5, none, none],
    ⟨o1, [], none, none, ho1, rfl, hnil, rfl⟩, ?_, ?_⟩
  · rintro i d e hd ⟨o', sd, z4, z5, ho', hsl, hsd, rfl⟩
    have hi := (List.getElem?_eq_some_iff.mp hd).1
    rw [hrl] at hi
    have hi2 : i < 2 := hi
    simp -implicitDefEqProofs only [DL.WW, List.isEmpty_nil, List.map, List.length, List.length_cons, List.length_nil, List.length_set, List.replicate, List.append, List.cons_append, List.nil_append, List.append_nil, List.getElem?_cons_zero, List.getElem?_cons_succ, List.getElem?_nil, List.set_cons_zero, List.set_cons_succ, ↓reduceIte, Bool.false_eq_true, Bool.not_true, Bool.not_false, Bool.true_and, Bool.false_and, Bool.and_true, Bool.and_false, Bool.or_true, Bool.or_false, Bool.true_or, Bool.false_or, Nat.reduceAdd, Nat.reduceSub, Nat.reduceLT, Nat.reduceLeDiff, true_and, and_true, and_self, decide_eq_true_eq, Nat.zero_lt_succ, Nat.lt_add_left_iff_pos, beq_self_eq_true, String.reduceBEq, String.reduceEq, Nat.le_refl, Nat.zero_le, Bool.true_eq_false, decide_true, decide_false, Int.reduceEq, Int.reduceLT, Int.reduceLE, Int.reduceSub, Int.reduceAdd, DL.wIfT, DL.wListRg, DL.eSortT, DL.eAddS, DL.eInS, DL.eLenS, DL.wSlS, DL.wI2, DL.evd_mx, DL.evd_mn, DL.evd_gcd, DL.wIStr, DL.wIEnumS, DL.eJnL, DL.eJnT, DL.wJoin, DL.eStrI, DL.eIntS, DL.strsD_map]
    refine lc_use ?_
    simp -implicitDefEqProofs only [DL.WW, List.isEmpty_nil, List.map, List.length, List.length_cons, List.length_nil, List.length_set, List.replicate, List.append, List.cons_append, List.nil_append, List.append_nil, List.getElem?_cons_zero, List.getElem?_cons_succ, List.getElem?_nil, List.set_cons_zero, List.set_cons_succ, ↓reduceIte, Bool.false_eq_true, Bool.not_true, Bool.not_false, Bool.true_and, Bool.false_and, Bool.and_true, Bool.and_false, Bool.or_true, Bool.or_false, Bool.true_or, Bool.false_or, Nat.reduceAdd, Nat.reduceSub, Nat.reduceLT, Nat.reduceLeDiff, true_and, and_true, and_self, decide_eq_true_eq, Nat.zero_lt_succ, Nat.lt_add_left_iff_pos, beq_self_eq_true, String.reduceBEq, String.reduceEq, Nat.le_refl, Nat.zero_le, Bool.true_eq_false, decide_true, decide_false, Int.reduceEq, Int.reduceLT, Int.reduceLE, Int.reduceSub, Int.reduceAdd, DL.wIfT, DL.wListRg, DL.eSortT, DL.eAddS, DL.eInS, DL.eLenS, DL.wSlS, DL.wI2, DL.evd_mx, DL.evd_mn, DL.evd_gcd, DL.wIStr, DL.wIEnumS, DL.eJnL, DL.eJnT, DL.wJoin, DL.eStrI, DL.eIntS, DL.strsD_map]
    refine ⟨o', _, rfl, ho', ⟨by decide, by decide⟩, fun c o2 ho2 c0 c1 => ?_⟩
    simp -implicitDefEqProofs only [DL.WW, List.isEmpty_nil, List.map, List.length, List.length_cons, List.length_nil, List.length_set, List.replicate, List.append, List.cons_append, List.nil_append, List.append_nil, List.getElem?_cons_zero, List.getElem?_cons_succ, List.getElem?_nil, List.set_cons_zero, List.set_cons_succ, ↓reduceIte, Bool.false_eq_true, Bool.not_true, Bool.not_false, Bool.true_and, Bool.false_and, Bool.and_true, Bool.and_false, Bool.or_true, Bool.or_false, Bool.true_or, Bool.false_or, Nat.reduceAdd, Nat.reduceSub, Nat.reduceLT, Nat.reduceLeDiff, true_and, and_true, and_self, decide_eq_true_eq, Nat.zero_lt_succ, Nat.lt_add_left_iff_pos, beq_self_eq_true, String.reduceBEq, String.reduceEq, Nat.le_refl, Nat.zero_le, Bool.true_eq_false, decide_true, decide_false, Int.reduceEq, Int.reduceLT, Int.reduceLE, Int.reduceSub, Int.reduceAdd, DL.wIfT, DL.wListRg, DL.eSortT, DL.eAddS, DL.eInS, DL.eLenS, DL.wSlS, DL.wI2, DL.evd_mx, DL.evd_mn, DL.evd_gcd, DL.wIStr, DL.wIEnumS, DL.eJnL, DL.eJnT, DL.wJoin, DL.eStrI, DL.eIntS, DL.strsD_map]
    refine ⟨⟨by omega, by omega⟩, ?_⟩
    refine ⟨fun j acc e => ∃ (o' : Ob) (l : List (List Nat × G)), IsRow o' ∧ l.length = j ∧ (∀ p ∈ l, Td f p.1 p.2) ∧ acc = l.map tgD ∧
      e = [some (.ob (some 0) o'), some (.dat (.int ((f + 1 : Nat) : Int))), some (.ob none (.lst (sd.map fun l => .str (stC (joinC (l.map (·.1))))))), some (.ob none (.lst (sd.map fun l => .tuple (l.map fun p => gD p.2)))), some (.dat d), z5, none, none], ⟨o2, [], ho2, rfl, hnil2, rfl, rfl⟩, ?_, ?_⟩
    · rintro j d2 acc e hd2 ⟨o5, l, ho5, hlj, hl, rfl, rfl⟩
      have hj := (List.getElem?_eq_some_iff.mp hd2).1
      rw [hrl] at hj
      simp -implicitDefEqProofs only [DL.WW, List.isEmpty_nil, List.map, List.length, List.length_cons, List.length_nil, List.length_set, List.replicate, List.append, List.cons_append, List.nil_append, List.append_nil, List.getElem?_cons_zero, List.getElem?_cons_succ, List.getElem?_nil, List.set_cons_zero, List.set_cons_succ, ↓reduceIte, Bool.false_eq_true, Bool.not_true, Bool.not_false, Bool.true_and, Bool.false_and, Bool.and_true, Bool.and_false, Bool.or_true, Bool.or_false, Bool.true_or, Bool.false_or, Nat.reduceAdd, Nat.reduceSub, Nat.reduceLT, Nat.reduceLeDiff, true_and, and_true, and_self, decide_eq_true_eq, Nat.zero_lt_succ, Nat.lt_add_left_iff_pos, beq_self_eq_true, String.reduceBEq, String.reduceEq, Nat.le_refl, Nat.zero_le, Bool.true_eq_false, decide_true, decide_false, Int.reduceEq, Int.reduceLT, Int.reduceLE, Int.reduceSub, Int.reduceAdd, DL.wIfT, DL.wListRg, DL.eSortT, DL.eAddS, DL.eInS, DL.eLenS, DL.wSlS, DL.wI2, DL.evd_mx, DL.evd_mn, DL.evd_gcd, DL.wIStr, DL.wIEnumS, DL.eJnL, DL.eJnT, DL.wJoin, DL.eStrI, DL.eIntS, DL.strsD_map]
      refine ⟨by rw [List.length_map]; omega, ?_⟩
      have ef : ((f + 1 : Nat) : Int) - 1 = (f : Int) := by omega
      rw [ef]
      refine ⟨o5, rfl, ho5, by omega, fun t g o6 ho6 hg => ?_⟩
      simp -implicitDefEqProofs only [DL.WW, List.isEmpty_nil, List.map, List.length, List.length_cons, List.length_nil, List.length_set, List.replicate, List.append, List.cons_append, List.nil_append, List.append_nil, List.getElem?_cons_zero, List.getElem?_cons_succ, List.getElem?_nil, List.set_cons_zero, List.set_cons_succ, ↓reduceIte, Bool.false_eq_true, Bool.not_true, Bool.not_false, Bool.true_and, Bool.false_and, Bool.and_true, Bool.and_false, Bool.or_true, Bool.or_false, Bool.true_or, Bool.false_or, Nat.reduceAdd, Nat.reduceSub, Nat.reduceLT, Nat.reduceLeDiff, true_and, and_true, and_self, decide_eq_true_eq, Nat.zero_lt_succ, Nat.lt_add_left_iff_pos, beq_self_eq_true, String.reduceBEq, String.reduceEq, Nat.le_refl, Nat.zero_le, Bool.true_eq_false, decide_true, decide_false, Int.reduceEq, Int.reduceLT, Int.reduceLE, Int.reduceSub, Int.reduceAdd, DL.wIfT, DL.wListRg, DL.eSortT, DL.eAddS, DL.eInS, DL.eLenS, DL.wSlS, DL.wI2, DL.evd_mx, DL.evd_mn, DL.evd_gcd, DL.wIStr, DL.wIEnumS, DL.eJnL, DL.eJnT, DL.wJoin, DL.eStrI, DL.eIntS, DL.strsD_map]
      refine ⟨o6, l ++ [(t, g)], ho6, by simp [hlj], fun y hy => ?_, by rw [List.map_append]; rfl, rfl⟩
      rcases List.mem_append.mp hy with h | h
      · exact hl y h
      · rw [List.mem_singleton.mp h]; exact hg
    · rintro acc e ⟨o5, l, ho5, hlj, hl, rfl, rfl⟩
      rw [hrl] at hlj
      simp -implicitDefEqProofs only [DL.WW, List.isEmpty_nil, List.map, List.length, List.length_cons, List.length_nil, List.length_set, List.replicate, List.append, List.cons_append, List.nil_append, List.append_nil, List.getElem?_cons_zero, List.getElem?_cons_succ, List.getElem?_nil, List.set_cons_zero, List.set_cons_succ, ↓reduceIte, Bool.false_eq_true, Bool.not_true, Bool.not_false, Bool.true_and, Bool.false_and, Bool.and_true, Bool.and_false, Bool.or_true, Bool.or_false, Bool.true_or, Bool.false_or, Nat.reduceAdd, Nat.reduceSub, Nat.reduceLT, Nat.reduceLeDiff, true_and, and_true, and_self, decide_eq_true_eq, Nat.zero_lt_succ, Nat.lt_add_left_iff_pos, beq_self_eq_true, String.reduceBEq, String.reduceEq, Nat.le_refl, Nat.zero_le, Bool.true_eq_false, decide_true, decide_false, Int.reduceEq, Int.reduceLT, Int.reduceLE, Int.reduceSub, Int.reduceAdd, DL.wIfT, DL.wListRg, DL.eSortT, DL.eAddS, DL.eInS, DL.eLenS, DL.wSlS, DL.wI2, DL.evd_mx, DL.evd_mn, DL.evd_gcd, DL.wIStr, DL.wIEnumS, DL.eJnL, DL.eJnT, DL.wJoin, DL.eStrI, DL.eIntS, DL.strsD_map]
      refine lc_use ?_
      simp -implicitDefEqProofs only [DL.WW, List.isEmpty_nil, List.map, List.length, List.length_cons, List.length_nil, List.length_set, List.replicate, List.append, List.cons_append, List.nil_append, List.append_nil, List.getElem?_cons_zero, List.getElem?_cons_succ, List.getElem?_nil, List.set_cons_zero, List.set_cons_succ, ↓reduceIte, Bool.false_eq_true, Bool.not_true, Bool.not_false, Bool.true_and, Bool.false_and, Bool.and_true, Bool.and_false, Bool.or_true, Bool.or_false, Bool.true_or, Bool.false_or, Nat.reduceAdd, Nat.reduceSub, Nat.reduceLT, Nat.reduceLeDiff, true_and, and_true, and_self, decide_eq_true_eq, Nat.zero_lt_succ, Nat.lt_add_left_iff_pos, beq_self_eq_true, String.reduceBEq, String.reduceEq, Nat.le_refl, Nat.zero_le, Bool.true_eq_false, decide_true, decide_false, Int.reduceEq, Int.reduceLT, Int.reduceLE, Int.reduceSub, Int.reduceAdd, DL.wIfT, DL.wListRg, DL.eSortT, DL.eAddS, DL.eInS, DL.eLenS, DL.wSlS, DL.wI2, DL.evd_mx, DL.evd_mn, DL.evd_gcd, DL.wIStr, DL.wIEnumS, DL.eJnL, DL.eJnT, DL.wJoin, DL.eStrI, DL.eIntS, DL.strsD_map]
      have hl2 : l.length ≤ 2 := by omega
      refine lc_acc (fun j => (l.take j).map fun p => PyData.str (stC p.1)) rfl rfl (fun j hj => ?_) (fun j y hy => ?_) ?_
      · rw [List.length_map] at hj
        rw [List.length_map, List.length_take]
        omega
      · obtain ⟨p, hp, rfl⟩ := map_get hy
        simp -implicitDefEqProofs only [DL.WW, List.isEmpty_nil, List.map, List.length, List.length_cons, List.length_nil, List.length_set, List.replicate, List.append, List.cons_append, List.nil_append, List.append_nil, List.getElem?_cons_zero, List.getElem?_cons_succ, List.getElem?_nil, List.set_cons_zero, List.set_cons_succ, ↓reduceIte, Bool.false_eq_true, Bool.not_true, Bool.not_false, Bool.true_and, Bool.false_and, Bool.and_true, Bool.and_false, Bool.or_true, Bool.or_false, Bool.true_or, Bool.false_or, Nat.reduceAdd, Nat.reduceSub, Nat.reduceLT, Nat.reduceLeDiff, true_and, and_true, and_self, decide_eq_true_eq, Nat.zero_lt_succ, Nat.lt_add_left_iff_pos, beq_self_eq_true, String.reduceBEq, String.reduceEq, Nat.le_refl, Nat.zero_le, Bool.true_eq_false, decide_true, decide_false, Int.reduceEq, Int.reduceLT, Int.reduceLE, Int.reduceSub, Int.reduceAdd, DL.wIfT, DL.wListRg, DL.eSortT, DL.eAddS, DL.eInS, DL.eLenS, DL.wSlS, DL.wI2, DL.evd_mx, DL.evd_mn, DL.evd_gcd, DL.wIStr, DL.wIEnumS, DL.eJnL, DL.eJnT, DL.wJoin, DL.eStrI, DL.eIntS, DL.strsD_map, tgD]
        rw [List.take_succ, hp, List.map_append]
        rfl
      rw [List.length_map, List.take_length]
      have e1 : (l.map fun p => PyData.str (stC p.1)) = ((l.map (·.1)).map stC).map PyData.str := by simp [List.map_map]
      have hsum : (((l.map (·.1)).map stC).map (·.length)).sum ≤ 100 := by
        match l, hl2, hl with
        | [], _, _ => simp
        | [a], _, h =>
          have := (h a (by simp)).ln
          simp only [List.map_cons, List.map_nil, List.sum_cons, List.sum_nil, stC_len]
          omega
        | [a, b], _, h =>
          have h1 := (h a (by simp)).ln
          have h2 := (h b (by simp)).ln
          simp only [List.map_cons, List.map_nil, List.sum_cons, List.sum_nil, stC_len]
          omega
        | a :: b :: c :: l, h, _ => exact absurd h (by simp)
      rw [e1]
      simp -implicitDefEqProofs only [DL.WW, List.isEmpty_nil, List.map, List.length, List.length_cons, List.length_nil, List.length_set, List.replicate, List.append, List.cons_append, List.nil_append, List.append_nil, List.getElem?_cons_zero, List.getElem?_cons_succ, List.getElem?_nil, List.set_cons_zero, List.set_cons_succ, ↓reduceIte, Bool.false_eq_true, Bool.not_true, Bool.not_false, Bool.true_and, Bool.false_and, Bool.and_true, Bool.and_false, Bool.or_true, Bool.or_false, Bool.true_or, Bool.false_or, Nat.reduceAdd, Nat.reduceSub, Nat.reduceLT, Nat.reduceLeDiff, true_and, and_true, and_self, decide_eq_true_eq, Nat.zero_lt_succ, Nat.lt_add_left_iff_pos, beq_self_eq_true, String.reduceBEq, String.reduceEq, Nat.le_refl, Nat.zero_le, Bool.true_eq_false, decide_true, decide_false, Int.reduceEq, Int.reduceLT, Int.reduceLE, Int.reduceSub, Int.reduceAdd, DL.wIfT, DL.wListRg, DL.eSortT, DL.eAddS, DL.eInS, DL.eLenS, DL.wSlS, DL.wI2, DL.evd_mx, DL.evd_mn, DL.evd_gcd, DL.wIStr, DL.wIEnumS, DL.eJnL, DL.eJnT, DL.wJoin, DL.eStrI, DL.eIntS, DL.strsD_map, strsD_map, scm, join_C, List.length_map, stC_len]
      refine ⟨by show _ + _ * 1 ≤ _; omega, by omega, ?_⟩
      refine lc_use ?_
      simp -implicitDefEqProofs only [DL.WW, List.isEmpty_nil, List.map, List.length, List.length_cons, List.length_nil, List.length_set, List.replicate, List.append, List.cons_append, List.nil_append, List.append_nil, List.getElem?_cons_zero, List.getElem?_cons_succ, List.getElem?_nil, List.set_cons_zero, List.set_cons_succ, ↓reduceIte, Bool.false_eq_true, Bool.not_true, Bool.not_false, Bool.true_and, Bool.false_and, Bool.and_true, Bool.and_false, Bool.or_true, Bool.or_false, Bool.true_or, Bool.false_or, Nat.reduceAdd, Nat.reduceSub, Nat.reduceLT, Nat.reduceLeDiff, true_and, and_true, and_self, decide_eq_true_eq, Nat.zero_lt_succ, Nat.lt_add_left_iff_pos, beq_self_eq_true, String.reduceBEq, String.reduceEq, Nat.le_refl, Nat.zero_le, Bool.true_eq_false, decide_true, decide_false, Int.reduceEq, Int.reduceLT, Int.reduceLE, Int.reduceSub, Int.reduceAdd, DL.wIfT, DL.wListRg, DL.eSortT, DL.eAddS, DL.eInS, DL.eLenS, DL.wSlS, DL.wI2, DL.evd_mx, DL.evd_mn, DL.evd_gcd, DL.wIStr, DL.wIEnumS, DL.eJnL, DL.eJnT, DL.wJoin, DL.eStrI, DL.eIntS, DL.strsD_map]
      refine lc_acc (fun j => (l.take j).map fun p => gD p.2) rfl rfl (fun j hj => ?_) (fun j y hy => ?_) ?_
      · rw [List.length_map] at hj
        rw [List.length_map, List.length_take]
        omega
      · obtain ⟨p, hp, rfl⟩ := map_get hy
        simp -implicitDefEqProofs only [DL.WW, List.isEmpty_nil, List.map, List.length, List.length_cons, List.length_nil, List.length_set, List.replicate, List.append, List.cons_append, List.nil_append, List.append_nil, List.getElem?_cons_zero, List.getElem?_cons_succ, List.getElem?_nil, List.set_cons_zero, List.set_cons_succ, ↓reduceIte, Bool.false_eq_true, Bool.not_true, Bool.not_false, Bool.true_and, Bool.false_and, Bool.and_true, Bool.and_false, Bool.or_true, Bool.or_false, Bool.true_or, Bool.false_or, Nat.reduceAdd, Nat.reduceSub, Nat.reduceLT, Nat.reduceLeDiff, true_and, and_true, and_self, decide_eq_true_eq, Nat.zero_lt_succ, Nat.lt_add_left_iff_pos, beq_self_eq_true, String.reduceBEq, String.reduceEq, Nat.le_refl, Nat.zero_le, Bool.true_eq_false, decide_true, decide_false, Int.reduceEq, Int.reduceLT, Int.reduceLE, Int.reduceSub, Int.reduceAdd, DL.wIfT, DL.wListRg, DL.eSortT, DL.eAddS, DL.eInS, DL.eLenS, DL.wSlS, DL.wI2, DL.evd_mx, DL.evd_mn, DL.evd_gcd, DL.wIStr, DL.wIEnumS, DL.eJnL, DL.eJnT, DL.wJoin, DL.eStrI, DL.eIntS, DL.strsD_map, tgD]
        rw [List.take_succ, hp, List.map_append]
        rfl
      rw [List.length_map, List.take_length]
      simp -implicitDefEqProofs only [DL.WW, List.isEmpty_nil, List.map, List.length, List.length_cons, List.length_nil, List.length_set, List.replicate, List.append, List.cons_append, List.nil_append, List.append_nil, List.getElem?_cons_zero, List.getElem?_cons_succ, List.getElem?_nil, List.set_cons_zero, List.set_cons_succ, ↓reduceIte, Bool.false_eq_true, Bool.not_true, Bool.not_false, Bool.true_and, Bool.false_and, Bool.and_true, Bool.and_false, Bool.or_true, Bool.or_false, Bool.true_or, Bool.false_or, Nat.reduceAdd, Nat.reduceSub, Nat.reduceLT, Nat.reduceLeDiff, true_and, and_true, and_self, decide_eq_true_eq, Nat.zero_lt_succ, Nat.lt_add_left_iff_pos, beq_self_eq_true, String.reduceBEq, String.reduceEq, Nat.le_refl, Nat.zero_le, Bool.true_eq_false, decide_true, decide_false, Int.reduceEq, Int.reduceLT, Int.reduceLE, Int.reduceSub, Int.reduceAdd, DL.wIfT, DL.wListRg, DL.eSortT, DL.eAddS, DL.eInS, DL.eLenS, DL.wSlS, DL.wI2, DL.evd_mx, DL.evd_mn, DL.evd_gcd, DL.wIStr, DL.wIEnumS, DL.eJnL, DL.eJnT, DL.wJoin, DL.eStrI, DL.eIntS, DL.strsD_map, List.length_map]
      refine ⟨by omega, o5, sd ++ [l], _, _, ho5, by simp [hsl], fun y hy => ?_, by rw [List.map_append, List.map_append]; rfl⟩
      rcases List.mem_append.mp hy with h | h
      · exact hsd y h
      · rw [List.mem_singleton.mp h]; exact ⟨hl2, hl⟩
  · rintro e ⟨o', sd, z4, z5, ho', hsl, hsd, rfl⟩
    rw [hrl] at hsl
    have hsl2 : sd.length = 2 := hsl
    obtain ⟨l, r, rfl⟩ : ∃ l r, sd = [l, r] := by
      match sd, hsl2 with
      | [l, r], _ => exact ⟨l, r, rfl⟩
    simp -implicitDefEqProofs only [DL.WW, List.isEmpty_nil, List.map, List.length, List.length_cons, List.length_nil, List.length_set, List.replicate, List.append, List.cons_append, List.nil_append, List.append_nil, List.getElem?_cons_zero, List.getElem?_cons_succ, List.getElem?_nil, List.set_cons_zero, List.set_cons_succ, ↓reduceIte, Bool.false_eq_true, Bool.not_true, Bool.not_false, Bool.true_and, Bool.false_and, Bool.and_true, Bool.and_false, Bool.or_true, Bool.or_false, Bool.true_or, Bool.false_or, Nat.reduceAdd, Nat.reduceSub, Nat.reduceLT, Nat.reduceLeDiff, true_and, and_true, and_self, decide_eq_true_eq, Nat.zero_lt_succ, Nat.lt_add_left_iff_pos, beq_self_eq_true, String.reduceBEq, String.reduceEq, Nat.le_refl, Nat.zero_le, Bool.true_eq_false, decide_true, decide_false, Int.reduceEq, Int.reduceLT, Int.reduceLE, Int.reduceSub, Int.reduceAdd, DL.wIfT, DL.wListRg, DL.eSortT, DL.eAddS, DL.eInS, DL.eLenS, DL.wSlS, DL.wI2, DL.evd_mx, DL.evd_mn, DL.evd_gcd, DL.wIStr, DL.wIEnumS, DL.eJnL, DL.eJnT, DL.wJoin, DL.eStrI, DL.eIntS, DL.strsD_map]
    have c2 : Str.ofString "{" = stC [123] := by decide +kernel
    have c3 : Str.ofString "|" = stC [124] := by decide +kernel
    have c4 : Str.ofString "}" = stC [125] := by decide +kernel
    have h1 := hsd l (by simp)
    have h2 := hsd r (by simp)
    have hs : ∀ l : List (List Nat × G), (l.length ≤ 2 ∧ ∀ p ∈ l, Td f p.1 p.2) → htL (l.map (·.2)) ≤ f + 14 ∧ ndL (l.map (·.2)) ≤ 2 * nC f ∧ (joinC (l.map (·.1))).length ≤ 2 * lC f + 2 ∧ CdOk (joinC (l.map (·.1))) := fun l h => by
      match l, h with
      | [], _ => exact ⟨by simp [htL], by simp [ndL], by simp [joinC], cd_nil⟩
      | [a], h =>
        have t := h.2 a (by simp)
        have t1 := t.ht
        have t2 := t.nd
        have t3 := t.ln
        simp only [List.map_cons, List.map_nil, htL, ndL, joinC]
        exact ⟨by omega, by omega, by omega, t.cd⟩
      | [a, b], h =>
        have t := h.2 a (by simp)
        have u := h.2 b (by simp)
        have t1 := t.ht
        have t2 := t.nd
        have t3 := t.ln
        have u1 := u.ht
        have u2 := u.nd
        have u3 := u.ln
        simp only [List.map_cons, List.map_nil, htL, ndL, joinC, List.length_append, List.length_cons]
        exact ⟨by omega, by omega, by omega, cd_app t.cd (cd_cons (by decide) u.cd)⟩
      | a :: b :: c :: l, h => exact absurd h.1 (by simp)
    obtain ⟨a1, a2, a3, a4⟩ := hs l h1
    obtain ⟨b1, b2, b3, b4⟩ := hs r h2
    have el : ∀ l : List (List Nat × G), (∀ p ∈ l, Td f p.1 p.2) → ∀ (i : Nat) (t : List Nat) (g : G), (l.map (·.1))[i]? = some t → (l.map (·.2))[i]? = some g → Tx f t g := fun l h i t g ht hg => by
      rw [List.getElem?_map] at ht hg
      cases hp : l[i]? with
      | none => rw [hp] at ht; cases ht
      | some p =>
        rw [hp] at ht hg
        cases ht
        cases hg
        exact (h p (List.mem_of_getElem? hp)).tx
    have td : Td (f + 1) (123 :: joinC (l.map (·.1)) ++ 124 :: joinC (r.map (·.1)) ++ [125]) (.mk (l.map (·.2)) (r.map (·.2))) :=
      ⟨.br f _ _ _ _ (by simp) (by simp) (el l h1.2) (el r h2.2), by rw [ht]; omega, by rw [nd, nC]; omega, cd_app (cd_app (cd_cons (by decide) a4) (cd_cons (by decide) b4)) (cd_cons (by decide) cd_nil), by
        simp only [lC, List.length_append, List.length_cons, List.length_nil]; omega⟩
    have hq := hP _ _ o' ho' td
    have e9 : [123] ++ joinC (l.map (·.1)) ++ [124] ++ joinC (r.map (·.1)) ++ [125] = 123 :: joinC (l.map (·.1)) ++ 124 :: joinC (r.map (·.1)) ++ [125] := by simp
    have sz : ∀ n : Nat, n ≤ 1000 → n ≤ sizeLine := fun n h => Nat.le_trans h (by decide)
    rw [c2, c3, c4, stC_app, stC_app, stC_app, stC_app, e9]
    rw [gD_mk, List.map_map, List.map_map] at hq
    simp only [stC_len, List.length_append, List.length_cons, List.length_nil]
    exact ⟨sz _ (by omega), sz _ (by omega), sz _ (by omega), sz _ (by omega), hq⟩
end
end
end K06D


set_option Elab.async false
set_option linter.all false
set_option maxRecDepth 100000
set_option maxHeartbeats 4000000
namespace K06D
open PySem L2 TG DL K06 SK TXG
section
variable {P : Program} {w : World} {K : PySem.W.Frag} {mg : Str → Option Value} {base : Heap}
theorem txt_eq : ∀ (f f' : Nat) (g : G), ht g < f → ht g < f' → txt f g = txt f' g
  | 0, _, g, h, _ => by omega
  | _ + 1, 0, g, _, h => by omega
  | f + 1, f' + 1, g, h, h' => by
    rw [txt, txt]
    split
    · rfl
    · have k : ∀ gs : List G, (∀ x ∈ gs, x ∈ g.lf ∨ x ∈ g.rt) → gs.map (txt f) = gs.map (txt f') := fun gs hg => List.map_congr_left fun x hx => by
        have := ht_lt (hg x hx)
        exact txt_eq f f' x (by omega) (by omega)
      rw [k g.lf fun x hx => .inl hx, k g.rt fun x hx => .inr hx]
theorem three_none (a b c d : G) : nameOf (.mk [a, b, c] [d]) = none := by
  have h1 : intOf 18 0 (.mk [a, b, c] [d]) = none := rfl
  have hf : frac 50 (.mk [a, b, c] [d]) = none := by rw [frac, h1]; rfl
  unfold nameOf
  rw [h1, hf]
  simp [eqG, eqL, star, up, down, upS, downS, nimG, nimL]
def F_law_told : FSp := F_lto 2
theorem ok_law {k : Nat} (T : Txt K mg) (G_law_told : FnOk P w K mg base CX0 k T.a_law_told T.d_law_told ["_law_row", "_law_deep"] (spD K F_law_told)) (G_write : FnOk P w K mg base CX0 k T.a_write T.d_write ["game"] (spD K F_write)) (G_law_name : FnOk P w K mg base CX0 k T.a_law_name T.d_law_name ["_law_row"] (spD K F_law_name)) (G_law_some : FnOk P w K mg base CX0 k T.a_law_some T.d_law_some ["_law_row", "_law_deep", "_law_most"] (spD K F_law_some)) (G_law_nodes : FnOk P w K mg base CX0 k T.a_law_nodes T.d_law_nodes ["_law_game_here"] (spD K F_law_nodes)) (G_read : FnOk P w K mg base CX0 k T.a_read T.d_read ["text"] (spD K F_read)) (G_law_star : FnOk P w K mg base CX0 k T.a_law_star T.d_law_star [] (spD K F_law_star)) : FnOk P w K mg base CX0 (k + 1) T.a_law T.d_law ["_law_script"] (spD K F_law) := by
  refine T.F_law.ok sc_law (fun vs H Q E h => spD_len (fun args P hF => ?_) h) (fun cdv A outer s H vs Q E hr h => ⟨_, (pss_cons (ps_set (i := 1) sc_law.nd rfl (Or.inl rfl) (pe_lst (pa_cons (pv 0) (pa_cons pe_int (pa_cons pe_int (pa_cons pe_int pa_nil))))))
  (pss_cons (ps_asg (pe_call G_law_told hr rfl T.g_law_told T.F_law_told.kp T.b_law_told .nil pass0 (pa_cons (pv 1) (pa_cons pe_int pa_nil))) (pg_tupK (K := K) (n := 2) rfl rfl (pgs_cons (pg_name (i := 2) sc_law.nd rfl (Or.inl rfl)) (pgs_cons (pg_name (i := 3) sc_law.nd rfl (Or.inl rfl)) pgs_nil))))
  (pss_cons (ps_if (pt_cmpR op_gt (pe_call G_law_nodes hr rfl T.g_law_nodes T.F_law_nodes.kp T.b_law_nodes .nil pass0 (pa_cons (pv 3) pa_nil)) pe_int (nomark _))
  (pss_one (ps_asg (pe_call G_law_name hr rfl T.g_law_name T.F_law_name.kp T.b_law_name .nil pass0 (pa_cons (pv 1) pa_nil)) (pg_tupK (K := K) (n := 2) rfl rfl (pgs_cons (pg_name (i := 2) sc_law.nd rfl (Or.inl rfl)) (pgs_cons (pg_name (i := 3) sc_law.nd rfl (Or.inl rfl)) pgs_nil)))))
  pss_nil)
  (pss_cons (ps_if (pt_cmpR (op_neDK (K := K) rfl hr.units) (pe_call G_read hr rfl T.g_read T.F_read.kp T.b_read .nil pass0 (pa_cons (pv 2) pa_nil)) (pv 3) (nomark _))
  (pss_one (ps_ret pe_bl))
  pss_nil)
  (pss_cons (ps_set (i := 4) sc_law.nd rfl (Or.inl rfl) (pe_call G_write hr rfl T.g_write T.F_write.kp T.b_write .nil pass0 (pa_cons (pv 3) pa_nil)))
  (pss_cons (ps_if (PW.pt (pw_or (pt_not (pt_val (pe_callB (call_isiX (K := K) rfl) rfl T.m_isinstance (by decide +kernel) (pa_cons (pv 4) (pa_cons (pe_bltn (v := .ty "str") (u := .type "str") rfl T.m_str (by decide +kernel) rfl) pa_nil))))) (pw_or1 (pt_cmpR (op_neDK (K := K) rfl hr.units) (pe_call G_read hr rfl T.g_read T.F_read.kp T.b_read .nil pass0 (pa_cons (pv 4) pa_nil)) (pv 3) (nomark _)))))
  (pss_one (ps_ret pe_bl))
  pss_nil)
  (pss_cons (ps_asg (pe_call G_law_name hr rfl T.g_law_name T.F_law_name.kp T.b_law_name .nil pass0 (pa_cons (pv 1) pa_nil)) (pg_tupK (K := K) (n := 2) rfl rfl (pgs_cons (pg_name (i := 5) sc_law.nd rfl (Or.inl rfl)) (pgs_cons (pg_name (i := 6) sc_law.nd rfl (Or.inl rfl)) pgs_nil))))
  (pss_cons (ps_if (PW.pt (pw_or (pt_cmpR (op_neDK (K := K) rfl hr.units) (pe_call G_write hr rfl T.g_write T.F_write.kp T.b_write .nil pass0 (pa_cons (pv 6) pa_nil)) (pv 5) (nomark _)) (pw_or1 (pt_cmpR (op_neDK (K := K) rfl hr.units) (pe_call G_read hr rfl T.g_read T.F_read.kp T.b_read .nil pass0 (pa_cons (pv 5) pa_nil)) (pv 6) (nomark _)))))
  (pss_one (ps_ret pe_bl))
  pss_nil)
  (pss_cons (ps_set (i := 7) sc_law.nd rfl (Or.inl rfl) (pe_call G_law_some hr rfl T.g_law_some T.F_law_some.kp T.b_law_some .nil pass0 (pa_cons (pv 1) (pa_cons pe_int (pa_cons pe_int pa_nil)))))
  (pss_cons (ps_if (PW.pt (pw_or (pt_cmpR (op_neDK (K := K) rfl hr.units) (pe_call G_read hr rfl T.g_read T.F_read.kp T.b_read .nil pass0 (pa_cons (pe_call G_write hr rfl T.g_write T.F_write.kp T.b_write .nil pass0 (pa_cons (pv 7) pa_nil)) pa_nil)) (pv 7) (nomark _)) (pw_or1 (pt_cmpR (op_neDK (K := K) rfl hr.units) (pe_call G_write hr rfl T.g_write T.F_write.kp T.b_write .nil pass0 (pa_cons (pe_call G_read hr rfl T.g_read T.F_read.kp T.b_read .nil pass0 (pa_cons (pe_call G_write hr rfl T.g_write T.F_write.kp T.b_write .nil pass0 (pa_cons (pv 7) pa_nil)) pa_nil)) pa_nil)) (pe_call G_write hr rfl T.g_write T.F_write.kp T.b_write .nil pass0 (pa_cons (pv 7) pa_nil)) (nomark _)))))
  (pss_one (ps_ret pe_bl))
  pss_nil)
  (pss_cons (ps_set (i := 8) sc_law.nd rfl (Or.inl rfl) (pe_tup (pa_cons (pe_tup (pa_cons (pv 7) (pa_cons (pv 6) (pa_cons (pv 7) pa_nil)))) (pa_cons (pe_tup (pa_cons (pv 6) pa_nil)) pa_nil))))
  (pss_cons (ps_set (i := 9) sc_law.nd rfl (Or.inl rfl) (pe_op op_add_str (pe_op op_add_str (pe_op op_add_str (pe_op op_add_str (pe_op op_add_str (pe_op op_add_str (pe_op op_add_str (pe_op op_add_str pe_str (pe_call G_write hr rfl T.g_write T.F_write.kp T.b_write .nil pass0 (pa_cons (pv 7) pa_nil))) pe_str) (pv 5)) pe_str) (pe_call G_write hr rfl T.g_write T.F_write.kp T.b_write .nil pass0 (pa_cons (pv 7) pa_nil))) pe_str) (pv 5)) pe_str))
  (pss_one (ps_ret (pe_and (pe_cmpR (op_eqDK (K := K) rfl hr.units) (pe_call G_write hr rfl T.g_write T.F_write.kp T.b_write .nil pass0 (pa_cons (pv 8) pa_nil)) (pv 9) (nomark _)) (pe_and (pe_cmpR (op_eqDK (K := K) rfl hr.units) (pe_call G_read hr rfl T.g_read T.F_read.kp T.b_read .nil pass0 (pa_cons pe_str pa_nil)) (pe_tup (pa_cons (pe_tup pa_nil) (pa_cons (pe_tup pa_nil) pa_nil))) (nomark _)) (pe_one (pe_cmpR (op_eqDK (K := K) rfl hr.units) (pe_call G_read hr rfl T.g_read T.F_read.kp T.b_read .nil pass0 (pa_cons pe_str pa_nil)) (pe_call0 G_law_star hr rfl T.g_law_star T.F_law_star.kp T.b_law_star .nil pass0) (nomark _))))))))))))))))))), fn_run (N := ["_law_script", "_law_row", "_law_text", "_law_game_here", "_law_told_here", "_law_name_here", "_law_known", "_law_other", "_law_plain", "_law_due"]) h (fun A' Hz' => (ss_seq (ss_asg (se_lst (sa_cons se_var (sa_cons se_int (sa_cons se_int (sa_cons se_int sa_nil))))) sg_name)
  (ss_seq (ss_asg (se_callO (sa_cons se_int sa_nil)) (sg_tup (sgs_cons sg_name (sgs_cons sg_name sgs_nil))))
  (ss_cut (ss_if (st_test (se_op (sr_I0 (fun _ _ => rfl)) (se_call (sa_cons se_var sa_nil)) se_int))
  (ss_asg (se_callO sa_nil) (sg_tup (sgs_cons sg_name (sgs_cons sg_name sgs_nil))))
  ss_next)
  (ss_seq (ss_if (st_test (se_op sr_neD (se_call (sa_cons se_var sa_nil)) se_var))
  (ss_ret se_bl)
  ss_next)
  (ss_seq (ss_asg (se_call (sa_cons se_var sa_nil)) sg_name)
  (ss_seq (ss_if (st_or (st_not (st_B (se_isi rfl se_var))) (st_test (se_op sr_neD (se_call (sa_cons se_var sa_nil)) se_var)))
  (ss_ret se_bl)
  ss_next)
  (ss_seq (ss_asg (se_callO sa_nil) (sg_tup (sgs_cons sg_name (sgs_cons sg_name sgs_nil))))
  (ss_seq (ss_if (st_or (st_test (se_op sr_neD (se_call (sa_cons se_var sa_nil)) se_var)) (st_test (se_op sr_neD (se_call (sa_cons se_var sa_nil)) se_var)))
  (ss_ret se_bl)
  ss_next)
  (ss_seq (ss_asg (se_callO (sa_cons se_int (sa_cons se_int sa_nil))) sg_name)
  (ss_seq (ss_if (st_or (st_test (se_op sr_neD (se_call (sa_cons (se_call (sa_cons se_var sa_nil)) sa_nil)) se_var)) (st_test (se_op sr_neD (se_call (sa_cons (se_call (sa_cons (se_call (sa_cons se_var sa_nil)) sa_nil)) sa_nil)) (se_call (sa_cons se_var sa_nil)))))
  (ss_ret se_bl)
  ss_next)
  (ss_seq (ss_asg (se_tup (sa_cons (se_tup (sa_cons se_var (sa_cons se_var (sa_cons se_var sa_nil)))) (sa_cons (se_tup (sa_cons se_var sa_nil)) sa_nil))) sg_name)
  (ss_seq (ss_asg (se_op sr_addS (se_op sr_addS (se_op sr_addS (se_op sr_addS (se_op sr_addS (se_op sr_addS (se_op sr_addS (se_op sr_addS se_str (se_call (sa_cons se_var sa_nil))) se_str) se_var) se_str) (se_call (sa_cons se_var sa_nil))) se_str) se_var) se_str) sg_name)
  (ss_ret (se_andV (se_op sr_eqD (se_call (sa_cons se_var sa_nil)) se_var) (se_andV (se_op sr_eqD (se_call (sa_cons se_str sa_nil)) (se_tup (sa_cons (se_tup sa_nil) (sa_cons (se_tup sa_nil) sa_nil)))) (se_op sr_eqD (se_call (sa_cons se_str sa_nil)) (se_call sa_nil)))))))))))))))))) (fun args P hl hF => ?_)⟩)
  · obtain ⟨ns, rfl, _⟩ := hF
    rfl
  obtain ⟨ns, rfl, hl2, q⟩ := hF
  simp -implicitDefEqProofs only [DL.WW, List.isEmpty_nil, List.map, List.length, List.length_cons, List.length_nil, List.length_set, List.replicate, List.append, List.cons_append, List.nil_append, List.append_nil, List.getElem?_cons_zero, List.getElem?_cons_succ, List.getElem?_nil, List.set_cons_zero, List.set_cons_succ, ↓reduceIte, Bool.false_eq_true, Bool.not_true, Bool.not_false, Bool.true_and, Bool.false_and, Bool.and_true, Bool.and_false, Bool.or_true, Bool.or_false, Bool.true_or, Bool.false_or, Nat.reduceAdd, Nat.reduceSub, Nat.reduceLT, Nat.reduceLeDiff, true_and, and_true, and_self, decide_eq_true_eq, Nat.zero_lt_succ, Nat.lt_add_left_iff_pos, beq_self_eq_true, String.reduceBEq, String.reduceEq, Nat.le_refl, Nat.zero_le, Bool.true_eq_false, decide_true, decide_false, Int.reduceEq, Int.reduceLT, Int.reduceLE, Int.reduceSub, Int.reduceAdd, DL.wIfT, DL.wListRg, DL.eSortT, DL.eAddS, DL.eInS, DL.eLenS, DL.wSlS, DL.wI2, DL.evd_mx, DL.evd_mn, DL.evd_gcd, DL.wIStr, DL.wIEnumS, DL.eJnL, DL.eJnT, DL.wJoin, DL.eStrI, DL.eIntS, DL.strsD_map]
  refine ⟨_, rfl, isRow_new hl2, Nat.le_refl _, fun t g o1 ho1 td => ?_⟩
  simp -implicitDefEqProofs only [DL.WW, List.isEmpty_nil, List.map, List.length, List.length_cons, List.length_nil, List.length_set, List.replicate, List.append, List.cons_append, List.nil_append, List.append_nil, List.getElem?_cons_zero, List.getElem?_cons_succ, List.getElem?_nil, List.set_cons_zero, List.set_cons_succ, ↓reduceIte, Bool.false_eq_true, Bool.not_true, Bool.not_false, Bool.true_and, Bool.false_and, Bool.and_true, Bool.and_false, Bool.or_true, Bool.or_false, Bool.true_or, Bool.false_or, Nat.reduceAdd, Nat.reduceSub, Nat.reduceLT, Nat.reduceLeDiff, true_and, and_true, and_self, decide_eq_true_eq, Nat.zero_lt_succ, Nat.lt_add_left_iff_pos, beq_self_eq_true, String.reduceBEq, String.reduceEq, Nat.le_refl, Nat.zero_le, Bool.true_eq_false, decide_true, decide_false, Int.reduceEq, Int.reduceLT, Int.reduceLE, Int.reduceSub, Int.reduceAdd, DL.wIfT, DL.wListRg, DL.eSortT, DL.eAddS, DL.eInS, DL.eLenS, DL.wSlS, DL.wI2, DL.evd_mx, DL.evd_mn, DL.evd_gcd, DL.wIStr, DL.wIEnumS, DL.eJnL, DL.eJnT, DL.wJoin, DL.eStrI, DL.eIntS, DL.strsD_map]
  generalize hgs : some (B.dat (PyData.list (ns.map PyData.int))) = gs
  refine cut_use (fun e => ∃ (t : List Nat) (g : G) (o : Ob), IsRow o ∧ Tx 16 t g ∧ ht g ≤ 15 ∧ nd g ≤ 1000 ∧ CdOk t ∧ t.length ≤ 50000 ∧ e = [gs, some (.ob none o), some (.dat (.str (stC t))), some (.dat (gD g)), none, none, none, none, none, none]) ?_ ?_
  · have h1 := td.ht
    have h2 := td.nd
    have hn2 : nC 2 ≤ 40000 := by decide
    have h3 := td.ln
    have hl2 : lC 2 ≤ 50000 := by decide
    simp -implicitDefEqProofs only [DL.WW, List.isEmpty_nil, List.map, List.length, List.length_cons, List.length_nil, List.length_set, List.replicate, List.append, List.cons_append, List.nil_append, List.append_nil, List.getElem?_cons_zero, List.getElem?_cons_succ, List.getElem?_nil, List.set_cons_zero, List.set_cons_succ, ↓reduceIte, Bool.false_eq_true, Bool.not_true, Bool.not_false, Bool.true_and, Bool.false_and, Bool.and_true, Bool.and_false, Bool.or_true, Bool.or_false, Bool.true_or, Bool.false_or, Nat.reduceAdd, Nat.reduceSub, Nat.reduceLT, Nat.reduceLeDiff, true_and, and_true, and_self, decide_eq_true_eq, Nat.zero_lt_succ, Nat.lt_add_left_iff_pos, beq_self_eq_true, String.reduceBEq, String.reduceEq, Nat.le_refl, Nat.zero_le, Bool.true_eq_false, decide_true, decide_false, Int.reduceEq, Int.reduceLT, Int.reduceLE, Int.reduceSub, Int.reduceAdd, DL.wIfT, DL.wListRg, DL.eSortT, DL.eAddS, DL.eInS, DL.eLenS, DL.wSlS, DL.wI2, DL.evd_mx, DL.evd_mn, DL.evd_gcd, DL.wIStr, DL.wIEnumS, DL.eJnL, DL.eJnT, DL.wJoin, DL.eStrI, DL.eIntS, DL.strsD_map]
    refine ⟨g, rfl, by omega, by omega, ?_⟩
    simp -implicitDefEqProofs only [DL.WW, List.isEmpty_nil, List.map, List.length, List.length_cons, List.length_nil, List.length_set, List.replicate, List.append, List.cons_append, List.nil_append, List.append_nil, List.getElem?_cons_zero, List.getElem?_cons_succ, List.getElem?_nil, List.set_cons_zero, List.set_cons_succ, ↓reduceIte, Bool.false_eq_true, Bool.not_true, Bool.not_false, Bool.true_and, Bool.false_and, Bool.and_true, Bool.and_false, Bool.or_true, Bool.or_false, Bool.true_or, Bool.false_or, Nat.reduceAdd, Nat.reduceSub, Nat.reduceLT, Nat.reduceLeDiff, true_and, and_true, and_self, decide_eq_true_eq, Nat.zero_lt_succ, Nat.lt_add_left_iff_pos, beq_self_eq_true, String.reduceBEq, String.reduceEq, Nat.le_refl, Nat.zero_le, Bool.true_eq_false, decide_true, decide_false, Int.reduceEq, Int.reduceLT, Int.reduceLE, Int.reduceSub, Int.reduceAdd, DL.wIfT, DL.wListRg, DL.eSortT, DL.eAddS, DL.eInS, DL.eLenS, DL.wSlS, DL.wI2, DL.evd_mx, DL.evd_mn, DL.evd_gcd, DL.wIStr, DL.wIEnumS, DL.eJnL, DL.eJnT, DL.wJoin, DL.eStrI, DL.eIntS, DL.strsD_map]
    by_cases c : (1000 : Int) < (nd g : Int)
    · simp -implicitDefEqProofs only [DL.WW, List.isEmpty_nil, List.map, List.length, List.length_cons, List.length_nil, List.length_set, List.replicate, List.append, List.cons_append, List.nil_append, List.append_nil, List.getElem?_cons_zero, List.getElem?_cons_succ, List.getElem?_nil, List.set_cons_zero, List.set_cons_succ, ↓reduceIte, Bool.false_eq_true, Bool.not_true, Bool.not_false, Bool.true_and, Bool.false_and, Bool.and_true, Bool.and_false, Bool.or_true, Bool.or_false, Bool.true_or, Bool.false_or, Nat.reduceAdd, Nat.reduceSub, Nat.reduceLT, Nat.reduceLeDiff, true_and, and_true, and_self, decide_eq_true_eq, Nat.zero_lt_succ, Nat.lt_add_left_iff_pos, beq_self_eq_true, String.reduceBEq, String.reduceEq, Nat.le_refl, Nat.zero_le, Bool.true_eq_false, decide_true, decide_false, Int.reduceEq, Int.reduceLT, Int.reduceLE, Int.reduceSub, Int.reduceAdd, DL.wIfT, DL.wListRg, DL.eSortT, DL.eAddS, DL.eInS, DL.eLenS, DL.wSlS, DL.wI2, DL.evd_mx, DL.evd_mn, DL.evd_gcd, DL.wIStr, DL.wIEnumS, DL.eJnL, DL.eJnT, DL.wJoin, DL.eStrI, DL.eIntS, DL.strsD_map, c]
      refine ⟨o1, rfl, ho1, fun t g o2 ho2 hk => ?_⟩
      simp -implicitDefEqProofs only [DL.WW, List.isEmpty_nil, List.map, List.length, List.length_cons, List.length_nil, List.length_set, List.replicate, List.append, List.cons_append, List.nil_append, List.append_nil, List.getElem?_cons_zero, List.getElem?_cons_succ, List.getElem?_nil, List.set_cons_zero, List.set_cons_succ, ↓reduceIte, Bool.false_eq_true, Bool.not_true, Bool.not_false, Bool.true_and, Bool.false_and, Bool.and_true, Bool.and_false, Bool.or_true, Bool.or_false, Bool.true_or, Bool.false_or, Nat.reduceAdd, Nat.reduceSub, Nat.reduceLT, Nat.reduceLeDiff, true_and, and_true, and_self, decide_eq_true_eq, Nat.zero_lt_succ, Nat.lt_add_left_iff_pos, beq_self_eq_true, String.reduceBEq, String.reduceEq, Nat.le_refl, Nat.zero_le, Bool.true_eq_false, decide_true, decide_false, Int.reduceEq, Int.reduceLT, Int.reduceLE, Int.reduceSub, Int.reduceAdd, DL.wIfT, DL.wListRg, DL.eSortT, DL.eAddS, DL.eInS, DL.eLenS, DL.wSlS, DL.wI2, DL.evd_mx, DL.evd_mn, DL.evd_gcd, DL.wIStr, DL.wIEnumS, DL.eJnL, DL.eJnT, DL.wJoin, DL.eStrI, DL.eIntS, DL.strsD_map]
      have n := name_ok hk.1
      exact ⟨t, g, o2, ho2, tx_name 16 hk.1, by have := hk.2.1; omega, by have := hk.2.2; omega, n.2, by have := n.1; omega, rfl⟩
    · simp -implicitDefEqProofs only [DL.WW, List.isEmpty_nil, List.map, List.length, List.length_cons, List.length_nil, List.length_set, List.replicate, List.append, List.cons_append, List.nil_append, List.append_nil, List.getElem?_cons_zero, List.getElem?_cons_succ, List.getElem?_nil, List.set_cons_zero, List.set_cons_succ, ↓reduceIte, Bool.false_eq_true, Bool.not_true, Bool.not_false, Bool.true_and, Bool.false_and, Bool.and_true, Bool.and_false, Bool.or_true, Bool.or_false, Bool.true_or, Bool.false_or, Nat.reduceAdd, Nat.reduceSub, Nat.reduceLT, Nat.reduceLeDiff, true_and, and_true, and_self, decide_eq_true_eq, Nat.zero_lt_succ, Nat.lt_add_left_iff_pos, beq_self_eq_true, String.reduceBEq, String.reduceEq, Nat.le_refl, Nat.zero_le, Bool.true_eq_false, decide_true, decide_false, Int.reduceEq, Int.reduceLT, Int.reduceLE, Int.reduceSub, Int.reduceAdd, DL.wIfT, DL.wListRg, DL.eSortT, DL.eAddS, DL.eInS, DL.eLenS, DL.wSlS, DL.wI2, DL.evd_mx, DL.evd_mn, DL.evd_gcd, DL.wIStr, DL.wIEnumS, DL.eJnL, DL.eJnT, DL.wJoin, DL.eStrI, DL.eIntS, DL.strsD_map, c]
      exact ⟨t, g, o1, ho1, td.tx.mono 16 (by decide), by omega, by omega, td.cd, by omega, rfl⟩
  rintro e ⟨t, g, o, ho, htx, hh, hn, hcd, hln, rfl⟩
  clear td ho1
  have sg : Sm g := ⟨by omega, by omega⟩
  have wr : ∀ g : G, ht g ≤ 15 → nd g ≤ 1500 → Tx 16 (txt 50 g) g ∧ CdOk (txt 50 g) ∧ (txt 50 g).length ≤ 50000 := fun g h1 h2 => ⟨(tx_txt 50 g (by omega)).mono 16 (by omega), txt_cd 50 g, by have := txt_len 50 g; omega⟩
  have eqs : ∀ g : G, eqG g g = true := fun g => (eqG_iff g g).mpr rfl
  simp -implicitDefEqProofs only [DL.WW, List.isEmpty_nil, List.map, List.length, List.length_cons, List.length_nil, List.length_set, List.replicate, List.append, List.cons_append, List.nil_append, List.append_nil, List.getElem?_cons_zero, List.getElem?_cons_succ, List.getElem?_nil, List.set_cons_zero, List.set_cons_succ, ↓reduceIte, Bool.false_eq_true, Bool.not_true, Bool.not_false, Bool.true_and, Bool.false_and, Bool.and_true, Bool.and_false, Bool.or_true, Bool.or_false, Bool.true_or, Bool.false_or, Nat.reduceAdd, Nat.reduceSub, Nat.reduceLT, Nat.reduceLeDiff, true_and, and_true, and_self, decide_eq_true_eq, Nat.zero_lt_succ, Nat.lt_add_left_iff_pos, beq_self_eq_true, String.reduceBEq, String.reduceEq, Nat.le_refl, Nat.zero_le, Bool.true_eq_false, decide_true, decide_false, Int.reduceEq, Int.reduceLT, Int.reduceLE, Int.reduceSub, Int.reduceAdd, DL.wIfT, DL.wListRg, DL.eSortT, DL.eAddS, DL.eInS, DL.eLenS, DL.wSlS, DL.wI2, DL.evd_mx, DL.evd_mn, DL.evd_gcd, DL.wIStr, DL.wIEnumS, DL.eJnL, DL.eJnT, DL.wJoin, DL.eStrI, DL.eIntS, DL.strsD_map]
  refine ⟨t, g, rfl, hln, hcd, htx, sg, ?_⟩
  simp -implicitDefEqProofs only [DL.WW, List.isEmpty_nil, List.map, List.length, List.length_cons, List.length_nil, List.length_set, List.replicate, List.append, List.cons_append, List.nil_append, List.append_nil, List.getElem?_cons_zero, List.getElem?_cons_succ, List.getElem?_nil, List.set_cons_zero, List.set_cons_succ, ↓reduceIte, Bool.false_eq_true, Bool.not_true, Bool.not_false, Bool.true_and, Bool.false_and, Bool.and_true, Bool.and_false, Bool.or_true, Bool.or_false, Bool.true_or, Bool.false_or, Nat.reduceAdd, Nat.reduceSub, Nat.reduceLT, Nat.reduceLeDiff, true_and, and_true, and_self, decide_eq_true_eq, Nat.zero_lt_succ, Nat.lt_add_left_iff_pos, beq_self_eq_true, String.reduceBEq, String.reduceEq, Nat.le_refl, Nat.zero_le, Bool.true_eq_false, decide_true, decide_false, Int.reduceEq, Int.reduceLT, Int.reduceLE, Int.reduceSub, Int.reduceAdd, DL.wIfT, DL.wListRg, DL.eSortT, DL.eAddS, DL.eInS, DL.eLenS, DL.wSlS, DL.wI2, DL.evd_mx, DL.evd_mn, DL.evd_gcd, DL.wIStr, DL.wIEnumS, DL.eJnL, DL.eJnT, DL.wJoin, DL.eStrI, DL.eIntS, DL.strsD_map, eqv_g, eqs]
  refine ⟨sg.sh, sg.sh, g, rfl, sg, ?_⟩
  obtain ⟨w1, w2, w3⟩ := wr g hh (by omega)
  simp -implicitDefEqProofs only [DL.WW, List.isEmpty_nil, List.map, List.length, List.length_cons, List.length_nil, List.length_set, List.replicate, List.append, List.cons_append, List.nil_append, List.append_nil, List.getElem?_cons_zero, List.getElem?_cons_succ, List.getElem?_nil, List.set_cons_zero, List.set_cons_succ, ↓reduceIte, Bool.false_eq_true, Bool.not_true, Bool.not_false, Bool.true_and, Bool.false_and, Bool.and_true, Bool.and_false, Bool.or_true, Bool.or_false, Bool.true_or, Bool.false_or, Nat.reduceAdd, Nat.reduceSub, Nat.reduceLT, Nat.reduceLeDiff, true_and, and_true, and_self, decide_eq_true_eq, Nat.zero_lt_succ, Nat.lt_add_left_iff_pos, beq_self_eq_true, String.reduceBEq, String.reduceEq, Nat.le_refl, Nat.zero_le, Bool.true_eq_false, decide_true, decide_false, Int.reduceEq, Int.reduceLT, Int.reduceLE, Int.reduceSub, Int.reduceAdd, DL.wIfT, DL.wListRg, DL.eSortT, DL.eAddS, DL.eInS, DL.eLenS, DL.wSlS, DL.wI2, DL.evd_mx, DL.evd_mn, DL.evd_gcd, DL.wIStr, DL.wIEnumS, DL.eJnL, DL.eJnT, DL.wJoin, DL.eStrI, DL.eIntS, DL.strsD_map]
  refine ⟨_, g, rfl, w3, w2, w1, sg, ?_⟩
  simp -implicitDefEqProofs only [DL.WW, List.isEmpty_nil, List.map, List.length, List.length_cons, List.length_nil, List.length_set, List.replicate, List.append, List.cons_append, List.nil_append, List.append_nil, List.getElem?_cons_zero, List.getElem?_cons_succ, List.getElem?_nil, List.set_cons_zero, List.set_cons_succ, ↓reduceIte, Bool.false_eq_true, Bool.not_true, Bool.not_false, Bool.true_and, Bool.false_and, Bool.and_true, Bool.and_false, Bool.or_true, Bool.or_false, Bool.true_or, Bool.false_or, Nat.reduceAdd, Nat.reduceSub, Nat.reduceLT, Nat.reduceLeDiff, true_and, and_true, and_self, decide_eq_true_eq, Nat.zero_lt_succ, Nat.lt_add_left_iff_pos, beq_self_eq_true, String.reduceBEq, String.reduceEq, Nat.le_refl, Nat.zero_le, Bool.true_eq_false, decide_true, decide_false, Int.reduceEq, Int.reduceLT, Int.reduceLE, Int.reduceSub, Int.reduceAdd, DL.wIfT, DL.wListRg, DL.eSortT, DL.eAddS, DL.eInS, DL.eLenS, DL.wSlS, DL.wI2, DL.evd_mx, DL.evd_mn, DL.evd_gcd, DL.wIStr, DL.wIEnumS, DL.eJnL, DL.eJnT, DL.wJoin, DL.eStrI, DL.eIntS, DL.strsD_map, eqv_g, eqs]
  refine ⟨sg.sh, sg.sh, o, rfl, ho, fun tk gk o2 ho2 hk => ?_⟩
  have nk := name_ok hk.1
  have sk : Sm gk := ⟨by have := hk.2.1; omega, by have := hk.2.2; omega⟩
  have hwk : txt 50 gk = tk := by rw [txt, hk.1]
  have shk : SeqAt.shaped (.str (stC tk)) = true := by rw [shaped_str]; exact stC_ok nk.2
  simp -implicitDefEqProofs only [DL.WW, List.isEmpty_nil, List.map, List.length, List.length_cons, List.length_nil, List.length_set, List.replicate, List.append, List.cons_append, List.nil_append, List.append_nil, List.getElem?_cons_zero, List.getElem?_cons_succ, List.getElem?_nil, List.set_cons_zero, List.set_cons_succ, ↓reduceIte, Bool.false_eq_true, Bool.not_true, Bool.not_false, Bool.true_and, Bool.false_and, Bool.and_true, Bool.and_false, Bool.or_true, Bool.or_false, Bool.true_or, Bool.false_or, Nat.reduceAdd, Nat.reduceSub, Nat.reduceLT, Nat.reduceLeDiff, true_and, and_true, and_self, decide_eq_true_eq, Nat.zero_lt_succ, Nat.lt_add_left_iff_pos, beq_self_eq_true, String.reduceBEq, String.reduceEq, Nat.le_refl, Nat.zero_le, Bool.true_eq_false, decide_true, decide_false, Int.reduceEq, Int.reduceLT, Int.reduceLE, Int.reduceSub, Int.reduceAdd, DL.wIfT, DL.wListRg, DL.eSortT, DL.eAddS, DL.eInS, DL.eLenS, DL.wSlS, DL.wI2, DL.evd_mx, DL.evd_mn, DL.evd_gcd, DL.wIStr, DL.wIEnumS, DL.eJnL, DL.eJnT, DL.wJoin, DL.eStrI, DL.eIntS, DL.strsD_map]
  refine ⟨gk, rfl, sk, ?_⟩
  simp -implicitDefEqProofs only [DL.WW, List.isEmpty_nil, List.map, List.length, List.length_cons, List.length_nil, List.length_set, List.replicate, List.append, List.cons_append, List.nil_append, List.append_nil, List.getElem?_cons_zero, List.getElem?_cons_succ, List.getElem?_nil, List.set_cons_zero, List.set_cons_succ, ↓reduceIte, Bool.false_eq_true, Bool.not_true, Bool.not_false, Bool.true_and, Bool.false_and, Bool.and_true, Bool.and_false, Bool.or_true, Bool.or_false, Bool.true_or, Bool.false_or, Nat.reduceAdd, Nat.reduceSub, Nat.reduceLT, Nat.reduceLeDiff, true_and, and_true, and_self, decide_eq_true_eq, Nat.zero_lt_succ, Nat.lt_add_left_iff_pos, beq_self_eq_true, String.reduceBEq, String.reduceEq, Nat.le_refl, Nat.zero_le, Bool.true_eq_false, decide_true, decide_false, Int.reduceEq, Int.reduceLT, Int.reduceLE, Int.reduceSub, Int.reduceAdd, DL.wIfT, DL.wListRg, DL.eSortT, DL.eAddS, DL.eInS, DL.eLenS, DL.wSlS, DL.wI2, DL.evd_mx, DL.evd_mn, DL.evd_gcd, DL.wIStr, DL.wIEnumS, DL.eJnL, DL.eJnT, DL.wJoin, DL.eStrI, DL.eIntS, DL.strsD_map, hwk]
  have okk : PyData.strOk (stC tk) = true := stC_ok nk.2
  refine ⟨okk, okk, tk, gk, rfl, by have := nk.1; omega, nk.2, tx_name 16 hk.1, sk, ?_⟩
  simp -implicitDefEqProofs only [DL.WW, List.isEmpty_nil, List.map, List.length, List.length_cons, List.length_nil, List.length_set, List.replicate, List.append, List.cons_append, List.nil_append, List.append_nil, List.getElem?_cons_zero, List.getElem?_cons_succ, List.getElem?_nil, List.set_cons_zero, List.set_cons_succ, ↓reduceIte, Bool.false_eq_true, Bool.not_true, Bool.not_false, Bool.true_and, Bool.false_and, Bool.and_true, Bool.and_false, Bool.or_true, Bool.or_false, Bool.true_or, Bool.false_or, Nat.reduceAdd, Nat.reduceSub, Nat.reduceLT, Nat.reduceLeDiff, true_and, and_true, and_self, decide_eq_true_eq, Nat.zero_lt_succ, Nat.lt_add_left_iff_pos, beq_self_eq_true, String.reduceBEq, String.reduceEq, Nat.le_refl, Nat.zero_le, Bool.true_eq_false, decide_true, decide_false, Int.reduceEq, Int.reduceLT, Int.reduceLE, Int.reduceSub, Int.reduceAdd, DL.wIfT, DL.wListRg, DL.eSortT, DL.eAddS, DL.eInS, DL.eLenS, DL.wSlS, DL.wI2, DL.evd_mx, DL.evd_mn, DL.evd_gcd, DL.wIStr, DL.wIEnumS, DL.eJnL, DL.eJnT, DL.wJoin, DL.eStrI, DL.eIntS, DL.strsD_map, eqv_g, eqs]
  refine ⟨sk.sh, sk.sh, o2, rfl, ho2, fun y o3 ho3 hy1 hy2 => ?_⟩
  have sy : Sm y := ⟨by omega, by omega⟩
  obtain ⟨y1, y2, y3⟩ := wr y (by omega) (by omega)
  have oky : PyData.strOk (stC (txt 50 y)) = true := stC_ok y2
  simp -implicitDefEqProofs only [DL.WW, List.isEmpty_nil, List.map, List.length, List.length_cons, List.length_nil, List.length_set, List.replicate, List.append, List.cons_append, List.nil_append, List.append_nil, List.getElem?_cons_zero, List.getElem?_cons_succ, List.getElem?_nil, List.set_cons_zero, List.set_cons_succ, ↓reduceIte, Bool.false_eq_true, Bool.not_true, Bool.not_false, Bool.true_and, Bool.false_and, Bool.and_true, Bool.and_false, Bool.or_true, Bool.or_false, Bool.true_or, Bool.false_or, Nat.reduceAdd, Nat.reduceSub, Nat.reduceLT, Nat.reduceLeDiff, true_and, and_true, and_self, decide_eq_true_eq, Nat.zero_lt_succ, Nat.lt_add_left_iff_pos, beq_self_eq_true, String.reduceBEq, String.reduceEq, Nat.le_refl, Nat.zero_le, Bool.true_eq_false, decide_true, decide_false, Int.reduceEq, Int.reduceLT, Int.reduceLE, Int.reduceSub, Int.reduceAdd, DL.wIfT, DL.wListRg, DL.eSortT, DL.eAddS, DL.eInS, DL.eLenS, DL.wSlS, DL.wI2, DL.evd_mx, DL.evd_mn, DL.evd_gcd, DL.wIStr, DL.wIEnumS, DL.eJnL, DL.eJnT, DL.wJoin, DL.eStrI, DL.eIntS, DL.strsD_map]
  refine ⟨y, rfl, sy, ?_⟩
  simp -implicitDefEqProofs only [DL.WW, List.isEmpty_nil, List.map, List.length, List.length_cons, List.length_nil, List.length_set, List.replicate, List.append, List.cons_append, List.nil_append, List.append_nil, List.getElem?_cons_zero, List.getElem?_cons_succ, List.getElem?_nil, List.set_cons_zero, List.set_cons_succ, ↓reduceIte, Bool.false_eq_true, Bool.not_true, Bool.not_false, Bool.true_and, Bool.false_and, Bool.and_true, Bool.and_false, Bool.or_true, Bool.or_false, Bool.true_or, Bool.false_or, Nat.reduceAdd, Nat.reduceSub, Nat.reduceLT, Nat.reduceLeDiff, true_and, and_true, and_self, decide_eq_true_eq, Nat.zero_lt_succ, Nat.lt_add_left_iff_pos, beq_self_eq_true, String.reduceBEq, String.reduceEq, Nat.le_refl, Nat.zero_le, Bool.true_eq_false, decide_true, decide_false, Int.reduceEq, Int.reduceLT, Int.reduceLE, Int.reduceSub, Int.reduceAdd, DL.wIfT, DL.wListRg, DL.eSortT, DL.eAddS, DL.eInS, DL.eLenS, DL.wSlS, DL.wI2, DL.evd_mx, DL.evd_mn, DL.evd_gcd, DL.wIStr, DL.wIEnumS, DL.eJnL, DL.eJnT, DL.wJoin, DL.eStrI, DL.eIntS, DL.strsD_map]
  refine ⟨_, y, rfl, y3, y2, y1, sy, ?_⟩
  simp -implicitDefEqProofs only [DL.WW, List.isEmpty_nil, List.map, List.length, List.length_cons, List.length_nil, List.length_set, List.replicate, List.append, List.cons_append, List.nil_append, List.append_nil, List.getElem?_cons_zero, List.getElem?_cons_succ, List.getElem?_nil, List.set_cons_zero, List.set_cons_succ, ↓reduceIte, Bool.false_eq_true, Bool.not_true, Bool.not_false, Bool.true_and, Bool.false_and, Bool.and_true, Bool.and_false, Bool.or_true, Bool.or_false, Bool.true_or, Bool.false_or, Nat.reduceAdd, Nat.reduceSub, Nat.reduceLT, Nat.reduceLeDiff, true_and, and_true, and_self, decide_eq_true_eq, Nat.zero_lt_succ, Nat.lt_add_left_iff_pos, beq_self_eq_true, String.reduceBEq, String.reduceEq, Nat.le_refl, Nat.zero_le, Bool.true_eq_false, decide_true, decide_false, Int.reduceEq, Int.reduceLT, Int.reduceLE, Int.reduceSub, Int.reduceAdd, DL.wIfT, DL.wListRg, DL.eSortT, DL.eAddS, DL.eInS, DL.eLenS, DL.wSlS, DL.wI2, DL.evd_mx, DL.evd_mn, DL.evd_gcd, DL.wIStr, DL.wIEnumS, DL.eJnL, DL.eJnT, DL.wJoin, DL.eStrI, DL.eIntS, DL.strsD_map, eqv_g, eqs]
  refine ⟨sy.sh, sy.sh, ?_⟩
  refine ⟨y, rfl, sy, ?_⟩
  simp -implicitDefEqProofs only [DL.WW, List.isEmpty_nil, List.map, List.length, List.length_cons, List.length_nil, List.length_set, List.replicate, List.append, List.cons_append, List.nil_append, List.append_nil, List.getElem?_cons_zero, List.getElem?_cons_succ, List.getElem?_nil, List.set_cons_zero, List.set_cons_succ, ↓reduceIte, Bool.false_eq_true, Bool.not_true, Bool.not_false, Bool.true_and, Bool.false_and, Bool.and_true, Bool.and_false, Bool.or_true, Bool.or_false, Bool.true_or, Bool.false_or, Nat.reduceAdd, Nat.reduceSub, Nat.reduceLT, Nat.reduceLeDiff, true_and, and_true, and_self, decide_eq_true_eq, Nat.zero_lt_succ, Nat.lt_add_left_iff_pos, beq_self_eq_true, String.reduceBEq, String.reduceEq, Nat.le_refl, Nat.zero_le, Bool.true_eq_false, decide_true, decide_false, Int.reduceEq, Int.reduceLT, Int.reduceLE, Int.reduceSub, Int.reduceAdd, DL.wIfT, DL.wListRg, DL.eSortT, DL.eAddS, DL.eInS, DL.eLenS, DL.wSlS, DL.wI2, DL.evd_mx, DL.evd_mn, DL.evd_gcd, DL.wIStr, DL.wIEnumS, DL.eJnL, DL.eJnT, DL.wJoin, DL.eStrI, DL.eIntS, DL.strsD_map]
  refine ⟨_, y, rfl, y3, y2, y1, sy, ?_⟩
  simp -implicitDefEqProofs only [DL.WW, List.isEmpty_nil, List.map, List.length, List.length_cons, List.length_nil, List.length_set, List.replicate, List.append, List.cons_append, List.nil_append, List.append_nil, List.getElem?_cons_zero, List.getElem?_cons_succ, List.getElem?_nil, List.set_cons_zero, List.set_cons_succ, ↓reduceIte, Bool.false_eq_true, Bool.not_true, Bool.not_false, Bool.true_and, Bool.false_and, Bool.and_true, Bool.and_false, Bool.or_true, Bool.or_false, Bool.true_or, Bool.false_or, Nat.reduceAdd, Nat.reduceSub, Nat.reduceLT, Nat.reduceLeDiff, true_and, and_true, and_self, decide_eq_true_eq, Nat.zero_lt_succ, Nat.lt_add_left_iff_pos, beq_self_eq_true, String.reduceBEq, String.reduceEq, Nat.le_refl, Nat.zero_le, Bool.true_eq_false, decide_true, decide_false, Int.reduceEq, Int.reduceLT, Int.reduceLE, Int.reduceSub, Int.reduceAdd, DL.wIfT, DL.wListRg, DL.eSortT, DL.eAddS, DL.eInS, DL.eLenS, DL.wSlS, DL.wI2, DL.evd_mx, DL.evd_mn, DL.evd_gcd, DL.wIStr, DL.wIEnumS, DL.eJnL, DL.eJnT, DL.wJoin, DL.eStrI, DL.eIntS, DL.strsD_map]
  have eqt : ∀ l : List Nat, decide (stC l = stC l) = true := fun l => decide_eq_true rfl
  refine ⟨y, rfl, sy, ?_⟩
  simp -implicitDefEqProofs only [DL.WW, List.isEmpty_nil, List.map, List.length, List.length_cons, List.length_nil, List.length_set, List.replicate, List.append, List.cons_append, List.nil_append, List.append_nil, List.getElem?_cons_zero, List.getElem?_cons_succ, List.getElem?_nil, List.set_cons_zero, List.set_cons_succ, ↓reduceIte, Bool.false_eq_true, Bool.not_true, Bool.not_false, Bool.true_and, Bool.false_and, Bool.and_true, Bool.and_false, Bool.or_true, Bool.or_false, Bool.true_or, Bool.false_or, Nat.reduceAdd, Nat.reduceSub, Nat.reduceLT, Nat.reduceLeDiff, true_and, and_true, and_self, decide_eq_true_eq, Nat.zero_lt_succ, Nat.lt_add_left_iff_pos, beq_self_eq_true, String.reduceBEq, String.reduceEq, Nat.le_refl, Nat.zero_le, Bool.true_eq_false, decide_true, decide_false, Int.reduceEq, Int.reduceLT, Int.reduceLE, Int.reduceSub, Int.reduceAdd, DL.wIfT, DL.wListRg, DL.eSortT, DL.eAddS, DL.eInS, DL.eLenS, DL.wSlS, DL.wI2, DL.evd_mx, DL.evd_mn, DL.evd_gcd, DL.wIStr, DL.wIEnumS, DL.eJnL, DL.eJnT, DL.wJoin, DL.eStrI, DL.eIntS, DL.strsD_map]
  refine ⟨y, rfl, sy, ?_⟩
  simp -implicitDefEqProofs only [DL.WW, List.isEmpty_nil, List.map, List.length, List.length_cons, List.length_nil, List.length_set, List.replicate, List.append, List.cons_append, List.nil_append, List.append_nil, List.getElem?_cons_zero, List.getElem?_cons_succ, List.getElem?_nil, List.set_cons_zero, List.set_cons_succ, ↓reduceIte, Bool.false_eq_true, Bool.not_true, Bool.not_false, Bool.true_and, Bool.false_and, Bool.and_true, Bool.and_false, Bool.or_true, Bool.or_false, Bool.true_or, Bool.false_or, Nat.reduceAdd, Nat.reduceSub, Nat.reduceLT, Nat.reduceLeDiff, true_and, and_true, and_self, decide_eq_true_eq, Nat.zero_lt_succ, Nat.lt_add_left_iff_pos, beq_self_eq_true, String.reduceBEq, String.reduceEq, Nat.le_refl, Nat.zero_le, Bool.true_eq_false, decide_true, decide_false, Int.reduceEq, Int.reduceLT, Int.reduceLE, Int.reduceSub, Int.reduceAdd, DL.wIfT, DL.wListRg, DL.eSortT, DL.eAddS, DL.eInS, DL.eLenS, DL.wSlS, DL.wI2, DL.evd_mx, DL.evd_mn, DL.evd_gcd, DL.wIStr, DL.wIEnumS, DL.eJnL, DL.eJnT, DL.wJoin, DL.eStrI, DL.eIntS, DL.strsD_map, oky]
  refine ⟨y, rfl, sy, ?_⟩
  have c1 : Str.ofString "," = stC [44] := by decide +kernel
  have c2 : Str.ofString "{" = stC [123] := by decide +kernel
  have c3 : Str.ofString "|" = stC [124] := by decide +kernel
  have c4 : Str.ofString "}" = stC [125] := by decide +kernel
  have ly : (txt 50 y).length ≤ 2000 := by have := txt_len 50 y; omega
  have lk : tk.length ≤ 8 := nk.1
  have sz : ∀ n : Nat, n ≤ 10000 → n ≤ sizeLine := fun n h => Nat.le_trans h (by decide)
  have szl : ∀ a b : List Nat, a.length + b.length ≤ 10000 → (stC a).length + (stC b).length ≤ sizeLine := fun a b h => by rw [stC_len, stC_len]; exact sz _ h
  simp -implicitDefEqProofs only [DL.WW, List.isEmpty_nil, List.map, List.length, List.length_cons, List.length_nil, List.length_set, List.replicate, List.append, List.cons_append, List.nil_append, List.append_nil, List.getElem?_cons_zero, List.getElem?_cons_succ, List.getElem?_nil, List.set_cons_zero, List.set_cons_succ, ↓reduceIte, Bool.false_eq_true, Bool.not_true, Bool.not_false, Bool.true_and, Bool.false_and, Bool.and_true, Bool.and_false, Bool.or_true, Bool.or_false, Bool.true_or, Bool.false_or, Nat.reduceAdd, Nat.reduceSub, Nat.reduceLT, Nat.reduceLeDiff, true_and, and_true, and_self, decide_eq_true_eq, Nat.zero_lt_succ, Nat.lt_add_left_iff_pos, beq_self_eq_true, String.reduceBEq, String.reduceEq, Nat.le_refl, Nat.zero_le, Bool.true_eq_false, decide_true, decide_false, Int.reduceEq, Int.reduceLT, Int.reduceLE, Int.reduceSub, Int.reduceAdd, DL.wIfT, DL.wListRg, DL.eSortT, DL.eAddS, DL.eInS, DL.eLenS, DL.wSlS, DL.wI2, DL.evd_mx, DL.evd_mn, DL.evd_gcd, DL.wIStr, DL.wIEnumS, DL.eJnL, DL.eJnT, DL.wJoin, DL.eStrI, DL.eIntS, DL.strsD_map, c1, c2, c3, c4, stC_app]
  refine ⟨szl _ _ (by simp; omega), szl _ _ (by simp; omega), szl _ _ (by simp; omega), szl _ _ (by simp; omega), y, rfl, sy, ?_⟩
  simp -implicitDefEqProofs only [DL.WW, List.isEmpty_nil, List.map, List.length, List.length_cons, List.length_nil, List.length_set, List.replicate, List.append, List.cons_append, List.nil_append, List.append_nil, List.getElem?_cons_zero, List.getElem?_cons_succ, List.getElem?_nil, List.set_cons_zero, List.set_cons_succ, ↓reduceIte, Bool.false_eq_true, Bool.not_true, Bool.not_false, Bool.true_and, Bool.false_and, Bool.and_true, Bool.and_false, Bool.or_true, Bool.or_false, Bool.true_or, Bool.false_or, Nat.reduceAdd, Nat.reduceSub, Nat.reduceLT, Nat.reduceLeDiff, true_and, and_true, and_self, decide_eq_true_eq, Nat.zero_lt_succ, Nat.lt_add_left_iff_pos, beq_self_eq_true, String.reduceBEq, String.reduceEq, Nat.le_refl, Nat.zero_le, Bool.true_eq_false, decide_true, decide_false, Int.reduceEq, Int.reduceLT, Int.reduceLE, Int.reduceSub, Int.reduceAdd, DL.wIfT, DL.wListRg, DL.eSortT, DL.eAddS, DL.eInS, DL.eLenS, DL.wSlS, DL.wI2, DL.evd_mx, DL.evd_mn, DL.evd_gcd, DL.wIStr, DL.wIEnumS, DL.eJnL, DL.eJnT, DL.wJoin, DL.eStrI, DL.eIntS, DL.strsD_map, stC_app]
  refine ⟨szl _ _ (by simp; omega), szl _ _ (by simp; omega), szl _ _ (by simp; omega), szl _ _ (by simp; omega), ?_⟩
  have hpl : PyData.tuple [PyData.tuple [gD y, gD gk, gD y], PyData.tuple [gD gk]] = gD (.mk [y, gk, y] [gk]) := by rw [gD_mk]; rfl
  have sp : Sm (.mk [y, gk, y] [gk]) := by
    have k1 := hk.2.1
    have k2 := hk.2.2
    unfold Sm
    rw [ht, nd]
    simp only [htL, ndL]
    omega
  have e49y : txt 49 y = txt 50 y := txt_eq 49 50 y (by omega) (by omega)
  have e49k : txt 49 gk = tk := by rw [← hwk]; exact txt_eq 49 50 gk (by have := hk.2.1; omega) (by have := hk.2.1; omega)
  have etx : txt 50 (.mk [y, gk, y] [gk]) = 123 :: (txt 50 y ++ [44] ++ tk ++ [44] ++ txt 50 y ++ [124] ++ tk ++ [125]) := by
    rw [txt, three_none]
    show 123 :: (txt 49 y ++ 44 :: (txt 49 gk ++ 44 :: txt 49 y)) ++ 124 :: txt 49 gk ++ [125] = _
    rw [e49y, e49k]
    simp
  rw [hpl]
  refine ⟨_, rfl, sp, ?_⟩
  rw [etx]
  have okp : PyData.strOk (stC (123 :: (txt 50 y ++ [44] ++ tk ++ [44] ++ txt 50 y ++ [124] ++ tk ++ [125]))) = true := by rw [← etx]; exact stC_ok (txt_cd 50 _)
  simp -implicitDefEqProofs only [DL.WW, List.isEmpty_nil, List.map, List.length, List.length_cons, List.length_nil, List.length_set, List.replicate, List.append, List.cons_append, List.nil_append, List.append_nil, List.getElem?_cons_zero, List.getElem?_cons_succ, List.getElem?_nil, List.set_cons_zero, List.set_cons_succ, ↓reduceIte, Bool.false_eq_true, Bool.not_true, Bool.not_false, Bool.true_and, Bool.false_and, Bool.and_true, Bool.and_false, Bool.or_true, Bool.or_false, Bool.true_or, Bool.false_or, Nat.reduceAdd, Nat.reduceSub, Nat.reduceLT, Nat.reduceLeDiff, true_and, and_true, and_self, decide_eq_true_eq, Nat.zero_lt_succ, Nat.lt_add_left_iff_pos, beq_self_eq_true, String.reduceBEq, String.reduceEq, Nat.le_refl, Nat.zero_le, Bool.true_eq_false, decide_true, decide_false, Int.reduceEq, Int.reduceLT, Int.reduceLE, Int.reduceSub, Int.reduceAdd, DL.wIfT, DL.wListRg, DL.eSortT, DL.eAddS, DL.eInS, DL.eLenS, DL.wSlS, DL.wI2, DL.evd_mx, DL.evd_mn, DL.evd_gcd, DL.wIStr, DL.wIEnumS, DL.eJnL, DL.eJnT, DL.wJoin, DL.eStrI, DL.eIntS, DL.strsD_map, okp]
  have z1 : Str.ofString "{|}" = stC [123, 124, 125] := by decide +kernel
  have z2 : Str.ofString "{0|0}" = stC [123, 48, 124, 48, 125] := by decide +kernel
  have zt : Tx 16 [48] z := (tx_name 16 (g := z) (t := [48]) (by decide +kernel))
  have zt15 : Tx 15 [48] z := (tx_name 15 (g := z) (t := [48]) (by decide +kernel))
  have tz : Tx 16 [123, 124, 125] z := .br 15 [] [] [] [] rfl rfl (fun i t g h => by simp at h) (fun i t g h => by simp at h)
  have ez : ∀ (i : Nat) (t : List Nat) (g : G), ([[48]] : List (List Nat))[i]? = some t → [z][i]? = some g → Tx 15 t g := fun i t g h h' => by
    cases i with
    | zero => cases h; cases h'; exact zt15
    | succ i => simp at h
  have ts : Tx 16 [123, 48, 124, 48, 125] star := .br 15 [[48]] [[48]] [z] [z] rfl rfl ez ez
  simp only [dZ, z1, z2]
  refine ⟨_, z, rfl, by decide, by unfold CdOk; decide, tz, sm_z, ?_⟩
  simp -implicitDefEqProofs only [DL.WW, List.isEmpty_nil, List.map, List.length, List.length_cons, List.length_nil, List.length_set, List.replicate, List.append, List.cons_append, List.nil_append, List.append_nil, List.getElem?_cons_zero, List.getElem?_cons_succ, List.getElem?_nil, List.set_cons_zero, List.set_cons_succ, ↓reduceIte, Bool.false_eq_true, Bool.not_true, Bool.not_false, Bool.true_and, Bool.false_and, Bool.and_true, Bool.and_false, Bool.or_true, Bool.or_false, Bool.true_or, Bool.false_or, Nat.reduceAdd, Nat.reduceSub, Nat.reduceLT, Nat.reduceLeDiff, true_and, and_true, and_self, decide_eq_true_eq, Nat.zero_lt_succ, Nat.lt_add_left_iff_pos, beq_self_eq_true, String.reduceBEq, String.reduceEq, Nat.le_refl, Nat.zero_le, Bool.true_eq_false, decide_true, decide_false, Int.reduceEq, Int.reduceLT, Int.reduceLE, Int.reduceSub, Int.reduceAdd, DL.wIfT, DL.wListRg, DL.eSortT, DL.eAddS, DL.eInS, DL.eLenS, DL.wSlS, DL.wI2, DL.evd_mx, DL.evd_mn, DL.evd_gcd, DL.wIStr, DL.wIEnumS, DL.eJnL, DL.eJnT, DL.wJoin, DL.eStrI, DL.eIntS, DL.strsD_map, dZ, eqv_g, eqs]
  refine ⟨sm_z.sh, sm_z.sh, _, star, rfl, by decide, by unfold CdOk; decide, ts, sm_star, ?_⟩
  simp -implicitDefEqProofs only [DL.WW, List.isEmpty_nil, List.map, List.length, List.length_cons, List.length_nil, List.length_set, List.replicate, List.append, List.cons_append, List.nil_append, List.append_nil, List.getElem?_cons_zero, List.getElem?_cons_succ, List.getElem?_nil, List.set_cons_zero, List.set_cons_succ, ↓reduceIte, Bool.false_eq_true, Bool.not_true, Bool.not_false, Bool.true_and, Bool.false_and, Bool.and_true, Bool.and_false, Bool.or_true, Bool.or_false, Bool.true_or, Bool.false_or, Nat.reduceAdd, Nat.reduceSub, Nat.reduceLT, Nat.reduceLeDiff, true_and, and_true, and_self, decide_eq_true_eq, Nat.zero_lt_succ, Nat.lt_add_left_iff_pos, beq_self_eq_true, String.reduceBEq, String.reduceEq, Nat.le_refl, Nat.zero_le, Bool.true_eq_false, decide_true, decide_false, Int.reduceEq, Int.reduceLT, Int.reduceLE, Int.reduceSub, Int.reduceAdd, DL.wIfT, DL.wListRg, DL.eSortT, DL.eAddS, DL.eInS, DL.eLenS, DL.wSlS, DL.wI2, DL.evd_mx, DL.evd_mn, DL.evd_gcd, DL.wIStr, DL.wIEnumS, DL.eJnL, DL.eJnT, DL.wJoin, DL.eStrI, DL.eIntS, DL.strsD_map]
  refine ⟨rfl, ?_⟩
  subst hgs
  simp -implicitDefEqProofs only [DL.WW, List.isEmpty_nil, List.map, List.length, List.length_cons, List.length_nil, List.length_set, List.replicate, List.append, List.cons_append, List.nil_append, List.append_nil, List.getElem?_cons_zero, List.getElem?_cons_succ, List.getElem?_nil, List.set_cons_zero, List.set_cons_succ, ↓reduceIte, Bool.false_eq_true, Bool.not_true, Bool.not_false, Bool.true_and, Bool.false_and, Bool.and_true, Bool.and_false, Bool.or_true, Bool.or_false, Bool.true_or, Bool.false_or, Nat.reduceAdd, Nat.reduceSub, Nat.reduceLT, Nat.reduceLeDiff, true_and, and_true, and_self, decide_eq_true_eq, Nat.zero_lt_succ, Nat.lt_add_left_iff_pos, beq_self_eq_true, String.reduceBEq, String.reduceEq, Nat.le_refl, Nat.zero_le, Bool.true_eq_false, decide_true, decide_false, Int.reduceEq, Int.reduceLT, Int.reduceLE, Int.reduceSub, Int.reduceAdd, DL.wIfT, DL.wListRg, DL.eSortT, DL.eAddS, DL.eInS, DL.eLenS, DL.wSlS, DL.wI2, DL.evd_mx, DL.evd_mn, DL.evd_gcd, DL.wIStr, DL.wIEnumS, DL.eJnL, DL.eJnT, DL.wJoin, DL.eStrI, DL.eIntS, DL.strsD_map, eqv_g, eqs]
  exact ⟨sm_star.sh, sm_star.sh, q⟩
theorem ok_number {k : Nat} (T : Txt K mg) (G_integer_form : FnOk P w K mg base CX0 k T.a_integer_form T.d_integer_form ["number"] (spD K F_integer_form)) : ∀ f, FnOk P w K mg base CX0 (k + 1 + f) T.a_number_form T.d_number_form ["top", "bottom"] (spD K (F_numf f))
  | 0 => ok_number_form (Fi := fun _ _ => False) (fun m h => by omega) T G_integer_form (ok_none fun _ _ h => h)
  | f + 1 => ok_number_form (Fi := F_numf f) (fun m h => by rw [Nat.succ.inj h]) T (G_integer_form.mono (by show k ≤ k + 1 + f; omega)) (ok_number T G_integer_form f)
theorem ok_frac {k : Nat} (T : Txt K mg) (G_integer_of : FnOk P w K mg base CX0 k T.a_integer_of T.d_integer_of ["game"] (spD K F_integer_of)) (G_number_form : FnOk P w K mg base CX0 k T.a_number_form T.d_number_form ["top", "bottom"] (spD K F_number_form)) : ∀ f, FnOk P w K mg base CX0 (k + f) T.a_fraction_of T.d_fraction_of ["game"] (spD K (F_frac f))
  | 0 => ok_none fun args P h => by obtain ⟨g, _, _, h, _⟩ := h; omega
  | f + 1 => ok_fraction_of T (G_integer_of := G_integer_of.mono (by show k ≤ k + f; omega)) (G_fraction_of := ok_frac T G_integer_of G_number_form f) (G_number_form := G_number_form.mono (by show k ≤ k + f; omega))
theorem ok_txt {k : Nat} (T : Txt K mg) (G_named : FnOk P w K mg base CX0 k T.a_named T.d_named ["game"] (spD K F_named)) : ∀ f, FnOk P w K mg base CX0 (k + f) T.a_text_of T.d_text_of ["game"] (spD K (F_txt f))
  | 0 => ok_none fun args P h => by obtain ⟨g, _, _, h, _⟩ := h; omega
  | f + 1 => ok_text_of T (G_named := G_named.mono (by show k ≤ k + f; omega)) (G_text_of := ok_txt T G_named f)
theorem ok_lgame {k : Nat} (T : Txt K mg) (t1 : FnOk P w K mg base CX0 k T.a_law_taken T.d_law_taken ["_law_row", "_law_many"] (spD K F_law_taken)) (t2 : FnOk P w K mg base CX0 k T.a_law_named T.d_law_named ["_law_row"] (spD K F_law_named)) (t3 : FnOk P w K mg base CX0 k T.a_law_zero T.d_law_zero [] (spD K F_law_zero)) : ∀ f, FnOk P w K mg base CX0 (k + 1 + f) T.a_law_game T.d_law_game ["_law_row", "_law_deep"] (spD K (F_lg f))
  | 0 => ok_law_game (Fi := fun _ _ => False) (fun m h => by omega) T (G_law_taken := t1) (G_law_named := t2) (G_law_zero := t3) (G_law_game := ok_none fun _ _ h => h)
  | f + 1 => ok_law_game (Fi := F_lg f) (fun m h => by rw [Nat.succ.inj h]) T (G_law_taken := t1.mono (by show k ≤ k + 1 + f; omega)) (G_law_named := t2.mono (by show k ≤ k + 1 + f; omega)) (G_law_zero := t3.mono (by show k ≤ k + 1 + f; omega)) (G_law_game := ok_lgame T t1 t2 t3 f)
theorem ok_ltold {k : Nat} (T : Txt K mg) (t1 : FnOk P w K mg base CX0 k T.a_law_taken T.d_law_taken ["_law_row", "_law_many"] (spD K F_law_taken)) (t2 : FnOk P w K mg base CX0 k T.a_law_name T.d_law_name ["_law_row"] (spD K F_law_name)) : ∀ f, FnOk P w K mg base CX0 (k + 1 + f) T.a_law_told T.d_law_told ["_law_row", "_law_deep"] (spD K (F_lto f))
  | 0 => ok_law_told (Fi := fun _ _ => False) (fun m h => by omega) T (G_law_taken := t1) (G_law_name := t2) (G_law_told := ok_none fun _ _ h => h)
  | f + 1 => ok_law_told (Fi := F_lto f) (fun m h => by rw [Nat.succ.inj h]) T (G_law_taken := t1.mono (by show k ≤ k + 1 + f; omega)) (G_law_name := t2.mono (by show k ≤ k + 1 + f; omega)) (G_law_told := ok_ltold T t1 t2 f)
theorem law_end {P : Program} {w : World} {K : PySem.W.Frag} {mg : Str → Option Value} {fa : Addr} (N : Nonempty (Txt K mg)) (hfa : mg "law" = some (.ref fa)) :
    ∃ fd : FuncData, (∀ (s : Shared) (v : Value), BindsTo s fd ⟨[v], []⟩ [("_law_script", v)]) ∧ ∀ base : Heap, K.In base → base.Ns mainGlobals mg → FnOk P w K mg base CX0 130 fa fd ["_law_script"] (spLaw K) := by
  obtain ⟨T⟩ := N
  have e := hfa.symm.trans T.g_law
  cases e
  refine ⟨T.d_law, T.B_law, fun base _ _ => ?_⟩
  have t1 : FnOk P w K mg base CX0 1 T.a_law_taken T.d_law_taken ["_law_row", "_law_many"] (spD K F_law_taken) := ok_law_taken T
  have t2 := ok_law_pick T t1
  have t3 : FnOk P w K mg base CX0 1 T.a_law_zero T.d_law_zero [] (spD K F_law_zero) := ok_law_zero T
  have t4 : FnOk P w K mg base CX0 1 T.a_law_star T.d_law_star [] (spD K F_law_star) := ok_law_star T
  have t5 : FnOk P w K mg base CX0 1 T.a_law_whole T.d_law_whole ["_law_number_here"] (spD K F_law_whole) := ok_law_whole T
  have t6 : FnOk P w K mg base CX0 1 T.a_law_nimber T.d_law_nimber ["_law_size"] (spD K F_law_nimber) := ok_law_nimber T
  have t7 : FnOk P w K mg base CX0 (1 + 1 + 6) T.a_law_number T.d_law_number ["_law_top", "_law_bottom"] (spD K F_law_number) := ok_lnumber T t5 6
  have t8 : FnOk P w K mg base CX0 (1 + 5) T.a_law_back T.d_law_back ["_law_game_here"] (spD K F_law_back) := ok_back T 5
  have t9 : FnOk P w K mg base CX0 (1 + 28) T.a_law_nodes T.d_law_nodes ["_law_game_here"] (spD K F_law_nodes) := ok_nodes T 28
  have t10 := ok_law_named (k := 8) T (G_law_taken := t1.mono (by decide)) (G_law_number := t7.mono (by decide)) (G_law_star := t4.mono (by decide)) (G_law_nimber := t6.mono (by decide)) (G_law_pick := t2.mono (by decide)) (G_law_zero := t3.mono (by decide)) (G_law_back := t8.mono (by decide)) (G_law_whole := t5.mono (by decide))
  have t11 : FnOk P w K mg base CX0 (9 + 1 + 3) T.a_law_game T.d_law_game ["_law_row", "_law_deep"] (spD K F_law_game) := ok_lgame T (t1.mono (by decide)) (t10.mono (by decide)) (t3.mono (by decide)) 3
  have t12 := ok_law_some (k := 29) T (G_law_game := t11.mono (by decide)) (G_law_named := t10.mono (by decide)) (G_law_nodes := t9.mono (by decide))
  have t13 := ok_law_name (k := 8) T (G_law_taken := t1.mono (by decide)) (G_law_pick := t2.mono (by decide)) (G_law_zero := t3.mono (by decide)) (G_law_star := t4.mono (by decide)) (G_law_whole := t5.mono (by decide)) (G_law_number := t7.mono (by decide)) (G_law_nimber := t6.mono (by decide))
  have t14 : FnOk P w K mg base CX0 (9 + 1 + 2) T.a_law_told T.d_law_told ["_law_row", "_law_deep"] (spD K F_law_told) := ok_ltold T (t1.mono (by decide)) (t13.mono (by decide)) 2
  have i1 : FnOk P w K mg base CX0 1 T.a_integer_form T.d_integer_form ["number"] (spD K F_integer_form) := ok_integer_form T
  have i2 : FnOk P w K mg base CX0 (1 + 1 + 6) T.a_number_form T.d_number_form ["top", "bottom"] (spD K F_number_form) := ok_number T i1 6
  have i3 : FnOk P w K mg base CX0 1 T.a_nimber_form T.d_nimber_form ["size"] (spD K F_nimber_form) := ok_nimber_form T
  have i4 : FnOk P w K mg base CX0 1 T.a_integer_of T.d_integer_of ["game"] (spD K F_integer_of) := ok_integer_of T
  have i5 : FnOk P w K mg base CX0 (8 + 50) T.a_fraction_of T.d_fraction_of ["game"] (spD K F_fraction_of) := ok_frac T (i4.mono (by decide)) (i2.mono (by decide)) 50
  have i6 := ok_fraction_name T i5
  have i7 := ok_named (k := 59) T (G_integer_of := i4.mono (by decide)) (G_fraction_name := i6.mono (by decide)) (G_nimber_form := i3.mono (by decide))
  have i8 : FnOk P w K mg base CX0 (60 + 50) T.a_text_of T.d_text_of ["game"] (spD K F_text_of) := ok_txt T i7 50
  have j1 : FnOk P w K mg base CX0 1 T.a_is_game T.d_is_game ["value"] (spD K F_is_game) := ok_is_game T
  have j2 := ok_need_game T j1
  have i9 := ok_write (k := 110) T (G_need_game := j2.mono (by decide)) (G_text_of := i8.mono (by decide))
  have d1 : FnOk P w K mg base CX0 1 T.a_digits_from T.d_digits_from ["text", "at"] (spD K F_digits_from) := ok_digits_from T
  have d2 := ok_read_whole T d1
  have d3 := ok_read_number (k := 8) T (G_read_whole := d2.mono (by decide)) (G_number_form := i2.mono (by decide))
  have d4 := ok_read_star (k := 1) T (G_digits_from := d1) (G_nimber_form := i3)
  have d5 : FnOk P w K mg base CX0 1 T.a_too_deep T.d_too_deep ["text"] (spD K F_too_deep) := ok_too_deep T
  have d6 : FnOk P w K mg base CX0 (9 + 1 + 2 * 16) T.a_read_from T.d_read_from ["text", "at"] (spD K F_read_from) := ok_reads T (d3.mono (by decide)) (d4.mono (by decide)) 16
  have d7 := ok_read (k := 42) T (G_too_deep := d5.mono (by decide)) (G_read_from := d6.mono (by decide)) (G_is_game := j1.mono (by decide))
  exact (ok_law (k := 129) T (G_law_told := t14.mono (by decide)) (G_write := i9.mono (by decide)) (G_law_name := t13.mono (by decide)) (G_law_some := t12.mono (by decide)) (G_law_nodes := t9.mono (by decide)) (G_read := d7.mono (by decide)) (G_law_star := t4.mono (by decide))).imp law_imp
end
end K06D
abbrev K06D.spLaw := DL.spLaw
open PySem PySem.W PyProof.Rows
set_option maxRecDepth 100000 in
set_option maxHeartbeats 0 in
theorem PySem.Challenge.cw_thermogames_k06_whole_texts_holds : PySem.Challenge.rw_thermogames_k06_whole_texts.Holds := by
  w_on; o_law; k_head; (case hw => w_witness2)
  k_fill
  refine L2.walk_of (l := PySem.Challenge.rw_thermogames_k06_whole_texts) (n := 63) (k := 130) (x := "_law_script") (CX := fun _ => L2.CX0) (sp := fun w => K06D.spLaw _) rfl (by decide) rfl ⟨rfl, by decide, by decide⟩ (fun w h Y => PySem.W.kIn_of Y) ?F (fun _ _ a ns hl _ hS => ⟨a, ns, rfl, hS, hl, fun _ => rfl⟩) (fun _ _ _ _ _ h => h)
  case F =>
    intro w mg fa h KX G hmg
    refine' K06D.law_end (K06.txt_mk KX G ?a0 ?l0 ?c0 ?k0 ?a1 ?l1 ?c1 ?k1 ?a2 ?l2 ?c2 ?k2 ?a3 ?l3 ?c3 ?k3 ?a4 ?l4 ?c4 ?k4 ?a5 ?l5 ?c5 ?k5 ?a6 ?l6 ?c6 ?k6 ?a7 ?l7 ?c7 ?k7 ?a8 ?l8 ?c8 ?k8 ?a9 ?l9 ?c9 ?k9 ?a10 ?l10 ?c10 ?k10 ?a11 ?l11 ?c11 ?k11 ?a12 ?l12 ?c12 ?k12 ?a13 ?l13 ?c13 ?k13 ?a14 ?l14 ?c14 ?k14 ?a15 ?l15 ?c15 ?k15 ?a16 ?l16 ?c16 ?k16 ?a17 ?l17 ?c17 ?k17 ?a18 ?l18 ?c18 ?k18 ?a19 ?l19 ?c19 ?k19 ?a20 ?l20 ?c20 ?k20 ?a21 ?l21 ?c21 ?k21 ?a22 ?l22 ?c22 ?k22 ?a23 ?l23 ?c23 ?k23 ?a24 ?l24 ?c24 ?k24 ?a25 ?l25 ?c25 ?k25 ?a26 ?l26 ?c26 ?k26 ?a27 ?l27 ?c27 ?k27 ?a28 ?l28 ?c28 ?k28 ?a29 ?l29 ?c29 ?k29 ?a30 ?l30 ?c30 ?k30 ?a31 ?l31 ?c31 ?k31 ?a32 ?l32 ?c32 ?k32 ?a33 ?l33 ?c33 ?k33 ?v0 ?v1 ?v2 ?v3 ?v4 ?v5 ?w_ZERO ?qt1 ?qt3 ?qt2 ?w_STAR ?qt4 ?qt9 ?qt10 ?qt12 ?qt11 ?qt5 ?qt6 ?qt8 ?qt7 ?w_UP ?qt13 ?qt18 ?qt19 ?qt24 ?qt25 ?qt27 ?qt26 ?qt20 ?qt21 ?qt23 ?qt22 ?qt14 ?qt15 ?qt17 ?qt16 ?w_DOWN ?qt28 ?qt39 ?qt40 ?qt42 ?qt41 ?qt29 ?qt30 ?qt35 ?qt36 ?qt38 ?qt37 ?qt31 ?qt32 ?qt34 ?qt33 ?w_UP_STAR ?qt43 ?qt57 ?qt58 ?qt60 ?qt59 ?qt44 ?qt48 ?qt53 ?qt54 ?qt56 ?qt55 ?qt49 ?qt50 ?qt52 ?qt51 ?qt45 ?qt47 ?qt46 ?w_DOWN_STAR ?qt61 ?qt66 ?qt70 ?qt75 ?qt76 ?qt78 ?qt77 ?qt71 ?qt72 ?qt74 ?qt73 ?qt67 ?qt69 ?qt68 ?qt62 ?qt63 ?qt65 ?qt64 ?z0 ?z1 ?z2 ?z3 ?z4 ?z5 ?z6 ?z7 ?z8 ?z9) hmg
    case a0 => k_is
    case l0 => k_is
    case c0 => k_is
    case k0 => k_is
    case a1 => k_is
    case l1 => k_is
    case c1 => k_is
    case k1 => k_is
    case a2 => k_is
    case l2 => k_is
    case c2 => k_is
    case k2 => k_is
    case a3 => k_is
    case l3 => k_is
    case c3 => k_is
    case k3 => k_is
    case a4 => k_is
    case l4 => k_is
    case c4 => k_is
    case k4 => k_is
    case a5 => k_is
    case l5 => k_is
    case c5 => k_is
    case k5 => k_is
    case a6 => k_is
    case l6 => k_is
    case c6 => k_is
    case k6 => k_is
    case a7 => k_is
    case l7 => k_is
    case c7 => k_is
    case k7 => k_is
    case a8 => k_is
    case l8 => k_is
    case c8 => k_is
    case k8 => k_is
    case a9 => k_is
    case l9 => k_is
    case c9 => k_is
    case k9 => k_is
    case a10 => k_is
    case l10 => k_is
    case c10 => k_is
    case k10 => k_is
    case a11 => k_is
    case l11 => k_is
    case c11 => k_is
    case k11 => k_is
    case a12 => k_is
    case l12 => k_is
    case c12 => k_is
    case k12 => k_is
    case a13 => k_is
    case l13 => k_is
    case c13 => k_is
    case k13 => k_is
    case a14 => k_is
    case l14 => k_is
    case c14 => k_is
    case k14 => k_is
    case a15 => k_is
    case l15 => k_is
    case c15 => k_is
    case k15 => k_is
    case a16 => k_is
    case l16 => k_is
    case c16 => k_is
    case k16 => k_is
    case a17 => k_is
    case l17 => k_is
    case c17 => k_is
    case k17 => k_is
    case a18 => k_is
    case l18 => k_is
    case c18 => k_is
    case k18 => k_is
    case a19 => k_is
    case l19 => k_is
    case c19 => k_is
    case k19 => k_is
    case a20 => k_is
    case l20 => k_is
    case c20 => k_is
    case k20 => k_is
    case a21 => k_is
    case l21 => k_is
    case c21 => k_is
    case k21 => k_is
    case a22 => k_is
    case l22 => k_is
    case c22 => k_is
    case k22 => k_is
    case a23 => k_is
    case l23 => k_is
    case c23 => k_is
    case k23 => k_is
    case a24 => k_is
    case l24 => k_is
    case c24 => k_is
    case k24 => k_is
    case a25 => k_is
    case l25 => k_is
    case c25 => k_is
    case k25 => k_is
    case a26 => k_is
    case l26 => k_is
    case c26 => k_is
    case k26 => k_is
    case a27 => k_is
    case l27 => k_is
    case c27 => k_is
    case k27 => k_is
    case a28 => k_is
    case l28 => k_is
    case c28 => k_is
    case k28 => k_is
    case a29 => k_is
    case l29 => k_is
    case c29 => k_is
    case k29 => k_is
    case a30 => k_is
    case l30 => k_is
    case c30 => k_is
    case k30 => k_is
    case a31 => k_is
    case l31 => k_is
    case c31 => k_is
    case k31 => k_is
    case a32 => k_is
    case l32 => k_is
    case c32 => k_is
    case k32 => k_is
    case a33 => k_is
    case l33 => k_is
    case c33 => k_is
    case k33 => k_is
    case v0 => k_is
    case v1 => k_is
    case v2 => k_is
    case v3 => k_is
    case v4 => k_is
    case v5 => k_is
    case w_ZERO => k_is
    case qt1 => k_is
    case qt3 => k_is
    case qt2 => k_is
    case w_STAR => k_is
    case qt4 => k_is
    case qt9 => k_is
    case qt10 => k_is
    case qt12 => k_is
    case qt11 => k_is
    case qt5 => k_is
    case qt6 => k_is
    case qt8 => k_is
    case qt7 => k_is
    case w_UP => k_is
    case qt13 => k_is
    case qt18 => k_is
    case qt19 => k_is
    case qt24 => k_is
    case qt25 => k_is
    case qt27 => k_is
    case qt26 => k_is
    case qt20 => k_is
    case qt21 => k_is
    case qt23 => k_is
    case qt22 => k_is
    case qt14 => k_is
    case qt15 => k_is
    case qt17 => k_is
    case qt16 => k_is
    case w_DOWN => k_is
    case qt28 => k_is
    case qt39 => k_is
    case qt40 => k_is
    case qt42 => k_is
    case qt41 => k_is
    case qt29 => k_is
    case qt30 => k_is
    case qt35 => k_is
    case qt36 => k_is
    case qt38 => k_is
    case qt37 => k_is
    case qt31 => k_is
    case qt32 => k_is
    case qt34 => k_is
    case qt33 => k_is
    case w_UP_STAR => k_is
    case qt43 => k_is
    case qt57 => k_is
    case qt58 => k_is
    case qt60 => k_is
    case qt59 => k_is
    case qt44 => k_is
    case qt48 => k_is
    case qt53 => k_is
    case qt54 => k_is
    case qt56 => k_is
    case qt55 => k_is
    case qt49 => k_is
    case qt50 => k_is
    case qt52 => k_is
    case qt51 => k_is
    case qt45 => k_is
    case qt47 => k_is
    case qt46 => k_is
    case w_DOWN_STAR => k_is
    case qt61 => k_is
    case qt66 => k_is
    case qt70 => k_is
    case qt75 => k_is
    case qt76 => k_is
    case qt78 => k_is
    case qt77 => k_is
    case qt71 => k_is
    case qt72 => k_is
    case qt74 => k_is
    case qt73 => k_is
    case qt67 => k_is
    case qt69 => k_is
    case qt68 => k_is
    case qt62 => k_is
    case qt63 => k_is
    case qt65 => k_is
    case qt64 => k_is
    case z0 => k_is
    case z1 => k_is
    case z2 => k_is
    case z3 => k_is
    case z4 => k_is
    case z5 => k_is
    case z6 => k_is
    case z7 => k_is
    case z8 => k_is
    case z9 => k_is
#print axioms PySem.Challenge.cw_thermogames_k06_whole_texts_holds

