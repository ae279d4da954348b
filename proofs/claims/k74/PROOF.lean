import PyProof.Rows.All
import Wide.All
import OpenK.AllK
import Wide.FinOn
import HandS.ForMost
import HandS.IsInst
import HandS.SortInts
import HandS.Style
import HandS.Evl
import HandS.More
import HandS.Zip
import PyProof.Draws
import PyProof.EnumMake
import HandS.TupAny
import HandS.SetFor
import HandS.Strs
import HandS.TupSets
import HandS.Deep
import HandS.Star
import HandS.Walk
import HandS.WordsDict
import KE.KDictKeyed
import HandS.Flow
import HandS.SetBool
import HandS.Conv
import KE.GoesMore
import HandS.Gcd
import HandS.Text
import KE.KDictDisplayH
import HandS.TupMul
import PySem.Challenge.RW_thermogames_k74_whole_solutions_judged
set_option Elab.async false
set_option linter.all false
set_option maxRecDepth 100000
set_option maxHeartbeats 4000000
/-! The kit of our own, over the hand layer: what all laws share. -/
namespace TG
open PySem L2
/-! ### names at once, for simp -/
theorem ex2_eq {α β : Sort _} {a : α} {b : β} {p : α → β → Prop} : (∃ v w, (a = v ∧ b = w) ∧ p v w) ↔ p a b :=
  ⟨fun ⟨_, _, ⟨h1, h2⟩, h⟩ => by subst h1 h2; exact h, fun h => ⟨_, _, ⟨rfl, rfl⟩, h⟩⟩
theorem ex3_eq {α β γ : Sort _} {a : α} {b : β} {c : γ} {p : α → β → γ → Prop} : (∃ v w x, (a = v ∧ b = w ∧ c = x) ∧ p v w x) ↔ p a b c :=
  ⟨fun ⟨_, _, _, ⟨h1, h2, h3⟩, h⟩ => by subst h1 h2 h3; exact h, fun h => ⟨_, _, _, ⟨rfl, rfl, rfl⟩, h⟩⟩
theorem ex4_eq {α β γ δ : Sort _} {a : α} {b : β} {c : γ} {d : δ} {p : α → β → γ → δ → Prop} : (∃ v w x y, (a = v ∧ b = w ∧ c = x ∧ d = y) ∧ p v w x y) ↔ p a b c d :=
  ⟨fun ⟨_, _, _, _, ⟨h1, h2, h3, h4⟩, h⟩ => by subst h1 h2 h3 h4; exact h, fun h => ⟨_, _, _, _, ⟨rfl, rfl, rfl, rfl⟩, h⟩⟩
/-! ### a weaker reading -/
theorem ps_imp {X : Cx} {st : Stmt} {t t' : TS} (h : ∀ D σ H, t' D σ H → t D σ H) (p : PS X st t) : PS X st t' := ⟨fun pins s σ H D I q => p.run pins s σ H D I (h D σ H q)⟩
theorem pe_imp {X : Cx} {e : Expr} {t t' : TE} (h : ∀ σ H Q, t' σ H Q → t σ H Q) (p : PE X e t) : PE X e t' := ⟨fun pins s σ H Q I q => p.run pins s σ H Q I (h σ H Q q)⟩
theorem same_new {H : Hp} {p : Addr} (h : H p = none) (o : HO) : Same H (upd H p o) := fun b u q => by rw [upd_ne (ne_of_none q h)]; exact q
/-- a, b = constants: a tuple is made on the way -/
def tParC (i j : Nat) (v w : V) : TS := fun D σ H => ∀ H', Same H H' → D.nx ((σ.set i (some v)).set j (some w)) H'
theorem parC {K : PySem.W.Frag} {i j : Nat} {v w : V} : ∀ D σ H, tParC i j v w D σ H → tAsg (tTup (tCons (tC v) (tCons (tC w) tNil))) (gTup K 2 (gCons (gName i) (gCons (gName j) gNil))) D σ H :=
  fun D σ H h => ⟨by show 2 ≤ sizeLine; decide, fun p hp => ⟨p, _, rfl, SqT.of upd_same, rfl, _, _, rfl, _, _, rfl, rfl, h _ (same_new hp _)⟩⟩
/-! ### one step into a reading -/
section
variable {σ : L2.St} {H : Hp} {D : Ends} {te ta tb : TE} {r : R2} {Q : VK} {g : TG} {t u : TS} {tt : TT} {ts : TA}
theorem go_ret (h : te σ H D.rt) : tRet te D σ H := h
theorem go_op (h : ta σ H fun x H1 => tb σ H1 fun y H2 => r x y H2 Q) : tOp r ta tb σ H Q := h
theorem go_asg (h : te σ H fun x H1 => g x σ H1 D.nx) : tAsg te g D σ H := h
theorem go_seq (h : t { D with nx := u D } σ H) : tSeq t u D σ H := h
theorem go_drop (h : te σ H fun _ H1 => D.nx σ H1) : tDrop te D σ H := h
theorem go_ifS {u : TS} (h : tt σ H fun b H1 => if b = true then t D σ H1 else u D σ H1) : tIfS tt t u D σ H := h
theorem go_cons {tr : TA} {Q : List V → Hp → Prop} (h : ta σ H fun x H1 => tr σ H1 fun xs H2 => Q (x :: xs) H2) : tCons ta tr σ H Q := h
theorem go_cb {f : List V → Hp → VK → Prop} (h : ts σ H fun vs H1 => f vs H1 Q) : tCB f ts σ H Q := h
theorem go_call {sp : Sp} {dvs : List V} {E : XK} (h : ts σ H fun vs H1 => sp (vs ++ dvs) H1 Q E) : tCall sp dvs E ts σ H Q := h
end
/-! ### the rules with the written part named -/
section
variable {X : Cx} {K : PySem.W.Frag}
theorem op_in_seqK (hK : X.K = K) : OpR X (compareOp .In) (rIn K false) := by subst hK; exact op_in_seq
theorem op_notIn_seqK (hK : X.K = K) : OpR X (compareOp .NotIn) (rIn K true) := by subst hK; exact op_notIn_seq
theorem ix_listK (hK : X.K = K) : IxR X (rIxL K) := by subst hK; exact ix_list
theorem ix_tupK (hK : X.K = K) : IxR X (rIxT K) := by subst hK; exact ix_tup
theorem ix_seqK (hK : X.K = K) : IxR X (rIx K) := by subst hK; exact ix_seq
def rLenQ (K : PySem.W.Frag) : List V → Hp → VK → Prop := fun xs H Q => ∃ p ys, xs = [.ref p] ∧ (SqL K H p ys ∨ SqT K H p ys) ∧ Q (.int ys.length) H
theorem call_lenK (hK : X.K = K) : CallR X (.builtin "len") (rLenQ K) := by subst hK; exact call_len_seq
def rListOf (K : PySem.W.Frag) : List V → Hp → VK → Prop := fun xs H Q => ∃ p ys, xs = [.ref p] ∧ (SqL K H p ys ∨ SqT K H p ys) ∧ ∀ l, H l = none → Q (.ref l) (upd H l (.lst ys))
theorem call_list_ofK (hK : X.K = K) : CallR X (.type "list") (rListOf K) := by subst hK; exact call_list_of
def rTupOf (K : PySem.W.Frag) : List V → Hp → VK → Prop := fun xs H Q => ∃ p ys, xs = [.ref p] ∧ ((SqL K H p ys ∧ ∀ l, H l = none → Q (.ref l) (upd H l (.tup ys))) ∨ (SqT K H p ys ∧ Q (.ref p) H))
theorem call_tuple_ofK (hK : X.K = K) : CallR X (.type "tuple") (rTupOf K) := by subst hK; exact call_tuple_of
theorem cr_sumK (hK : X.K = K) (hc : X.calm = true) : CallR X (.builtin "sum") (rSum K) := by subst hK; exact cr_sum hc
theorem cr_maxK (hK : X.K = K) (hc : X.calm = true) : CallR X (.builtin "max") (rMax K) := by subst hK; exact cr_max hc
theorem cr_minK (hK : X.K = K) (hc : X.calm = true) : CallR X (.builtin "min") (rMin K) := by subst hK; exact cr_min hc
theorem cr_anyK (hK : X.K = K) (hc : X.calm = true) : CallR X (.builtin "any") (rAny K) := by subst hK; exact cr_any hc
theorem cr_allK (hK : X.K = K) (hc : X.calm = true) : CallR X (.builtin "all") (rAll K) := by subst hK; exact cr_all hc
theorem cr_sortedIK (hK : X.K = K) : CallR X (.builtin "sorted") (rSortedI K) := by subst hK; exact cr_sortedI
theorem sl_listK (hK : X.K = K) : SlR X (rSlL K) := by subst hK; exact sl_list
theorem sl_tupK (hK : X.K = K) : SlR X (rSlT K) := by subst hK; exact sl_tup
theorem op_catTK (hK : X.K = K) : OpR X (binaryOp .Add) (rCatT K) := by subst hK; exact op_catT
theorem op_eqDK (hK : X.K = K) (hu : X.A.units + 64 < cLine) : OpR X (compareOp .Eq) (rEqD K) := by subst hK; exact op_eqD hu
theorem op_neDK (hK : X.K = K) (hu : X.A.units + 64 < cLine) : OpR X (compareOp .NotEq) (rNeD K) := by subst hK; exact op_neD hu
theorem call_isiTK (hK : X.K = K) : CallR X (.builtin "isinstance") (rIsiT K) := by subst hK; exact call_isiT
theorem call_isiK' (hK : X.K = K) : CallR X (.builtin "isinstance") (rIsi K) := by subst hK; exact call_isi
theorem pi_listK {tg l : Expr} {tl : TE} (hK : X.K = K) (hl : PE X l tl) : PI X tg l (iList K tl) := by subst hK; exact pi_list hl
theorem pi_tupK {tg l : Expr} {tl : TE} (hK : X.K = K) (hl : PE X l tl) : PI X tg l (iTup K tl) := by subst hK; exact pi_tup hl
theorem pi_enumK {e : Expr} {ta : TA} {p pos tpos : Pos} {elts : List Expr} {kk : Nat} (hK : X.K = K) (hg : Gl X "enumerate") (hm : X.mg "enumerate" = none) (ha : PA X [e] ta) (hs : starEach [e] X.env = [(false, eval e X.env)] := by rfl) :
    PI X (.Tuple elts kk tpos) (.Call (.Name "enumerate" p) [e] [] pos) (iEnum K ta) := by subst hK; exact pi_enum hg hm ha hs
theorem pi_zipK {e e2 : Expr} {ta : TA} {p pos tpos : Pos} {elts : List Expr} {kk : Nat} (hK : X.K = K) (hg : Gl X "zip") (hm : X.mg "zip" = none) (ha : PA X [e, e2] ta)
    (hs : starEach [e, e2] X.env = (false, eval e X.env) :: starEach [e2] X.env := by rfl) (hpl : (backTo pos (starEach [e2] X.env)).any (·.1) = false := by rfl) :
    PI X (.Tuple elts kk tpos) (.Call (.Name "zip" p) [e, e2] [] pos) (iZip K ta) := by subst hK; exact pi_zip hg hm ha hs hpl
theorem pg_tupK {pos : Pos} {es : List Expr} {k : Nat} {t : TGs} {n : Nat} (hK : X.K = K) (hc : X.calm = true) (h : PGs X es t)
    (hn : (assignEach es X.env).length = n := by rfl) (hst : (assignEach es X.env).findIdx? (·.1) = none := by rfl) : PG X (.Tuple es k pos) (gTup K n t) := by subst hK; exact pg_tup hc h hn hst
theorem pe_bm0K {o : Expr} {to : TE} {name : Str} {apos cpos : Pos} {T id : String} {r : V → List V → Hp → VK → Prop} (hK : X.K = K) (pa : PlainAttrs T) (slot : Slot T name id) (hty : typeOf (.builtin id) = pure (.type "method_descriptor")) (hm : MtR X id r) (ho : PE X o to)
    (hbase : attributeBase o name X.env (eval o X.env) = eval o X.env := by rfl) (hline : (apos.endLine == cpos.line) = true := by rfl) : PE X (.Call (.Attribute o name apos) [] [] cpos) (tBM0 K T r to) := by subst hK; exact pe_bm0 pa slot hty hm ho hbase hline
theorem pe_bmK {o e : Expr} {es : List Expr} {to : TE} {t : TA} {name : Str} {apos cpos : Pos} {T id : String} {r : V → List V → Hp → VK → Prop} (hK : X.K = K) (pa : PlainAttrs T) (slot : Slot T name id) (hty : typeOf (.builtin id) = pure (.type "method_descriptor")) (hm : MtR X id r) (ho : PE X o to) (ha : PA X (e :: es) t)
    (hbase : attributeBase o name X.env (eval o X.env) = eval o X.env := by rfl)
    (hfew : ((backTo cpos (starEach (e :: es) X.env)).all (fun x => !x.1) && (backToKw cpos (keywordEach [] X.env)).all (fun x => x.1.isSome)
      && decide ((e :: es).length + ([] : List Keyword).length + (if ([] : List Keyword).isEmpty then 0 else 1) < 30)) = true := by rfl)
    (hline : (apos.endLine == cpos.line) = true := by rfl) (hs : starEach (e :: es) X.env = (false, eval e X.env) :: starEach es X.env := by rfl) (hplain : (backTo cpos (starEach es X.env)).any (·.1) = false := by rfl) :
    PE X (.Call (.Attribute o name apos) (e :: es) [] cpos) (tBM K T r to t) := by subst hK; exact pe_bm pa slot hty hm ho ha hbase hfew hline hs hplain
end
/-! ### isinstance of plain values -/
def sTy : V → Option String
  | .non => some "NoneType"
  | .bl _ => some "bool"
  | .int _ => some "int"
  | .str _ => some "str"
  | _ => none
def rIsiS : List V → Hp → VK → Prop := fun xs H Q => ∃ x c t b, xs = [x, .ty c] ∧ sTy x = some t ∧ kitB t c = some b ∧ Q (.bl b) H
theorem call_isiS {X : Cx} : CallR X (.builtin "isinstance") rIsiS := by
  intro pins s σ H xs us Q I r h
  obtain ⟨x, c, t, b, rfl, ht, hk, q⟩ := h
  have ty : TyX X.K H x (.type t) := by
    cases x with
    | non => cases ht; exact .base .non
    | bl b => cases ht; exact .base (.bl b)
    | int i => cases ht; exact .base (.int i)
    | str z => cases ht; exact .base (.str z)
    | _ => cases ht
  exact call_isi pins s σ H _ us Q I r ⟨x, .ty c, .type t, .type c, b, rfl, .ty c, ty, kit_ty hk, q⟩
theorem kit_int_int : kitB "int" "int" = some true := by decide +kernel
theorem kit_int_bool : kitB "int" "bool" = some false := by decide +kernel
theorem kit_int_str : kitB "int" "str" = some false := by decide +kernel
theorem kit_int_tuple : kitB "int" "tuple" = some false := by decide +kernel
theorem kit_int_list : kitB "int" "list" = some false := by decide +kernel
/-! ### the law's row of draws -/
def hide (H : Hp) (r : Addr) : Hp := fun b => if b = r then none else H b
theorem hide_upd {H : Hp} {r : Addr} {o : HO} : hide (upd H r o) r = hide H r := by
  funext b
  unfold hide upd
  by_cases h : b = r
  · rw [if_pos h, if_pos h]
  · rw [if_neg h, if_neg h, if_neg h]
theorem hide_same {H : Hp} {r : Addr} : Same (hide H r) H := fun b o e => by
  unfold hide at e
  by_cases h : b = r
  · rw [if_pos h] at e
    cases e
  · rw [if_neg h] at e
    exact e
/-- what stands apart from r is as it was, or more -/
def Off (r : Addr) (H H' : Hp) : Prop := ∀ b o, b ≠ r → H b = some o → H' b = some o
theorem Off.hide {r : Addr} {H H' : Hp} (h : Off r H H') : Same (hide H r) (hide H' r) := fun b o e => by
  unfold TG.hide at e ⊢
  by_cases hb : b = r
  · rw [if_pos hb] at e
    cases e
  · rw [if_neg hb] at e ⊢
    exact h b o hb e
theorem Off.refl {r : Addr} {H : Hp} : Off r H H := fun _ _ _ e => e
theorem Off.trans {r : Addr} {H H1 H2 : Hp} (a : Off r H H1) (b : Off r H1 H2) : Off r H H2 := fun x o hx e => b x o hx (a x o hx e)
theorem Off.upd {r : Addr} {H : Hp} {o : HO} : Off r H (upd H r o) := fun b u hb e => by rw [upd_ne hb]; exact e
theorem Off.of {r : Addr} {H H' : Hp} (h : Same H H') : Off r H H' := fun b u _ e => h b u e
theorem Off.eq {r : Addr} {H H' : Hp} (h : ∀ b, b ≠ r → H' b = H b) : Off r H H' := fun b u hb e => by rw [h b hb]; exact e
/-- the row: the script, a place, a seed, what is left of a great cell -/
def Row (K : PySem.W.Frag) (H : Hp) (r : Addr) : Prop :=
  ∃ (a : Addr) (ns : List Int) (i s t : Int), H r = some (.lst [.ref a, .int i, .int s, .int t]) ∧ SqL K (hide H r) a (ns.map V.int) ∧ ns.length ≤ 63 ∧ 0 ≤ i
theorem Row.more {K : PySem.W.Frag} {H H' : Hp} {r : Addr} (h : Row K H r) (s : Same H H') : Row K H' r := by
  obtain ⟨a, ns, i, z, t, h1, h2, h3, h4⟩ := h
  exact ⟨a, ns, i, z, t, s _ _ h1, (Off.hide (Off.of s)).seq h2, h3, h4⟩
theorem Row.there {K : PySem.W.Frag} {H : Hp} {r : Addr} (h : Row K H r) : ∃ xs, H r = some (.lst xs) := by
  obtain ⟨a, ns, i, z, t, h1, _⟩ := h
  exact ⟨_, h1⟩
/-- what changes is no list -/
theorem Row.off {K : PySem.W.Frag} {H H' : Hp} {r d : Addr} {u : HO} (h : Row K H r) (o : Off d H H') (hd : H d = some u) (hu : (∀ xs, u ≠ .lst xs) ∧ ∀ x y, u ≠ .frz x y) : Row K H' r := by
  obtain ⟨a, ns, i, z, t, h1, h2, h3, h4⟩ := h
  have hrd : r ≠ d := fun e => by
    rw [e, hd] at h1
    exact hu.1 _ (Option.some.inj h1)
  refine ⟨a, ns, i, z, t, o _ _ hrd h1, ?_, h3, h4⟩
  have key : ∀ v, hide H r a = some v → ((∃ xs, v = HO.lst xs) ∨ ∃ x y, v = HO.frz x y) → hide H' r a = some v := fun v e c => by
    have e1 : H a = some v := hide_same a v e
    have had : a ≠ d := fun q => by
      rw [q, hd] at e1
      have e2 := Option.some.inj e1
      rcases c with ⟨xs, c⟩ | ⟨x, y, c⟩
      · exact hu.1 _ (e2.trans c)
      · exact hu.2 _ _ (e2.trans c)
    have har : a ≠ r := fun q => by
      unfold hide at e
      rw [if_pos q] at e
      cases e
    unfold hide
    rw [if_neg har]
    exact o a v had e1
  rcases h2 with (h2 | ⟨x, h2⟩) | h2
  · exact .inl (.inl (key _ h2 (.inl ⟨_, rfl⟩)))
  · exact .inl (.inr ⟨x, key _ h2 (.inr ⟨_, _, rfl⟩)⟩)
  · exact .inr h2
/-- a draw: some number below m; the row turns, all else stands -/
def spTaken (K : PySem.W.Frag) : Sp := fun vs H Q _ => ∃ (r : Addr) (m : Int), vs = [.ref r, .int m] ∧ Row K H r ∧ (0 < m ∧ m < 1073741824) ∧
  ∀ (d : Int) (H' : Hp), 0 ≤ d → d < m → Row K H' r → (∀ b, b ≠ r → H' b = H b) → Q (.int d) H'
theorem at0 {a b c d : V} : atI [a, b, c, d] 0 = some a := rfl
theorem at1 {a b c d : V} : atI [a, b, c, d] 1 = some b := rfl
theorem at2 {a b c d : V} : atI [a, b, c, d] 2 = some c := rfl
theorem at3 {a b c d : V} : atI [a, b, c, d] 3 = some d := rfl
theorem mul_small {i : Int} : CMul i 48271 := .inr ⟨by decide, by decide⟩
/-- one of some things -/
def spPick (K : PySem.W.Frag) : Sp := fun vs H Q _ => ∃ (r p : Addr) (xs : List V), vs = [.ref r, .ref p] ∧ Row K H r ∧ H p = some (.lst xs) ∧ p ≠ r ∧ (0 < xs.length ∧ xs.length < 1000) ∧
  ∀ (v : V) (H' : Hp), v ∈ xs → Row K H' r → (∀ b, b ≠ r → H' b = H b) → Q v H'
/-- the row as the law makes it -/
theorem Row.make {K : PySem.W.Frag} {H : Hp} {r a : Addr} {ns : List Int} {s : Int} (hr : H r = none) (h : SqL K H a (ns.map V.int)) (hl : ns.length ≤ 63) : Row K (upd H r (.lst [.ref a, .int 0, .int s, .int 0])) r :=
  ⟨a, ns, 0, s, 0, upd_same, by
    rw [hide_upd]
    refine Same.seq (fun b o e => ?_) h
    unfold hide
    rw [if_neg (ne_of_none e hr)]
    exact e, hl, Int.le_refl 0⟩
/-! ### lists without repetition -/
theorem nodup_le {α : Type} [DecidableEq α] : ∀ {l m : List α}, l.Nodup → (∀ x ∈ l, x ∈ m) → l.length ≤ m.length
  | [], _, _, _ => Nat.zero_le _
  | x :: r, m, hn, hs => by
    have hx : x ∈ m := hs x List.mem_cons_self
    have hr := List.nodup_cons.mp hn
    have ih := nodup_le (l := r) (m := m.erase x) hr.2 fun y hy => by
      have hne : y ≠ x := fun e => hr.1 (e ▸ hy)
      exact (List.mem_erase_of_ne hne).mpr (hs y (List.mem_cons_of_mem _ hy))
    have hp : 0 < m.length := List.length_pos_of_mem hx
    rw [List.length_erase_of_mem hx] at ih
    rw [List.length_cons]
    omega
theorem nodup_cast : ∀ n : Nat, ((List.range n).map fun k : Nat => (k : Int)).Nodup := fun n => by
  rw [List.Nodup, List.pairwise_map]
  exact List.Pairwise.imp (fun h e => by omega) (List.pairwise_lt_range (n := n))
theorem int_in (k : Int) : ∀ ns : List Int, inV (.int k) (ns.map V.int) = decide (k ∈ ns)
  | [] => rfl
  | n :: r => by
    have ih := int_in k r
    unfold inV at ih ⊢
    rw [List.map_cons, List.any_cons, ih]
    by_cases h : n = k
    · subst h
      simp [eqV]
    · have h2 : ¬ k = n := fun e => h e.symm
      simp [eqV, h, h2]
theorem ints_flat (ns : List Int) : (ns.map V.int).all flatV = true := by
  rw [List.all_map, List.all_eq_true]
  intro x _
  rfl
end TG


set_option Elab.async false
set_option linter.all false
set_option maxRecDepth 100000
set_option maxHeartbeats 4000000
/-! enumerate(tuple) in a for, over the hand layer -/
namespace TG
open PySem PySem.Spec PyProof.Rows L2
open PySem.AutoSeq1 (wpAny_loadPart')
theorem meets_enumT (l : Addr) (items : Array Value) (n : Nat) (dct : Option Addr) (sl : Array (Option Value)) :
    Meets (Builtin.«enumerate.__new__» ⟨[.type "enumerate", .ref l], []⟩) (fun _ R s => s.heap.get? l = some { cls := .type "tuple", dict := dct, data := .seq items n, slots := sl } ∧
      R (.ok (.ret (.ref (s.heap.push { cls := .type "tuple_iterator", data := .fields #[.ref l, .int 0 0] }).objs.size)))
        { s with heap := (s.heap.push { cls := .type "tuple_iterator", data := .fields #[.ref l, .int 0 0] }).push { cls := .type "enumerate", data := .fields #[.none, .bool false, .ref s.heap.objs.size, rawInt 0, .none, .none] } }) :=
  .of_wp fun prog w A R s h => by
    obtain ⟨hp, g, d, tk, os⟩ := s; obtain ⟨hl, h⟩ := h
    have hsub := sub_enumerate
    have hL : Heap.IsTuple (Shared.heap ⟨hp, g, d, tk, os⟩) l items := ⟨_, hl, rfl, n, rfl⟩
    wp_walk using wpAny_loadPart' hl
    refine wpAny_stack_any fun st => wpAny_pure ?_
    split
    · rename_i c _ _ _ _ _
      cases (c == Value.type "enumerate")
      · wp_walk using wpAny_loadPart' hl, wpAny_pyIter_tuple hL
        exact ⟨_, rfl, h⟩
      · wp_walk using wpAny_loadPart' hl, wpAny_pyIter_tuple hL
        exact ⟨_, rfl, h⟩
    · wp_walk using wpAny_loadPart' hl, wpAny_pyIter_tuple hL
      exact ⟨_, rfl, h⟩
section
variable {prog : Program} {w : World} {A : Around} {E : Value → Shared → Prop} {s : Shared}
theorem call_enumT {l : Addr} {items : Array Value} {Q : Value → Shared → Prop} (hL : s.heap.IsTuple l items)
    (h : ∀ h', IsEnum h' (s.heap.objs.size + 1) s.heap.objs.size 0 .none → h'.IsTupleIter s.heap.objs.size l 0 → h'.objs.size = s.heap.objs.size + 2 →
      (∀ b o, s.heap.get? b = some o → h'.get? b = some o) → Q (.ref (s.heap.objs.size + 1)) { s with heap := h' }) :
    wpAny (model prog w) A (call (.type "enumerate") [.ref l]) Q E s := by
  obtain ⟨⟨c, dct, dt, sl⟩, hl, hc, n, hd⟩ := hL
  replace hc : c = .type "tuple" := hc
  replace hd : dt = .seq items n := hd
  subst hc hd
  refine callType_new F.called_enumerate (by decide) (F.typeCall_enumerate_1 _) (F.newCall_enumerate_1 _) (fun obj => F.args_object_init_2 obj _) F.entry_enumerate_new
    (meets_enumT l items n dct sl) ⟨hl, ?_⟩
  have hz : (s.heap.push { cls := .type "tuple_iterator", data := .fields #[.ref l, .int 0 0] }).objs.size = s.heap.objs.size + 1 := Heap.size_push ..
  show _ ∧ _
  rw [hz]
  have he : IsEnum ((s.heap.push { cls := .type "tuple_iterator", data := .fields #[.ref l, .int 0 0] }).push
      { cls := .type "enumerate", data := .fields #[.none, .bool false, .ref s.heap.objs.size, rawInt 0, .none, .none] }) (s.heap.objs.size + 1) s.heap.objs.size 0 .none := by
    have := Heap.get?_push_size (s.heap.push { cls := .type "tuple_iterator", data := .fields #[.ref l, .int 0 0] })
      (o := { cls := .type "enumerate", data := .fields #[.none, .bool false, .ref s.heap.objs.size, rawInt 0, .none, .none] }) rfl
    rw [hz] at this; exact this
  refine ⟨⟨_, he, rfl⟩, h _ he ⟨_, Heap.get?_push_of_some _ (Heap.get?_push_size _ rfl), rfl, rfl⟩ (by rw [Heap.size_push, hz]) fun b o x => Heap.get?_push_of_some _ (Heap.get?_push_of_some _ x)⟩
end
theorem drawsT {prog : Program} {w : World} {A : Around} (hh : A.handled = none) (it l : Addr) (hne : l ≠ it) (items : Array Value) :
    Draws prog w A it [it, l] items.size (fun i v => items[i]? = some v) (fun i h => h.IsTupleIter it l i ∧ h.IsTuple l items) where
  live := fun _ _ st => let ⟨o, ho, _⟩ := st.1; ⟨o, ho⟩
  frame := fun _ _ _ st hk => ⟨st.1.at fun o e => hk it (by simp) o e, let ⟨o, ho, r⟩ := st.2; ⟨o, hk l (by simp) o ho, r⟩⟩
  item := fun i s Q E hi st hQ => by
    refine RZ.nextOf_tuple_item st.1 st.2 (x := items[i]) (by simp [hi]) fun h' hit' hs' => ?_
    exact hQ _ h' s.toks (by simp [hi]) ⟨hit', let ⟨o, ho, r⟩ := st.2; ⟨o, (hs'.2 l hne).trans ho, r⟩⟩ hs'
  done := fun s Q E st hE => RZ.nextOf_tuple_end hh st.1 st.2 (by simp) hE
/-- the tuple at a as it stands at each turn, each item in a new pair -/
def IteT (K : PySem.W.Frag) (a : Addr) : It :=
  ⟨fun i H => ∃ (xs : List V) (x : V), SqT K H a xs ∧ xs[i]? = some x, fun i H v H' => ∃ T x, v = .ref T ∧ H T = none ∧ H' = upd H T (.tup [.int (i : Nat), x]) ∧ ∀ xs, SqT K H a xs → xs[i]? = some x, fun i H => ∃ xs : List V, SqT K H a xs ∧ xs.length = i⟩
theorem turn_enumT {P : Program} {w : World} {K : PySem.W.Frag} {elts : List Expr} {kk : Nat} {tpos : Pos} (a e it : Addr) :
    Turn P w K (.Tuple elts kk tpos) (IteT K a) [e, it] e (fun i h => (∃ old, IsEnum h e it ((i : Nat) : Int) old) ∧ h.IsTupleIter it a i ∧ e ≠ it ∧ a ≠ it ∧ a ≠ e) where
  mem := by simp
  obj := fun i h st b hb => by
    obtain ⟨⟨old, he⟩, ⟨o, ho, hc, hd⟩, _⟩ := st
    have e' : b = e ∨ b = it := by simpa using hb
    rcases e' with z | z
    · rw [z]; exact ⟨_, he, fun v q => nomatch q⟩
    · rw [z]; exact ⟨o, ho, fun v q => by rw [hd] at q; cases q⟩
  keep := fun i h h' st k => let ⟨⟨old, he⟩, hi, hne⟩ := st; ⟨⟨old, k e (by simp) _ he⟩, hi.at fun o q => k it (by simp) o q, hne⟩
  item := by
    intro X hP hw hK hc i pins s σ H E I hf st hg
    subst hP hw hK
    obtain ⟨⟨old, he⟩, hit, hne, hai, hae⟩ := st
    obtain ⟨xs, x, hq, hx⟩ := hg
    obtain ⟨its, rv, p, hz⟩ := I.tuple hq
    obtain ⟨u, hu, ru⟩ := rv.get hx
    have hel : e < s.heap.objs.size := Heap.lt_size he
    have hil : it < s.heap.objs.size := by obtain ⟨_, q, _⟩ := hit; exact Heap.lt_size q
    have hilen : i < its.toArray.size := by
      have := (List.getElem?_eq_some_iff.mp hu).1
      simpa using this
    have D := drawsT (prog := X.prog) (w := X.w) (A := X.A.in1) (I.ok.hd hc) it a hai its.toArray
    refine wpAny_pyNext_enum_itemD D he ⟨hit, p⟩ hilen hne (by simp [hne, Ne.symm hae]) fun x' h' tk hP' ho hit' hT hsz hk => ?_
    have ex : x' = u := by
      have h1 : its[i]? = some x' := by simpa using hP'
      rw [hu] at h1
      exact (Option.some.inj h1).symm
    subst ex
    refine ⟨_, rfl, wpAny_letOwnedTupleGo_enum (s := { s with heap := h', toks := tk + 1 }) ho fun h'' he' sb => ?_⟩
    have hT2 : h''.get? s.heap.objs.size = some { cls := .type "tuple", data := .seq #[.int i tk, x'] } := (sb.2 _ (Nat.ne_of_gt hel)).trans hT
    have new : ObjOk X.prog X.w (upd H s.heap.objs.size (.tup [.int (i : Nat), x])) h'' s.heap.objs.size (.tup [.int (i : Nat), x]) :=
      ⟨by show 2 ≤ sizeLine; decide, [.int i tk, x'], .cons ⟨_, rfl⟩ (.cons ru .nil), ⟨_, hT2, rfl, _, rfl⟩⟩
    have I1 : Inv X pins σ (upd H s.heap.objs.size (.tup [.int (i : Nat), x])) { s with heap := h'', toks := tk + 1 } :=
      I.turnedNew (ch := [e, it]) (fun b ob hb q => (sb.2 b (fun z => hb (by simp [z]))).trans (hk b ob (fun z => hb (by simp [z])) (fun z => hb (by simp [z])) q)) hf (Nat.le_refl _) new
    refine ⟨.ref s.heap.objs.size, _, I1, rfl, ⟨_, x, rfl, I.hok.fresh (Nat.le_refl _), rfl, fun ys hy => by rw [I.tuple_inj hy hq]; exact hx⟩, ⟨⟨x', ?_⟩, hit'.1.at fun o q => (sb.2 it (Ne.symm hne)).trans q, hne, hai, hae⟩, fun b hb => ?_⟩
    · have e1 : ((i + 1 : Nat) : Int) = (i : Int) + 1 := by omega
      rw [e1]; exact he'
    · have hb' : b < s.heap.objs.size := by
        have e' : b = e ∨ b = it := by simpa using hb
        rcases e' with z | z
        · rw [z]; exact hel
        · rw [z]; exact hil
      rw [upd_ne (Nat.ne_of_lt hb')]
      exact (hf b hb).1
  done := by
    intro X hP hw hK hc i pins s σ H E I hf st hg
    subst hP hw hK
    obtain ⟨⟨old, he⟩, hit, hne, hai, hae⟩ := st
    obtain ⟨xs, hq, hx⟩ := hg
    obtain ⟨its, rv, p, hz⟩ := I.tuple hq
    obtain ⟨f0, f1, f2, f3, f4, f5⟩ := hf it (by simp)
    have hl := rv.length
    have D := drawsT (prog := X.prog) (w := X.w) (A := X.A.in1) (I.ok.hd hc) it a hai its.toArray
    have hi : i = its.toArray.size := by simp; omega
    rw [hi] at hit
    exact wpAny_pyNext_enum_endD D he ⟨hit, p⟩ fun h' eb => ⟨rfl, I.turned (t' := s.toks) (fun b o hb q => eb b o hb q) f0 f1 f3 f4 f5⟩
  self := fun A i s Q E st h => let ⟨⟨_, he⟩, _⟩ := st; wpAny_pyIter_enum he h
def iEnumT (K : PySem.W.Frag) (ta : TA) : TI := fun σ H R => ta σ H fun vs H1 => ∃ a xs, vs = [.ref a] ∧ SqT K H1 a xs ∧ R (IteT K a) H1
theorem pi_enumT {X : Cx} {K : PySem.W.Frag} {e : Expr} {ta : TA} {p pos tpos : Pos} {elts : List Expr} {kk : Nat} (hK : X.K = K) (hg : Gl X "enumerate") (hm : X.mg "enumerate" = none) (ha : PA X [e] ta) (hs : starEach [e] X.env = [(false, eval e X.env)] := by rfl) :
    PI X (.Tuple elts kk tpos) (.Call (.Name "enumerate" p) [e] [] pos) (iEnumT K ta) := by
  subst hK
  refine ⟨fun pins s σ H R I h => ?_⟩
  refine Call_ (ld_blt I hg hm boot_enumerate (PyProof.Rows.callWith_type1 (thn (ha.run pos pins s σ H _ I h) fun us s1 ⟨vs, H1, I1, r1, q1⟩ => ?_) hs rfl))
  obtain ⟨a, xs, ex, hq, q⟩ := q1
  subst ex
  cases r1 with
  | cons r rr =>
    cases rr
    cases r
    obtain ⟨its, rv, p', hz⟩ := I1.tuple hq
    have hal : a < s1.heap.objs.size := by obtain ⟨o, ho, _⟩ := p'; exact Heap.lt_size ho
    refine call_enumT p' fun h' he hit hsz hk => wpAny_pyIter_enum he ?_
    have I2 : Inv X pins σ H1 { s1 with heap := h' } := I1.kept (t' := s1.toks) hk
    refine ⟨s1.heap.objs.size + 1, [s1.heap.objs.size + 1, s1.heap.objs.size], _, _, H1, rfl, I2, turn_enumT a (s1.heap.objs.size + 1) s1.heap.objs.size, ⟨⟨.none, he⟩, hit, Nat.succ_ne_self _, Nat.ne_of_lt hal, Nat.ne_of_lt (Nat.lt_succ_of_lt hal)⟩, fun b hb => ?_, q⟩
    have e' : b = s1.heap.objs.size + 1 ∨ b = s1.heap.objs.size := by simpa using hb
    have hle : s1.heap.objs.size ≤ b := by
      rcases e' with z | z
      · rw [z]; exact Nat.le_add_right _ _
      · rw [z]; exact Nat.le_refl _
    exact I1.fpOk hle (I1.hok.fresh hle)
/-- a for over enumerate(tuple): the invariant by the turn -/
theorem for_enumT {K : PySem.W.Frag} {a : Addr} {xs : List V} {i1 i2 : Nat} {tb : TS} {D : Ends} {σ : L2.St} {H : Hp} (Pv : Nat → L2.St → Hp → Prop) (h0 : Pv 0 σ H) (hl : ∀ i σ H, i ≤ xs.length → Pv i σ H → SqT K H a xs)
    (hs : ∀ i x σ H H', xs[i]? = some x → Pv i σ H → Same H H' → tb { D with nx := Pv (i + 1), ct := Pv (i + 1), bk := D.nx } ((σ.set i1 (some (.int (i : Nat)))).set i2 (some x)) H') (hd : ∀ σ H, Pv xs.length σ H → D.nx σ H) :
    ∃ W : Nat → Nat → L2.St → Hp → Prop, (∃ m, W 0 m σ H) ∧ ∀ i m σ H, W i m σ H →
      ((IteT K a).stop i H ∧ D.nx σ H) ∨ ((IteT K a).go i H ∧ ∃ N : L2.St → Hp → Prop, (∀ σ' H', N σ' H' → ∃ m', m' < m ∧ W (i + 1) m' σ' H') ∧ ∀ x H', (IteT K a).yld i H x H' →
        gTup K 2 (gCons (gName i1) (gCons (gName i2) gNil)) x σ H' fun σ2 H2 => tb { D with nx := N, ct := N, bk := D.nx } σ2 H2) := by
  refine ⟨fun i m σ H => m = xs.length - i ∧ i ≤ xs.length ∧ Pv i σ H, ⟨xs.length, by simp, Nat.zero_le _, h0⟩, ?_⟩
  rintro i m σ H ⟨rfl, hi, p⟩
  have hq := hl i σ H hi p
  by_cases hlt : i < xs.length
  · refine .inr ⟨⟨xs, xs[i], hq, List.getElem?_eq_getElem hlt⟩, Pv (i + 1), fun σ' H' p' => ⟨xs.length - (i + 1), by omega, rfl, hlt, p'⟩, fun x H' y => ?_⟩
    obtain ⟨T, z, rfl, hT, rfl, hz⟩ := y
    exact ⟨T, _, rfl, SqT.of upd_same, rfl, _, _, rfl, _, _, rfl, rfl, hs i z σ H _ (hz xs hq) p (same_new hT _)⟩
  · have e : i = xs.length := by omega
    subst e
    exact .inl ⟨⟨xs, hq, rfl⟩, hd σ H p⟩
end TG


set_option Elab.async false
set_option linter.all false
set_option maxRecDepth 100000
set_option maxHeartbeats 4000000
namespace TG
open PySem L2
/-! ### further steps into a reading -/
section
variable {σ : L2.St} {H : Hp} {D : Ends} {te : TE} {tt tu : TT} {Q : Bool → Hp → Prop}
theorem go_next (h : D.nx σ H) : tNext D σ H := h
theorem go_or (h : tt σ H fun c H1 => if c = true then Q true H1 else tu σ H1 Q) : tOr tt tu σ H Q := h
theorem go_and (h : tt σ H fun c H1 => if c = true then tu σ H1 Q else Q false H1) : tAnd tt tu σ H Q := h
theorem go_not (h : tt σ H fun c H1 => Q (!c) H1) : tNot tt σ H Q := h
theorem go_B (h : te σ H fun x H1 => ∃ c, x = .bl c ∧ Q c H1) : tB te σ H Q := h
theorem go_test (h : te σ H fun x H1 => ∃ c, x = .bl c ∧ Q c H1) : tTest te σ H Q := h
end
/-! ### more rules with the written part named -/
section
variable {X : Cx} {K : PySem.W.Frag}
theorem op_catAK (hK : X.K = K) : OpR X (binaryOp .Add) (rCatA K) := by subst hK; exact op_catA
theorem sl_tupAK (hK : X.K = K) : SlR X (rSlA K) := by subst hK; exact sl_tupA
/-- the type's name of a value: plain ones, tuples, lists -/
def TyN (K : PySem.W.Frag) (H : Hp) (x : V) (t : String) : Prop :=
  sTy x = some t ∨ (t = "tuple" ∧ ∃ a ys, x = .ref a ∧ SqT K H a ys) ∨ (t = "list" ∧ ∃ a ys, x = .ref a ∧ H a = some (.lst ys)) ∨ (t = "dict" ∧ ∃ a kvs, x = .ref a ∧ H a = some (.dK kvs))
theorem TyN.x {H : Hp} {x : V} {t : String} (h : TyN K H x t) : TyX K H x (.type t) := by
  rcases h with h | ⟨rfl, a, ys, rfl, (h | ⟨o, h⟩) | ⟨o, its, n, h, hc, _⟩⟩ | ⟨rfl, a, ys, rfl, h⟩ | ⟨rfl, a, kvs, rfl, h⟩
  · cases x with
    | non => cases h; exact .base .non
    | bl b => cases h; exact .base (.bl b)
    | int i => cases h; exact .base (.int i)
    | str z => cases h; exact .base (.str z)
    | _ => cases h
  · exact .base (.tup h)
  · exact .fTuple h
  · exact .kTuple h hc
  · exact .base (.lst h)
  · exact .base (.dK h)
def rIsiG (K : PySem.W.Frag) : List V → Hp → VK → Prop := fun xs H Q => ∃ x c t b, xs = [x, .ty c] ∧ TyN K H x t ∧ kitB t c = some b ∧ Q (.bl b) H
theorem call_isiG (hK : X.K = K) : CallR X (.builtin "isinstance") (rIsiG K) := by
  subst hK
  intro pins s σ H xs us Q I r h
  obtain ⟨x, c, t, b, rfl, ht, hk, q⟩ := h
  exact call_isi pins s σ H _ us Q I r ⟨x, .ty c, .type t, .type c, b, rfl, .ty c, ht.x, kit_ty hk, q⟩
end
theorem kit_tuple_tuple : kitB "tuple" "tuple" = some true := by decide +kernel
theorem kit_tuple_int : kitB "tuple" "int" = some false := by decide +kernel
theorem kit_bool_bool : kitB "bool" "bool" = some true := by decide +kernel
theorem kit_bool_int : kitB "bool" "int" = some true := by decide +kernel
theorem TyN.int {K : PySem.W.Frag} {H : Hp} {n : Int} : TyN K H (.int n) "int" := .inl rfl
theorem TyN.bl {K : PySem.W.Frag} {H : Hp} {b : Bool} : TyN K H (.bl b) "bool" := .inl rfl
theorem TyN.tup {K : PySem.W.Frag} {H : Hp} {a : Addr} {ys : List V} (h : SqT K H a ys) : TyN K H (.ref a) "tuple" := .inr (.inl ⟨rfl, a, ys, rfl, h⟩)
theorem sqT {K : PySem.W.Frag} {H H' : Hp} {a : Addr} {xs : List V} (e : Same H H') (h : SqT K H a xs) : SqT K H' a xs := Evl.ex_t e h
theorem sqL {K : PySem.W.Frag} {H H' : Hp} {a : Addr} {xs : List V} (e : Same H H') (h : SqL K H a xs) : SqL K H' a xs := Evl.ex_l e h
/-! ### the row of draws, the script named -/
def RowA (K : PySem.W.Frag) (a : Addr) (ns : List Int) (H : Hp) (r : Addr) : Prop :=
  ∃ (i s t : Int), H r = some (.lst [.ref a, .int i, .int s, .int t]) ∧ SqL K (hide H r) a (ns.map V.int) ∧ ns.length ≤ 63 ∧ 0 ≤ i
section
variable {K : PySem.W.Frag} {a : Addr} {ns : List Int} {H H' : Hp} {r D : Addr}
theorem RowA.more (h : RowA K a ns H r) (s : Same H H') : RowA K a ns H' r := by
  obtain ⟨i, z, t, h1, h2, h3, h4⟩ := h
  exact ⟨i, z, t, s _ _ h1, (Off.hide (Off.of s)).seq h2, h3, h4⟩
theorem RowA.there (h : RowA K a ns H r) : ∃ xs, H r = some (.lst xs) := by
  obtain ⟨i, z, t, h1, _⟩ := h
  exact ⟨_, h1⟩
theorem RowA.make {s : Int} (hr : H r = none) (h : SqL K H a (ns.map V.int)) (hl : ns.length ≤ 63) : RowA K a ns (upd H r (.lst [.ref a, .int 0, .int s, .int 0])) r :=
  ⟨0, s, 0, upd_same, by
    rw [hide_upd]
    refine Same.seq (fun b o e => ?_) h
    unfold hide
    rw [if_neg (ne_of_none e hr)]
    exact e, hl, Int.le_refl 0⟩
/-- D is not where the script stands -/
def Safe (K : PySem.W.Frag) (a : Addr) (ns : List Int) (D : Addr) : Prop := a ≠ D ∨ ∀ H, SqL K H a (ns.map V.int)
theorem RowA.safe (h : RowA K a ns H r) (hD : H D = none) : Safe K a ns D := by
  obtain ⟨i, z, t, h1, h2, h3, h4⟩ := h
  rcases h2 with (h2 | ⟨x, h2⟩) | h2
  · exact .inl (ne_of_none (hide_same a _ h2) hD)
  · exact .inl (ne_of_none (hide_same a _ h2) hD)
  · exact .inr fun H => .inr h2
/-- all but D is kept -/
theorem RowA.off (h : RowA K a ns H r) (hr : r ≠ D) (hs : Safe K a ns D) (o : Off D H H') : RowA K a ns H' r := by
  obtain ⟨i, z, t, h1, h2, h3, h4⟩ := h
  refine ⟨i, z, t, o _ _ hr h1, ?_, h3, h4⟩
  rcases hs with hs | hs
  · have key : ∀ v, hide H r a = some v → hide H' r a = some v := fun v e => by
      unfold hide at e ⊢
      by_cases har : a = r
      · rw [if_pos har] at e
        cases e
      · rw [if_neg har] at e ⊢
        exact o a v hs e
    rcases h2 with (h2 | ⟨x, h2⟩) | h2
    · exact .inl (.inl (key _ h2))
    · exact .inl (.inr ⟨x, key _ h2⟩)
    · exact .inr h2
  · exact hs _
theorem RowA.upd {o : HO} (h : RowA K a ns H r) (hr : r ≠ D) (hs : Safe K a ns D) : RowA K a ns (upd H D o) r := h.off hr hs Off.upd
end
/-- a tuple stands while the row turns -/
theorem sqT_row {K : PySem.W.Frag} {H H' : Hp} {p r : Addr} {xs ys : List V} (h : SqT K H p xs) (hr : H r = some (.lst ys)) (ho : ∀ b, b ≠ r → H' b = H b) : SqT K H' p xs := by
  have key : ∀ u, H p = some u → (∀ zs, u ≠ .lst zs) → H' p = some u := fun u e hu => by
    rw [ho p (fun c => by rw [c, hr] at e; exact hu _ (Option.some.inj e).symm)]
    exact e
  rcases h with (h | ⟨o, h⟩) | h
  · exact .inl (.inl (key _ h (fun _ z => by cases z)))
  · exact .inl (.inr ⟨o, key _ h (fun _ z => by cases z)⟩)
  · exact .inr h
/-- a draw: some number below m; the row turns, all else stands -/
def spTk (K : PySem.W.Frag) : Sp := fun vs H Q _ => ∃ (r a : Addr) (ns : List Int) (m : Int), vs = [.ref r, .int m] ∧ RowA K a ns H r ∧ (0 < m ∧ m < 1073741824) ∧
  ∀ (d : Int) (H' : Hp), 0 ≤ d → d < m → RowA K a ns H' r → (∀ b, b ≠ r → H' b = H b) → Q (.int d) H'
/-- one of some things -/
def spPk (K : PySem.W.Frag) : Sp := fun vs H Q _ => ∃ (r a p : Addr) (ns : List Int) (xs : List V), vs = [.ref r, .ref p] ∧ RowA K a ns H r ∧ H p = some (.lst xs) ∧ p ≠ r ∧ (0 < xs.length ∧ xs.length < 1000) ∧
  ∀ (v : V) (H' : Hp), v ∈ xs → RowA K a ns H' r → (∀ b, b ≠ r → H' b = H b) → Q v H'
/-! ### a comprehension over range(a, b) -/
theorem el_lcR2 {σ : L2.St} {H : Hp} {t : TT} {te : TE} {ta : TA} {j : Nat} {vs : List Nat} {lo hi : Int} (f : Nat → Bool) (v : Nat → V) (h : Evl.EvA ta σ H [.int lo, .int hi]) (hn : -100000 ≤ lo ∧ lo ≤ 100000 ∧ -100000 ≤ hi ∧ hi ≤ 100000 ∧ hi - lo ≤ 40000) (hw : ∀ x, wipe ((wipe σ vs).set j (some x)) vs = wipe σ vs)
    (ht : ∀ (i : Nat) H1, Evl.Ex H H1 → lo + (i : Int) < hi → Evl.EvT t ((wipe σ vs).set j (some (.int (lo + (i : Int))))) H1 (f i)) (he : ∀ (i : Nat) H1, Evl.Ex H H1 → lo + (i : Int) < hi → f i = true → Evl.Ev te ((wipe σ vs).set j (some (.int (lo + (i : Int))))) H1 (v i)) :
    Evl.EvL (tLc (iRng2 ta) (gName j) t te vs) σ H (Evl.given (hi - lo).toNat f v) := fun H0 e Q q => h H0 e _ fun H1 e1 => ⟨lo, hi, rfl, ⟨by omega, by omega, by omega, by omega⟩, fun Dl hD =>
  lc_range (lo := lo) (n := (hi - lo).toNat) (Evl.Cw H1 f v Dl) ⟨hD, Evl.Ex.new hD, upd_same⟩ (fun i H' hi' p =>
    ⟨hw _, Evl.cw_turn p (by omega) (ht i H1 (e.trans e1) (by omega)) (fun hf => he i H1 (e.trans e1) (by omega) hf)⟩) (fun H' p => q Dl H' (Evl.fresh_back e1 p.1) (e1.trans p.2.1) p.2.2)⟩
/-- over a tuple -/
theorem el_lcT {K : PySem.W.Frag} {σ : L2.St} {H : Hp} {t : TT} {te : TE} {a : Addr} {xs : List V} {tl : TE} {j : Nat} {vs : List Nat} (f : Nat → Bool) (v : Nat → V) (h : Evl.Ev tl σ H (.ref a)) (hx : SqT K H a xs) (hz : xs.length ≤ 40000) (hw : ∀ x, wipe ((wipe σ vs).set j (some x)) vs = wipe σ vs)
    (ht : ∀ (i : Nat) (x : V) H1, Evl.Ex H H1 → xs[i]? = some x → Evl.EvT t ((wipe σ vs).set j (some x)) H1 (f i)) (he : ∀ (i : Nat) (x : V) H1, Evl.Ex H H1 → xs[i]? = some x → f i = true → Evl.Ev te ((wipe σ vs).set j (some x)) H1 (v i)) :
    Evl.EvL (tLc (iTup K tl) (gName j) t te vs) σ H (Evl.given xs.length f v) := fun H0 e Q q => h H0 e _ fun H1 e1 => ⟨a, rfl, ⟨xs, Evl.ex_t (e.trans e1) hx⟩, fun Dl hD =>
  lc_tup (xs := xs) (Evl.Cw H1 f v Dl) ⟨hD, Evl.Ex.new hD, upd_same⟩ (fun i H' _ p => Evl.ex_t ((e.trans e1).trans p.2.1) hx) (fun i x H' hi p => ⟨hw x, Evl.cw_turn p (by have := (List.getElem?_eq_some_iff.mp hi).1; omega) (ht i x H1 (e.trans e1) hi) (fun hf => he i x H1 (e.trans e1) hi hf)⟩)
    (fun H' p => q Dl H' (Evl.fresh_back e1 p.1) (e1.trans p.2.1) p.2.2)⟩
theorem given_all (n : Nat) (v : Nat → V) : Evl.given n (fun _ => true) v = (List.range n).map v := by
  unfold Evl.given
  rw [List.filter_eq_self.mpr (fun _ _ => rfl)]
/-! ### the least that is missing -/
def miss (ns : List Int) : List Nat := (List.range (ns.length + 1)).filter fun k => !decide ((k : Int) ∈ ns)
theorem miss_ne (ns : List Int) : miss ns ≠ [] := by
  intro h
  have h1 : ∀ k ∈ List.range (ns.length + 1), ((k : Int)) ∈ ns := fun k hk => by
    have := List.filter_eq_nil_iff.mp h k hk
    simpa using this
  have h2 := nodup_le (l := (List.range (ns.length + 1)).map fun k : Nat => (k : Int)) (m := ns) (nodup_cast _) (fun x hx => by
    obtain ⟨k, hk, rfl⟩ := List.mem_map.mp hx
    exact h1 k hk)
  rw [List.length_map, List.length_range] at h2
  omega
def mexL (ns : List Int) : Nat := (miss ns).headD 0
theorem below_len {ns : List Int} {m : Nat} (h2 : ∀ j : Nat, j < m → ((j : Int)) ∈ ns) : m ≤ ns.length := by
  have h3 := nodup_le (l := (List.range m).map fun k : Nat => (k : Int)) (m := ns) (nodup_cast _) (fun x hx => by
    obtain ⟨k, hk, rfl⟩ := List.mem_map.mp hx
    exact h2 k (List.mem_range.mp hk))
  rw [List.length_map, List.length_range] at h3
  exact h3
theorem mexL_of {ns : List Int} {m : Nat} (h1 : ((m : Int)) ∉ ns) (h2 : ∀ j : Nat, j < m → ((j : Int)) ∈ ns) : mexL ns = m := by
  have hm : m ∈ miss ns := by
    refine List.mem_filter.mpr ⟨List.mem_range.mpr ?_, by simpa using h1⟩
    have := below_len h2
    omega
  have hs : (miss ns).Pairwise (· < ·) := List.Pairwise.filter _ List.pairwise_lt_range
  have hin : ∀ j ∈ miss ns, ¬ j < m := fun j hj hlt => by
    have := (List.mem_filter.mp hj).2
    simp [h2 j hlt] at this
  unfold mexL
  cases e : miss ns with
  | nil => exact absurd e (miss_ne ns)
  | cons x r =>
    rw [e] at hm hs hin
    have h3 := hin x List.mem_cons_self
    have : x = m := by
      rcases List.mem_cons.mp hm with h | h
      · exact h.symm
      · have := (List.pairwise_cons.mp hs).1 m h
        omega
    simp [this]
theorem mexL_spec (ns : List Int) : ((mexL ns : Nat) : Int) ∉ ns ∧ ∀ j : Nat, j < mexL ns → ((j : Int)) ∈ ns := by
  have hs : (miss ns).Pairwise (· < ·) := List.Pairwise.filter _ List.pairwise_lt_range
  unfold mexL
  cases e : miss ns with
  | nil => exact absurd e (miss_ne ns)
  | cons x r =>
    have hx : x ∈ miss ns := by rw [e]; exact List.mem_cons_self
    obtain ⟨h1, h2⟩ := List.mem_filter.mp hx
    refine ⟨by simpa using h2, fun j hj => ?_⟩
    show ((j : Int)) ∈ ns
    have hj' : j < x := hj
    have hjr : j ∈ List.range (ns.length + 1) := List.mem_range.mpr (by have := List.mem_range.mp h1; omega)
    by_cases c : ((j : Int)) ∈ ns
    · exact c
    · have hm : j ∈ miss ns := List.mem_filter.mpr ⟨hjr, by simpa using c⟩
      rw [e] at hm hs
      rcases List.mem_cons.mp hm with h | h
      · omega
      · have := (List.pairwise_cons.mp hs).1 j h
        omega
theorem mexL_congr {xs ys : List Int} (h : ∀ t, t ∈ xs ↔ t ∈ ys) : mexL xs = mexL ys := by
  obtain ⟨h1, h2⟩ := mexL_spec ys
  exact mexL_of (fun q => h1 ((h _).mp q)) (fun j hj => (h _).mpr (h2 j hj))
/-! ### dicts -/
theorem put_fst {κ : Type} [DecidableEq κ] (kvs : List (κ × V)) (k : κ) (v : V) : (putK kvs k v).map (·.1) = if k ∈ kvs.map (·.1) then kvs.map (·.1) else kvs.map (·.1) ++ [k] := by
  unfold putK
  by_cases h : k ∈ kvs.map (·.1)
  · rw [if_pos h, if_pos]
    · rw [List.map_map]
      refine List.map_congr_left fun p _ => ?_
      show (if p.1 = k then (p.1, v) else p).1 = p.1
      by_cases hp : p.1 = k
      · rw [if_pos hp]
      · rw [if_neg hp]
    · obtain ⟨p, hp, e⟩ := List.mem_map.mp h
      exact List.any_eq_true.mpr ⟨p, hp, decide_eq_true e⟩
  · rw [if_neg h, if_neg]
    · rw [List.map_append]
      rfl
    · intro q
      obtain ⟨p, hp, e⟩ := List.any_eq_true.mp q
      exact h (List.mem_map.mpr ⟨p, hp, of_decide_eq_true e⟩)
theorem val_none {κ : Type} [DecidableEq κ] {kvs : List (κ × V)} {k : κ} (h : valV kvs k = none) : k ∉ kvs.map (·.1) := by
  intro q
  obtain ⟨p, hp, e⟩ := List.mem_map.mp q
  unfold valV at h
  rw [Option.map_eq_none_iff, List.find?_eq_none] at h
  exact h p hp (decide_eq_true e)
theorem val_some {κ : Type} [DecidableEq κ] {kvs : List (κ × V)} {k : κ} : (valV kvs k).isSome = decide (k ∈ kvs.map (·.1)) := by
  cases e : valV kvs k with
  | none => rw [decide_eq_false (val_none e)]; rfl
  | some v =>
    have : k ∈ kvs.map (·.1) := by
      unfold valV at e
      cases e2 : kvs.find? (fun kv => decide (kv.1 = k)) with
      | none => rw [e2] at e; cases e
      | some p =>
        have h1 := List.mem_of_find?_eq_some e2
        have h2 : p.1 = k := by have := List.find?_some e2; simpa using this
        exact List.mem_map.mpr ⟨p, h1, h2⟩
    rw [decide_eq_true this]
    rfl
/-- a dict with int keys: which keys there are -/
structure Keys (ks : List (Key × V)) (xs : List Int) : Prop where
  ex : ∃ ns : List Int, ks.map (·.1) = ns.map Sum.inl ∧ ns.Nodup ∧ ∀ t, t ∈ ns ↔ t ∈ xs
theorem Keys.nil : Keys [] [] := ⟨[], rfl, List.nodup_nil, fun t => Iff.rfl⟩
theorem Keys.has {ks : List (Key × V)} {xs : List Int} (h : Keys ks xs) (t : Int) : (valV ks (Sum.inl t)).isSome = decide (t ∈ xs) := by
  obtain ⟨ns, e, _, hm⟩ := h.ex
  rw [val_some, e]
  have : (Sum.inl t : Key) ∈ ns.map Sum.inl ↔ t ∈ xs := by
    rw [← hm t]
    constructor
    · intro q
      obtain ⟨y, hy, ey⟩ := List.mem_map.mp q
      rw [← Sum.inl.inj ey]
      exact hy
    · intro q
      exact List.mem_map.mpr ⟨t, q, rfl⟩
  exact decide_eq_decide.mpr this
theorem Keys.put {ks : List (Key × V)} {xs : List Int} (h : Keys ks xs) (t : Int) (v : V) : Keys (putK ks (Sum.inl t) v) (xs ++ [t]) := by
  obtain ⟨ns, e, nd, hm⟩ := h.ex
  have hi : (Sum.inl t : Key) ∈ ns.map Sum.inl ↔ t ∈ ns := by
    constructor
    · intro q
      obtain ⟨y, hy, ey⟩ := List.mem_map.mp q
      rw [← Sum.inl.inj ey]
      exact hy
    · intro q
      exact List.mem_map.mpr ⟨t, q, rfl⟩
  refine ⟨if t ∈ ns then ns else ns ++ [t], ?_, ?_, fun x => ?_⟩
  · rw [put_fst, e]
    by_cases c : t ∈ ns
    · rw [if_pos (hi.mpr c), if_pos c]
    · rw [if_neg (fun z => c (hi.mp z)), if_neg c, List.map_append]
      rfl
  · by_cases c : t ∈ ns
    · rw [if_pos c]
      exact nd
    · rw [if_neg c]
      refine List.nodup_append.mpr ⟨nd, by simp, ?_⟩
      intro x hx y hy e
      rw [List.mem_singleton] at hy
      exact c (by rw [← hy, ← e]; exact hx)
  · rw [List.mem_append, List.mem_singleton, ← hm x]
    by_cases c : t ∈ ns
    · rw [if_pos c]
      constructor
      · exact .inl
      · rintro (z | z)
        · exact z
        · rw [z]
          exact c
    · rw [if_neg c, List.mem_append, List.mem_singleton]
theorem Keys.len {ks : List (Key × V)} {xs : List Int} (h : Keys ks xs) : ks.length ≤ xs.length := by
  obtain ⟨ns, e, nd, hm⟩ := h.ex
  have h1 := nodup_le (m := xs) nd fun x hx => (hm x).mp hx
  have h2 := congrArg List.length e
  rw [List.length_map, List.length_map] at h2
  omega
end TG


set_option Elab.async false
set_option linter.all false
set_option maxRecDepth 100000
set_option maxHeartbeats 4000000
/-! set(xs), xs a list of ints: a rule beside the hand layer's own for tuples -/
namespace TG
open PySem PySem.Spec PyProof.Rows L2
/-- the new set, still empty -/
abbrev s0 (w : World) : Obj := { cls := .type "set", dict := none, data := .set #[] 0 (.fresh 0 0 (!w.params.followText "set-order")) }
section
variable {P : Program} {w : World} {A : Around} {E : Value → Shared → Prop} {s : Shared}
theorem int_of {items : Array Value} {ns : List Int} (hit : IntsAre items.toList ns) (hsz : items.size = ns.length) (i : Nat) (v : Value) (hv : items[i]? = some v) : ∃ k t, ns[i]? = some k ∧ v = .int k t := by
  have hi : i < ns.length := by rw [← hsz]; exact (Array.getElem?_eq_some_iff.mp hv).1
  obtain ⟨t, e⟩ := IntsAre.int_at hit i v (by rw [Array.getElem?_toList]; exact hv)
  refine ⟨ns[i], t, List.getElem?_eq_getElem hi, ?_⟩
  rw [e, List.getD_eq_getElem?_getD, List.getElem?_eq_getElem hi] <;> rfl
/-- set(xs) -/
theorem set_of_list {l : Addr} {items : Array Value} (ns : List Int) {Q : Value → Shared → Prop} (hh : A.handled = none) (hl : s.heap.IsList l items) (hit : IntsAre items.toList ns) (hb : ns.length + 1 < scanBound)
    (h : ∀ (h' : Heap) (tk c : Nat), SetR w h' s.heap.objs.size (fun j => decide (j ∈ ns)) c → c ≤ ns.length → (∀ b o, s.heap.get? b = some o → h'.get? b = some o) → Q (.ref s.heap.objs.size) { s with heap := h', toks := tk }) :
    wpAny (model P w) A (call (.type "set") [.ref l]) Q E s := by
  have hsz : items.size = ns.length := by
    have q := IntsAre.length hit
    rw [Array.length_toList] at q
    exact q
  obtain ⟨c, tl, hmro⟩ := F.called_set.mro
  have hmade := F.called_set.made
  have hsub := F.called_set.sub
  refine wpAny_call (codeAny_of_tree ?_)
  show wpAny _ _ (callAny (.type "set") _) _ _ _
  refine wpAny_pure ⟨Code.quiet_builtin _ (by decide +kernel), codeAny_builtin F.entry_type_call ?_⟩
  rw [Around.under_plain (weight_type_call_type "set" [.ref l] []) rfl]
  have h1 := F.called_set.notType
  have h2 := F.called_set.canCreate
  have hct := F.typeCall_set_1 (.ref l)
  repeat (any_goals (first | assumption | wp_step))
  refine codeAny_mono (code_set_led1 (.ref l) (E := E) (Q₁ := fun obj s₁ => obj = .ref s.heap.objs.size ∧ s₁ = { s with heap := s.heap.push (s0 w) }) ⟨rfl, rfl⟩) fun r s₁ hr => ?_
  rcases r with e | fl
  · exact hr
  cases fl with
  | ret obj =>
    obtain ⟨rfl, rfl⟩ := hr
    have hS : (s.heap.push (s0 w)).get? s.heap.objs.size = some (s0 w) := Heap.get?_push_size _ rfl
    have hT : Shared.TypeIs { s with heap := s.heap.push (s0 w) } (.ref s.heap.objs.size) "set" := ⟨_, hS, rfl⟩
    have hli := F.called_set.init.lookup
    have hbi := F.called_set.init.bind (.ref s.heap.objs.size)
    repeat (any_goals (first | assumption | wp_step))
    refine codeAny_mono (codeAny_call_builtin (R := wants (fun r s₂ => r = .none ∧ ∃ h' tk c, s₂ = { s with heap := h', toks := tk } ∧ SetR w h' s.heap.objs.size (fun j => decide (j ∈ ns)) c ∧ c ≤ ns.length ∧
      (∀ b o, s.heap.get? b = some o → h'.get? b = some o)) E) F.called_set.init.plain F.entry_set_init (check_set_init_1 hT ?_)) fun r₂ s₂ hr₂ => ?_
    · obtain ⟨ol, hol, hcl, nl, hdl⟩ := hl
      obtain ⟨ocls, odict, odata, oslots⟩ := ol
      simp only at hcl hdl
      subst hcl; subst hdl
      have hol' : (s.heap.push (s0 w)).get? l = some { cls := .type "list", dict := odict, data := .seq items nl, slots := oslots } := Heap.get?_push_of_some _ hol
      have hsls := F.sub_list_set
      have hslf := F.sub_list_frozenset
      have hne : (Value.type "list" == Value.type "dict") = false := by decide
      have hl1 : (s.heap.push (s0 w)).IsList l items := ⟨_, hol', rfl, nl, rfl⟩
      unfold Builtin.«set.__init__» noKeywords Builtin.Frozenset.updateFrom
      generalize hPI : pyIter = PI
      wp_walk
      subst hPI
      refine wpAny_pyIter_list hl1 ?_
      refine wpAny_bind (wpAny_runValue ?_)
      have hlS : l < s.heap.objs.size := Heap.lt_size hol
      have hh3 : A.in1.in1.in1.handled = none := by simp [hh]
      have hz : (s.heap.push (s0 w)).objs.size = s.heap.objs.size + 1 := Heap.size_push ..
      have hneI : l ≠ (s.heap.push (s0 w)).objs.size := by rw [hz]; exact Nat.ne_of_lt (Nat.lt_succ_of_lt hlS)
      have hSf : s.heap.objs.size ∉ [(s.heap.push (s0 w)).objs.size, l] := by
        rw [hz]
        simp only [List.mem_cons, List.not_mem_nil, or_false, not_or]
        exact ⟨Nat.ne_of_lt (Nat.lt_succ_self _), Nat.ne_of_gt hlS⟩
      refine set_update_ints ((Walks.list hh3 _ l hneI items).toS) s.heap.objs.size hSf ns hsz hb (int_of hit hsz) (items.size - 0) 0 _ (by omega) (Nat.zero_le _)
        ⟨⟨_, Heap.get?_push_size _ rfl, rfl, rfl⟩, (hl1.push _)⟩ ⟨0, Nat.le_refl 0, setR_new_at (Heap.get?_push_of_some _ hS)⟩ ?_
      intro s' c' hm hc' hS'
      obtain ⟨h', g2, d', tk', os'⟩ := s'
      have eg : g2 = s.gens := hm.gens
      have ed : d' = s.drawn := hm.drawn
      have eo : os' = s.os := hm.os
      subst eg; subst ed; subst eo
      show wpAny _ _ _ _ _ _
      refine wpAny_pure ?_
      show wpAny _ _ (ret Value.none) _ _ _
      rw [hsz] at hc'
      refine wpAny_pure ⟨rfl, h', tk', c', rfl, hS', hc', fun b o e => ?_⟩
      have hb0 : b < s.heap.objs.size := Heap.lt_size e
      refine hm.heap b o ?_ (Heap.get?_push_of_some _ (Heap.get?_push_of_some _ e))
      rw [hz]
      simp only [List.mem_cons, List.not_mem_nil, or_false, not_or]
      exact ⟨Nat.ne_of_lt hb0, Nat.ne_of_lt (Nat.lt_succ_of_lt hb0)⟩
    · rcases r₂ with e | fl₂
      · exact hr₂
      cases fl₂ with
      | ret r =>
        obtain ⟨rfl, h', tk, c', rfl, hS', hc', hk'⟩ := hr₂
        repeat (any_goals (first | assumption | wp_step))
        exact h _ _ _ hS' hc' hk'
      | _ => exact hr₂.elim
  | _ => exact hr.elim
end
/-- set(xs): the set of the ints of a list -/
def rSetI (K : PySem.W.Frag) (w : World) : List V → Hp → VK → Prop := fun xs H Q => ∃ (l : Addr) (ns : List Int), xs = [.ref l] ∧ SqL K H l (ns.map V.int) ∧ ns.length ≤ 1000 ∧ ∀ p n, H p = none → n ≤ ns.length → Q (.ref p) (upd H p (SetO w p (fun j => decide (j ∈ ns)) n))
theorem cr_setI {X : Cx} (hc : X.calm = true) : CallR X (.type "set") (rSetI X.K X.w) := by
  intro pins s σ H xs us Q I r h
  obtain ⟨l, ns, rfl, hl, hn, q⟩ := h
  rw [Vals.ref1 r]
  obtain ⟨its, rv, pl, hz⟩ := I.list hl
  refine set_of_list ns (I.ok.hd hc) pl.isList (by simpa using rv.ints) (by unfold scanBound; omega) fun h' tk c R hcn k => ?_
  exact ⟨.ref _, upd H s.heap.objs.size (SetO X.w s.heap.objs.size (fun j => decide (j ∈ ns)) c), I.laid (t' := tk) k (Nat.le_refl _) (setO_new R), rfl, q _ c (I.hok.fresh (Nat.le_refl _)) hcn⟩
end TG


set_option Elab.async false
set_option linter.all false
set_option maxRecDepth 100000
set_option maxHeartbeats 4000000
/-! Tuples in tuples as data; the graphs -/
namespace TG
open PySem L2
abbrev N (n : Nat) : V := .int (n : Int)
/-- whatever tuples stood still stand -/
def KpT (H H' : Hp) : Prop := ∀ (K : PySem.W.Frag) (a : Addr) (xs : List V), SqT K H a xs → SqT K H' a xs
theorem KpT.refl {H : Hp} : KpT H H := fun _ _ _ h => h
theorem KpT.trans {H H1 H2 : Hp} (a : KpT H H1) (b : KpT H1 H2) : KpT H H2 := fun K p xs h => b K p xs (a K p xs h)
theorem KpT.same {H H' : Hp} (s : Same H H') : KpT H H' := fun _ _ _ h => sqT s h
theorem KpT.new {H : Hp} {p : Addr} {o : HO} (h : H p = none) : KpT H (upd H p o) := .same (same_new h o)
theorem KpT.off {H H' : Hp} {r : Addr} {ys : List V} (hr : H r = some (.lst ys)) (o : Off r H H') : KpT H H' := fun K p xs h => by
  have key : ∀ u, H p = some u → (∀ zs, u ≠ .lst zs) → H' p = some u := fun u e hu => o p u (fun c => by rw [c, hr] at e; exact hu _ (Option.some.inj e).symm) e
  rcases h with (h | ⟨x, h⟩) | h
  · exact .inl (.inl (key _ h (fun _ z => by cases z)))
  · exact .inl (.inr ⟨x, key _ h (fun _ z => by cases z)⟩)
  · exact .inr h
theorem KpT.upd {H : Hp} {r : Addr} {ys : List V} {o : HO} (hr : H r = some (.lst ys)) : KpT H (upd H r o) := .off hr Off.upd
theorem KpT.row {K : PySem.W.Frag} {a : Addr} {ns : List Int} {H H' : Hp} {r : Addr} (hR : RowA K a ns H r) (ho : ∀ b, b ≠ r → H' b = H b) : KpT H H' := by
  obtain ⟨xs, hx⟩ := hR.there
  exact .off hx (.eq ho)
/-! ### data of tuples alone -/
mutual
def pT : PyData → Bool
  | .none | .bool _ | .int _ | .str _ => true
  | .tuple xs => pTs xs
  | .list _ | .dict _ => false
def pTs : List PyData → Bool
  | [] => true
  | x :: xs => pT x && pTs xs
end
section
variable {K : PySem.W.Frag} {H H' : Hp}
mutual
theorem dp_keep (k : KpT H H') : ∀ (d : PyData) (v : V), pT d = true → Dp K H v d → Dp K H' v d
  | .none, _, _, h => by cases h; exact .non
  | .bool b, _, _, h => by cases h; exact .bl b
  | .int i, _, _, h => by cases h; exact .int i
  | .str x, _, _, h => by cases h; exact .str x
  | .list _, _, p, _ => by unfold pT at p; cases p
  | .dict _, _, p, _ => by unfold pT at p; cases p
  | .tuple ds, _, p, h => by
    cases h with
    | tup hs ha =>
      unfold pT at p
      exact .tup (k K _ _ hs) (dps_keep k ds _ p ha)
theorem dps_keep (k : KpT H H') : ∀ (ds : List PyData) (vs : List V), pTs ds = true → DpAll K H vs ds → DpAll K H' vs ds
  | [], _, _, h => by cases h; exact .nil
  | d :: ds, _, p, h => by
    cases h with
    | cons h1 h2 =>
      unfold pTs at p
      have p' := Bool.and_eq_true_iff.mp p
      exact .cons (dp_keep k d _ p'.1 h1) (dps_keep k ds _ p'.2 h2)
end
theorem dp_tup {v : V} {ds : List PyData} (h : Dp K H v (.tuple ds)) : ∃ a xs, v = .ref a ∧ SqT K H a xs ∧ DpAll K H xs ds := by
  cases h with
  | tup hs ha => exact ⟨_, _, rfl, hs, ha⟩
theorem dps_len : ∀ {ds : List PyData} {xs : List V}, DpAll K H xs ds → xs.length = ds.length
  | [], _, h => by cases h; rfl
  | d :: ds, _, h => by
    cases h with
    | cons h1 h2 => simp [dps_len h2]
theorem dps_get : ∀ {ds : List PyData} {xs : List V}, DpAll K H xs ds → ∀ (i : Nat) (d : PyData), ds[i]? = some d → ∃ x, xs[i]? = some x ∧ Dp K H x d
  | [], _, _, i, d, h => by cases h
  | _ :: ds, _, .cons h1 h2, 0, d, h => by
    cases h
    exact ⟨_, rfl, h1⟩
  | _ :: ds, _, .cons h1 h2, i + 1, d, h => by
    obtain ⟨x, hx, h'⟩ := dps_get h2 i d (by simpa using h)
    exact ⟨x, by simpa using hx, h'⟩
theorem dps_at : ∀ {ds : List PyData} {xs : List V}, DpAll K H xs ds → ∀ (i : Nat) (x : V), xs[i]? = some x → ∃ d, ds[i]? = some d ∧ Dp K H x d
  | [], _, .nil, i, x, h => by cases h
  | _ :: ds, _, .cons h1 h2, 0, d, h => by
    cases h
    exact ⟨_, rfl, h1⟩
  | _ :: ds, _, .cons h1 h2, i + 1, x, h => by
    obtain ⟨d, hd, h'⟩ := dps_at h2 i x (by simpa using h)
    exact ⟨d, by simpa using hd, h'⟩
theorem dps_set : ∀ {ds : List PyData} {xs : List V} {d : PyData} {x : V} (i : Nat), DpAll K H xs ds → Dp K H x d → DpAll K H (xs.set i x) (ds.set i d)
  | [], _, d, x, i, .nil, h => .nil
  | _ :: ds, _, d, x, 0, .cons h1 h2, h => .cons h h2
  | _ :: ds, _, d, x, i + 1, .cons h1 h2, h => .cons h1 (dps_set i h2 h)
theorem dps_rep {d : PyData} {x : V} (h : Dp K H x d) : ∀ n : Nat, DpAll K H (List.replicate n x) (List.replicate n d)
  | 0 => .nil
  | n + 1 => .cons h (dps_rep h n)
theorem dps_app : ∀ {ds es : List PyData} {xs ys : List V}, DpAll K H xs ds → DpAll K H ys es → DpAll K H (xs ++ ys) (ds ++ es)
  | [], _, _, _, .nil, h => h
  | _ :: ds, _, _, _, .cons h1 h2, h => .cons h1 (dps_app h2 h)
theorem dps_take : ∀ {ds : List PyData} {xs : List V} (k : Nat), DpAll K H xs ds → DpAll K H (xs.take k) (ds.take k)
  | [], _, k, .nil => by simp; exact .nil
  | _ :: ds, _, 0, .cons h1 h2 => .nil
  | _ :: ds, _, k + 1, .cons h1 h2 => .cons h1 (dps_take k h2)
theorem dps_drop : ∀ {ds : List PyData} {xs : List V} (k : Nat), DpAll K H xs ds → DpAll K H (xs.drop k) (ds.drop k)
  | [], _, k, .nil => by simp; exact .nil
  | _ :: ds, _, 0, .cons h1 h2 => .cons h1 h2
  | _ :: ds, _, k + 1, .cons h1 h2 => dps_drop k h2
theorem dps_snoc : ∀ {ds : List PyData} {xs : List V} {d : PyData} {x : V}, DpAll K H xs ds → Dp K H x d → DpAll K H (xs ++ [x]) (ds ++ [d])
  | [], _, d, x, .nil, h => .cons h .nil
  | _ :: ds, _, d, x, .cons h1 h2, h => .cons h1 (dps_snoc h2 h)
end
/-! ### rules with the written part named -/
section
variable {X : Cx} {K : PySem.W.Frag} {w : World}
theorem cr_setIK (hK : X.K = K) (hw : X.w = w) (hc : X.calm = true) : CallR X (.type "set") (rSetI K w) := by subst hK hw; exact cr_setI hc
theorem cr_sortedSetK (hw : X.w = w) (hc : X.calm = true) : CallR X (.builtin "sorted") (rSortedSet w) := by subst hw; exact cr_sortedSet hc
theorem pa_starK {e : Expr} {p : Pos} {es : List Expr} {te : TE} {t : TA} (hK : X.K = K) (he : PE X e te) (h : PA X es t) (hs : starEach (.Starred e p :: es) X.env = (true, eval e X.env) :: starEach es X.env := by rfl) : PA X (.Starred e p :: es) (StX.tStar K te t) := by subst hK; exact StX.pa_star he h hs
theorem pi_zipAK {e e2 : Expr} {ta : TA} {p pos tpos : Pos} {elts : List Expr} {kk : Nat} (hK : X.K = K) (hg : Gl X "zip") (hm : X.mg "zip" = none) (ha : PA X [e, e2] ta)
    (hs : starEach [e, e2] X.env = (false, eval e X.env) :: starEach [e2] X.env := by rfl) (hpl : (backTo pos (starEach [e2] X.env)).any (·.1) = false := by rfl) : PI X (.Tuple elts kk tpos) (.Call (.Name "zip" p) [e, e2] [] pos) (RZ.iZipA K ta) := by subst hK; exact RZ.pi_zipA hg hm ha hs hpl
theorem op_inDK (hK : X.K = K) (hu : X.A.units + 65 < cLine) : OpR X (compareOp .In) (rInD K) := by subst hK; exact op_inD hu
theorem op_notInDK (hK : X.K = K) (hu : X.A.units + 65 < cLine) : OpR X (compareOp .NotIn) (rNotInD K) := by subst hK; exact op_notInD hu
theorem units65 {k : Nat} {A : Around} (r : Room k A) : A.units + 65 < cLine := by have := r.un; omega
end
/-- a comprehension over range(n), n below 0 too -/
theorem el_lcR1n {σ : L2.St} {H : Hp} {t : TT} {te : TE} {ta : TA} {j : Nat} {vs : List Nat} {n : Int} (f : Nat → Bool) (v : Nat → V) (h : Evl.EvA ta σ H [.int n]) (hn : -40000 ≤ n ∧ n ≤ 40000) (hw : ∀ x, wipe ((wipe σ vs).set j (some x)) vs = wipe σ vs)
    (ht : ∀ (i : Nat) H1, Evl.Ex H H1 → (i : Int) < n → Evl.EvT t ((wipe σ vs).set j (some (.int (i : Int)))) H1 (f i)) (he : ∀ (i : Nat) H1, Evl.Ex H H1 → (i : Int) < n → f i = true → Evl.Ev te ((wipe σ vs).set j (some (.int (i : Int)))) H1 (v i)) :
    Evl.EvL (tLc (iRng1 ta) (gName j) t te vs) σ H (Evl.given n.toNat f v) := fun H0 e Q q => h H0 e _ fun H1 e1 => ⟨n, rfl, by omega, by omega, fun Dl hD =>
  lc_range (lo := 0) (n := n.toNat) (Evl.Cw H1 f v Dl) ⟨hD, Evl.Ex.new hD, upd_same⟩ (fun i H' hi' p => by
    rw [Int.zero_add]
    exact ⟨hw _, Evl.cw_turn p (by omega) (ht i H1 (e.trans e1) (by omega)) (fun hf => he i H1 (e.trans e1) (by omega) hf)⟩) (fun H' p => q Dl H' (Evl.fresh_back e1 p.1) (e1.trans p.2.1) p.2.2)⟩
/-! ### slices and sums of tuples, whichever object they are -/
section
variable {K : PySem.W.Frag} {H : Hp} {Q : VK}
theorem catA_any {a b : Addr} {xs ys : List V} (ha : SqT K H a xs) (hb : SqT K H b ys) (hz : xs.length + ys.length ≤ sizeLine) (h : ∀ p H', Same H H' → SqT K H' p (xs ++ ys) → Q (.ref p) H') : rCatA K (.ref a) (.ref b) H Q := by
  refine ⟨a, b, xs, ys, rfl, rfl, ha, hb, hz, fun e => ?_, fun _ e => ?_, fun _ _ p hp => h p _ (same_new hp _) (SqT.of upd_same)⟩
  · subst e
    exact h b H (fun _ _ e => e) hb
  · subst e
    refine h a H (fun _ _ e => e) ?_
    rw [List.append_nil]
    exact ha
theorem slA_any {a : Addr} {xs : List V} {lo hi : Option Int} (ha : SqT K H a xs) (h : ∀ p H', Same H H' → SqT K H' p (cutV xs lo hi) → Q (.ref p) H') : rSlA K (.ref a) lo hi H Q := by
  refine ⟨a, xs, rfl, ha, fun e => ?_, fun _ p hp => h p _ (same_new hp _) (SqT.of upd_same)⟩
  have e2 : cutV xs lo hi = xs := by
    unfold cutV
    rw [e.1, e.2]
    simp
  refine h a H (fun _ _ e => e) ?_
  rw [e2]
  exact ha
theorem cut_take (xs : List V) (k : Nat) : cutV xs none (some (k : Int)) = xs.take k := by
  unfold cutV
  rw [HT.sIx_none, HT.sIx_nat]
  simp [List.take_eq_take_iff]
theorem cut_drop (xs : List V) (k : Nat) : cutV xs (some (k : Int)) none = xs.drop k := by
  unfold cutV
  rw [HT.sIx_none, HT.sIx_nat]
  by_cases h : k ≤ xs.length
  · rw [Nat.min_eq_left h]
    exact List.take_of_length_le (by rw [List.length_drop]; omega)
  · rw [Nat.min_eq_right (by omega), List.drop_eq_nil_of_le (Nat.le_refl _), List.drop_eq_nil_of_le (by omega), List.take_nil]
end
/-! ### the graphs -/
/-- a good row of a graph of n nodes -/
def OkRow (n : Nat) (r : List Nat) : Prop := r.Pairwise (· < ·) ∧ (∀ x ∈ r, x < n) ∧ r.length ≤ 60
def rowD (ds : List Nat) : PyData := .tuple (ds.map fun n : Nat => PyData.int (n : Int))
def rowsD (rs : List (List Nat)) : PyData := .tuple (rs.map rowD)
def grD (L R : List (List Nat)) : PyData := .tuple [rowsD L, rowsD R]
theorem pTs_all : ∀ ds : List PyData, (∀ d ∈ ds, pT d = true) → pTs ds = true
  | [], _ => by unfold pTs; rfl
  | d :: ds, h => by
    unfold pTs
    rw [h d List.mem_cons_self, pTs_all ds fun x hx => h x (List.mem_cons_of_mem _ hx)]
    rfl
theorem pT_row (ds : List Nat) : pT (rowD ds) = true := by
  unfold rowD pT
  refine pTs_all _ fun d hd => ?_
  obtain ⟨n, _, rfl⟩ := List.mem_map.mp hd
  unfold pT
  rfl
theorem pT_rows (rs : List (List Nat)) : pT (rowsD rs) = true := by
  unfold rowsD pT
  refine pTs_all _ fun d hd => ?_
  obtain ⟨n, _, rfl⟩ := List.mem_map.mp hd
  exact pT_row n
theorem pT_gr (L R : List (List Nat)) : pT (grD L R) = true := by
  unfold grD pT
  refine pTs_all _ fun d hd => ?_
  simp only [List.mem_cons, List.not_mem_nil, or_false] at hd
  rcases hd with rfl | rfl
  · exact pT_rows _
  · exact pT_rows _
section
variable {K : PySem.W.Frag} {H H' : Hp}
theorem ints_all : ∀ ds : List Nat, DpAll K H (ds.map N) (ds.map fun n : Nat => PyData.int (n : Int))
  | [] => .nil
  | n :: ds => .cons (.int _) (ints_all ds)
theorem ints_back : ∀ {ds : List Nat} {xs : List V}, DpAll K H xs (ds.map fun n : Nat => PyData.int (n : Int)) → xs = ds.map N
  | [], _, .nil => rfl
  | n :: ds, _, .cons h1 h2 => by
    cases h1
    rw [ints_back h2]
    rfl
theorem row_of {a : Addr} {ds : List Nat} (h : SqT K H a (ds.map N)) : Dp K H (.ref a) (rowD ds) := .tup h (ints_all ds)
theorem row_at {v : V} {ds : List Nat} (h : Dp K H v (rowD ds)) : ∃ a, v = .ref a ∧ SqT K H a (ds.map N) := by
  obtain ⟨a, xs, rfl, hs, ha⟩ := dp_tup h
  rw [ints_back ha] at hs
  exact ⟨a, rfl, hs⟩
theorem rows_at {v : V} {rs : List (List Nat)} (h : Dp K H v (rowsD rs)) : ∃ a xs, v = .ref a ∧ SqT K H a xs ∧ xs.length = rs.length ∧ DpAll K H xs (rs.map rowD) := by
  obtain ⟨a, xs, rfl, hs, ha⟩ := dp_tup h
  exact ⟨a, xs, rfl, hs, by rw [dps_len ha, List.length_map], ha⟩
theorem rows_get {rs : List (List Nat)} {xs : List V} (h : DpAll K H xs (rs.map rowD)) {i : Nat} {ds : List Nat} (hi : rs[i]? = some ds) : ∃ b, xs[i]? = some (.ref b) ∧ SqT K H b (ds.map N) := by
  obtain ⟨x, hx, hd⟩ := dps_get h i (rowD ds) (by rw [List.getElem?_map, hi]; rfl)
  obtain ⟨b, rfl, hb⟩ := row_at hd
  exact ⟨b, hx, hb⟩
theorem gr_at {v : V} {L R : List (List Nat)} (h : Dp K H v (grD L R)) : ∃ a l r, v = .ref a ∧ SqT K H a [l, r] ∧ Dp K H l (rowsD L) ∧ Dp K H r (rowsD R) := by
  obtain ⟨a, xs, rfl, hs, ha⟩ := dp_tup h
  cases ha with
  | cons h1 h2 =>
    cases h2 with
    | cons h2 h3 =>
      cases h3
      exact ⟨a, _, _, rfl, hs, h1, h2⟩
theorem gr_of {a : Addr} {l r : V} {L R : List (List Nat)} (h : SqT K H a [l, r]) (h1 : Dp K H l (rowsD L)) (h2 : Dp K H r (rowsD R)) : Dp K H (.ref a) (grD L R) := .tup h (.cons h1 (.cons h2 .nil))
end
/-- rising numbers that are not below 0 -/
theorem nat_list {ns : List Int} (h0 : ∀ x ∈ ns, 0 ≤ x) (hp : ns.Pairwise (· < ·)) : ∃ ds : List Nat, ns.map V.int = ds.map N ∧ ds.Pairwise (· < ·) ∧ ds.length = ns.length ∧ ∀ d, d ∈ ds ↔ ((d : Nat) : Int) ∈ ns := by
  refine ⟨ns.map Int.toNat, ?_, ?_, List.length_map _, fun d => ?_⟩
  · rw [List.map_map]
    refine List.map_congr_left fun x hx => ?_
    have := h0 x hx
    show V.int x = V.int ((x.toNat : Nat) : Int)
    exact congrArg V.int (by omega)
  · rw [List.pairwise_map]
    refine (List.pairwise_iff_forall_sublist.mpr fun {a b} hs => ?_)
    have h1 := List.pairwise_iff_forall_sublist.mp hp hs
    have h2 := h0 a (hs.subset (by simp))
    omega
  · rw [List.mem_map]
    constructor
    · rintro ⟨x, hx, rfl⟩
      have := h0 x hx
      rw [show ((x.toNat : Nat) : Int) = x by omega]
      exact hx
    · intro h
      exact ⟨_, h, by omega⟩
/-! ### equality -/
theorem eqv_tup (xs ys : List PyData) : PyData.eqv (.tuple xs) (.tuple ys) = PyData.eqvAll xs ys := by rw [PyData.eqv]
theorem eqv_ints : ∀ as bs : List Nat, PyData.eqvAll (as.map fun n : Nat => PyData.int (n : Int)) (bs.map fun n : Nat => PyData.int (n : Int)) = decide (as = bs)
  | [], [] => by simp [PyData.eqvAll]
  | [], b :: bs => by simp [PyData.eqvAll]
  | a :: as, [] => by simp [PyData.eqvAll]
  | a :: as, b :: bs => by
    have ih := eqv_ints as bs
    simp only [List.map_cons, PyData.eqvAll, PyData.eqv, ih]
    by_cases h : a = b
    · subst h
      simp
    · have : ¬ ((a : Int) = (b : Int)) := by omega
      simp [h, this]
theorem eqv_row (as bs : List Nat) : PyData.eqv (rowD as) (rowD bs) = decide (as = bs) := by
  unfold rowD
  rw [eqv_tup, eqv_ints]
theorem eqv_rowsAll : ∀ as bs : List (List Nat), PyData.eqvAll (as.map rowD) (bs.map rowD) = decide (as = bs)
  | [], [] => by simp [PyData.eqvAll]
  | [], b :: bs => by simp [PyData.eqvAll]
  | a :: as, [] => by simp [PyData.eqvAll]
  | a :: as, b :: bs => by
    have ih := eqv_rowsAll as bs
    simp only [List.map_cons, PyData.eqvAll, eqv_row, ih]
    by_cases h : a = b
    · subst h
      simp
    · simp [h]
theorem eqv_rows (as bs : List (List Nat)) : PyData.eqv (rowsD as) (rowsD bs) = decide (as = bs) := by
  unfold rowsD
  rw [eqv_tup, eqv_rowsAll]
theorem eqv_gr (L R L' R' : List (List Nat)) : PyData.eqv (grD L R) (grD L' R') = decide (L = L' ∧ R = R') := by
  unfold grD
  rw [eqv_tup]
  simp only [PyData.eqvAll, eqv_rows, Bool.and_true]
  by_cases h : L = L' <;> by_cases h2 : R = R' <;> simp [h, h2]
theorem lay_all : ∀ ds : List PyData, (∀ d ∈ ds, PyData.canLay0 d = true) → PyData.canLayAll0 ds = true
  | [], _ => by rw [PyData.canLayAll0]
  | d :: ds, h => by rw [PyData.canLayAll0, h d List.mem_cons_self, lay_all ds fun x hx => h x (List.mem_cons_of_mem _ hx)]; rfl
theorem depth_all {m : Nat} : ∀ ds : List PyData, (∀ d ∈ ds, PyData.depth d ≤ m) → PyData.depthAll ds ≤ m
  | [], _ => by rw [PyData.depthAll]; exact Nat.zero_le _
  | d :: ds, h => by
    rw [PyData.depthAll]
    exact Nat.max_le.mpr ⟨h d List.mem_cons_self, depth_all ds fun x hx => h x (List.mem_cons_of_mem _ hx)⟩
def Small (m : Nat) (d : PyData) : Prop := PyData.canLay0 d = true ∧ PyData.depth d ≤ m
theorem Small.tuple {m : Nat} {ds : List PyData} (h : ∀ d ∈ ds, Small m d) : Small (m + 1) (.tuple ds) := by
  refine ⟨?_, ?_⟩
  · rw [PyData.canLay0]
    exact lay_all ds fun d hd => (h d hd).1
  · rw [PyData.depth]
    have := depth_all (m := m) ds fun d hd => (h d hd).2
    omega
theorem Small.list {m : Nat} {ds : List PyData} (h : ∀ d ∈ ds, Small m d) : Small (m + 1) (.list ds) := by
  refine ⟨?_, ?_⟩
  · rw [PyData.canLay0]
    exact lay_all ds fun d hd => (h d hd).1
  · rw [PyData.depth]
    have := depth_all (m := m) ds fun d hd => (h d hd).2
    omega
theorem Small.int {m : Nat} (i : Int) : Small m (.int i) := ⟨by rw [PyData.canLay0], by rw [PyData.depth]; exact Nat.zero_le _⟩
theorem Small.ok {m : Nat} {d : PyData} (h : Small m d) (hm : m ≤ 64) : SeqAt.shaped d = true := by
  unfold SeqAt.shaped
  rw [h.1, decide_eq_true (Nat.le_trans h.2 hm)]
  rfl
theorem small_row (ds : List Nat) : Small 1 (rowD ds) := Small.tuple fun d hd => by
  obtain ⟨n, _, rfl⟩ := List.mem_map.mp hd
  exact .int _
theorem small_rows (rs : List (List Nat)) : Small 2 (rowsD rs) := Small.tuple fun d hd => by
  obtain ⟨n, _, rfl⟩ := List.mem_map.mp hd
  exact small_row n
theorem small_gr (L R : List (List Nat)) : Small 3 (grD L R) := Small.tuple fun d hd => by
  simp only [List.mem_cons, List.not_mem_nil, or_false] at hd
  rcases hd with rfl | rfl
  · exact small_rows _
  · exact small_rows _
end TG


set_option Elab.async false
set_option linter.all false
set_option maxRecDepth 100000
set_option maxHeartbeats 4000000
namespace K74
open PySem L2 TG
def top (i : Nat) : Stmt := PySem.Challenge.pw_thermogames_k74_whole_solutions_judged.main.body.getD i (.Pass ⟨0, 0, 0, 0⟩)
abbrev s_is_int : Stmt := top 4
abbrev s_is_in : Stmt := top 5
abbrev s_is_edges : Stmt := top 10
abbrev s_need_graph : Stmt := top 11
abbrev s_back_edges : Stmt := top 12
abbrev s_solved : Stmt := top 13
abbrev s_solution_of : Stmt := top 14
abbrev s_solution : Stmt := top 15
abbrev s_is_told : Stmt := top 16
abbrev s_due_at : Stmt := top 17
abbrev s_shows_solution : Stmt := top 18
abbrev s_law_taken : Stmt := top 20
abbrev s_law_pick : Stmt := top 21
abbrev s_law_alike : Stmt := top 22
abbrev s_law_is : Stmt := top 23
abbrev s_law_graph : Stmt := top 24
abbrev s_law_ends : Stmt := top 25
abbrev s_law_told : Stmt := top 26
abbrev s_law : Stmt := top 27
theorem sc_is_int : FnScope ["value"] ["value"] (defScope s_is_int) := ⟨rfl, rfl, rfl, by decide +kernel, rfl, by decide +kernel, by decide +kernel⟩
theorem sc_is_in : FnScope ["value", "least", "most"] ["value", "least", "most"] (defScope s_is_in) := ⟨rfl, rfl, rfl, by decide +kernel, rfl, by decide +kernel, by decide +kernel⟩
theorem sc_is_edges : FnScope ["many", "value", "told", "at", "node"] ["many", "value"] (defScope s_is_edges) := ⟨rfl, rfl, rfl, by decide +kernel, rfl, by decide +kernel, by decide +kernel⟩
theorem sc_need_graph : FnScope ["value", "many"] ["value"] (defScope s_need_graph) := ⟨rfl, rfl, rfl, by decide +kernel, rfl, by decide +kernel, by decide +kernel⟩
theorem sc_back_edges : FnScope ["graph", "found", "side", "rows", "node", "told", "goal"] ["graph"] (defScope s_back_edges) := ⟨rfl, rfl, rfl, by decide +kernel, rfl, by decide +kernel, by decide +kernel⟩
theorem sc_solved : FnScope ["graph", "behind", "left", "found", "layer", "side", "node", "told", "length", "later", "winner", "before", "place"] ["graph"] (defScope s_solved) := ⟨rfl, rfl, rfl, by decide +kernel, rfl, by decide +kernel, by decide +kernel⟩
theorem sc_solution_of : FnScope ["graph", "found", "rows", "node", "pair", "side", "told"] ["graph"] (defScope s_solution_of) := ⟨rfl, rfl, rfl, by decide +kernel, rfl, by decide +kernel, by decide +kernel⟩
theorem sc_solution : FnScope ["graph"] ["graph"] (defScope s_solution) := ⟨rfl, rfl, rfl, by decide +kernel, rfl, by decide +kernel, by decide +kernel⟩
theorem sc_is_told : FnScope ["value"] ["value"] (defScope s_is_told) := ⟨rfl, rfl, rfl, by decide +kernel, rfl, by decide +kernel, by decide +kernel⟩
theorem sc_due_at : FnScope ["graph", "value", "node", "side", "mine", "other", "told", "won", "goal", "word", "length"] ["graph", "value", "node", "side"] (defScope s_due_at) := ⟨rfl, rfl, rfl, by decide +kernel, rfl, by decide +kernel, by decide +kernel⟩
theorem sc_shows_solution : FnScope ["graph", "value", "many", "pair", "node", "side", "told"] ["graph", "value"] (defScope s_shows_solution) := ⟨rfl, rfl, rfl, by decide +kernel, rfl, by decide +kernel, by decide +kernel⟩
theorem sc_law_taken : FnScope ["_law_row", "_law_many", "_law_found", "_law_cell"] ["_law_row", "_law_many"] (defScope s_law_taken) := ⟨rfl, rfl, rfl, by decide +kernel, rfl, by decide +kernel, by decide +kernel⟩
theorem sc_law_pick : FnScope ["_law_row", "_law_things"] ["_law_row", "_law_things"] (defScope s_law_pick) := ⟨rfl, rfl, rfl, by decide +kernel, rfl, by decide +kernel, by decide +kernel⟩
theorem sc_law_alike : FnScope ["_law_found", "_law_due", "_law_k"] ["_law_found", "_law_due"] (defScope s_law_alike) := ⟨rfl, rfl, rfl, by decide +kernel, rfl, by decide +kernel, by decide +kernel⟩
theorem sc_law_is : FnScope ["_law_found", "_law_due"] ["_law_found", "_law_due"] (defScope s_law_is) := ⟨rfl, rfl, rfl, by decide +kernel, rfl, by decide +kernel, by decide +kernel⟩
theorem sc_law_graph : FnScope ["_law_row", "_law_most", "_law_many", "_law_sides", "_law_side", "_law_rows", "_law_node", "_law_some", "_law_at"] ["_law_row", "_law_most"] (defScope s_law_graph) := ⟨rfl, rfl, rfl, by decide +kernel, rfl, by decide +kernel, by decide +kernel⟩
theorem sc_law_ends : FnScope ["_law_graph_here", "_law_found", "_law_length", "_law_more", "_law_side", "_law_node", "_law_told_here", "_law_place", "_law_goal", "_law_one"] ["_law_graph_here"] (defScope s_law_ends) := ⟨rfl, rfl, rfl, by decide +kernel, rfl, by decide +kernel, by decide +kernel⟩
theorem sc_law_told : FnScope ["_law_graph_here", "_law_found", "_law_rows", "_law_node", "_law_pair", "_law_side", "_law_told_here"] ["_law_graph_here"] (defScope s_law_told) := ⟨rfl, rfl, rfl, by decide +kernel, rfl, by decide +kernel, by decide +kernel⟩
theorem sc_law : FnScope ["_law_script", "_law_row", "_law_graph_here", "_law_due", "_law_node", "_law_side", "_law_told_here", "_law_some", "_law_pair", "_law_bent", "_law_same", "_law_wrong", "_law_all_draws"] ["_law_script"] (defScope s_law) := ⟨rfl, rfl, rfl, by decide +kernel, rfl, by decide +kernel, by decide +kernel⟩
structure Txt (K : PySem.W.Frag) (mg : Str → Option Value) where
  a_is_int : Addr
  d_is_int : FuncData
  F_is_int : Fun K "is_int" "is_int" s_is_int a_is_int d_is_int
  b_is_int : Binds K d_is_int ["value"] []
  g_is_int : mg "is_int" = some (.ref a_is_int)
  a_is_in : Addr
  d_is_in : FuncData
  F_is_in : Fun K "is_in" "is_in" s_is_in a_is_in d_is_in
  b_is_in : Binds K d_is_in ["value", "least", "most"] []
  g_is_in : mg "is_in" = some (.ref a_is_in)
  a_is_edges : Addr
  d_is_edges : FuncData
  F_is_edges : Fun K "is_edges" "is_edges" s_is_edges a_is_edges d_is_edges
  b_is_edges : Binds K d_is_edges ["many", "value"] []
  g_is_edges : mg "is_edges" = some (.ref a_is_edges)
  a_need_graph : Addr
  d_need_graph : FuncData
  F_need_graph : Fun K "need_graph" "need_graph" s_need_graph a_need_graph d_need_graph
  b_need_graph : Binds K d_need_graph ["value"] []
  g_need_graph : mg "need_graph" = some (.ref a_need_graph)
  a_back_edges : Addr
  d_back_edges : FuncData
  F_back_edges : Fun K "back_edges" "back_edges" s_back_edges a_back_edges d_back_edges
  b_back_edges : Binds K d_back_edges ["graph"] []
  g_back_edges : mg "back_edges" = some (.ref a_back_edges)
  a_solved : Addr
  d_solved : FuncData
  F_solved : Fun K "solved" "solved" s_solved a_solved d_solved
  b_solved : Binds K d_solved ["graph"] []
  g_solved : mg "solved" = some (.ref a_solved)
  a_solution_of : Addr
  d_solution_of : FuncData
  F_solution_of : Fun K "solution_of" "solution_of" s_solution_of a_solution_of d_solution_of
  b_solution_of : Binds K d_solution_of ["graph"] []
  g_solution_of : mg "solution_of" = some (.ref a_solution_of)
  a_solution : Addr
  d_solution : FuncData
  F_solution : Fun K "solution" "solution" s_solution a_solution d_solution
  b_solution : Binds K d_solution ["graph"] []
  g_solution : mg "solution" = some (.ref a_solution)
  a_is_told : Addr
  d_is_told : FuncData
  F_is_told : Fun K "is_told" "is_told" s_is_told a_is_told d_is_told
  b_is_told : Binds K d_is_told ["value"] []
  g_is_told : mg "is_told" = some (.ref a_is_told)
  a_due_at : Addr
  d_due_at : FuncData
  F_due_at : Fun K "due_at" "due_at" s_due_at a_due_at d_due_at
  b_due_at : Binds K d_due_at ["graph", "value", "node", "side"] []
  g_due_at : mg "due_at" = some (.ref a_due_at)
  a_shows_solution : Addr
  d_shows_solution : FuncData
  F_shows_solution : Fun K "shows_solution" "shows_solution" s_shows_solution a_shows_solution d_shows_solution
  b_shows_solution : Binds K d_shows_solution ["graph", "value"] []
  g_shows_solution : mg "shows_solution" = some (.ref a_shows_solution)
  a_law_taken : Addr
  d_law_taken : FuncData
  F_law_taken : Fun K "_law_taken" "_law_taken" s_law_taken a_law_taken d_law_taken
  b_law_taken : Binds K d_law_taken ["_law_row", "_law_many"] []
  g_law_taken : mg "_law_taken" = some (.ref a_law_taken)
  a_law_pick : Addr
  d_law_pick : FuncData
  F_law_pick : Fun K "_law_pick" "_law_pick" s_law_pick a_law_pick d_law_pick
  b_law_pick : Binds K d_law_pick ["_law_row", "_law_things"] []
  g_law_pick : mg "_law_pick" = some (.ref a_law_pick)
  a_law_alike : Addr
  d_law_alike : FuncData
  F_law_alike : Fun K "_law_alike" "_law_alike" s_law_alike a_law_alike d_law_alike
  b_law_alike : Binds K d_law_alike ["_law_found", "_law_due"] []
  g_law_alike : mg "_law_alike" = some (.ref a_law_alike)
  a_law_is : Addr
  d_law_is : FuncData
  F_law_is : Fun K "_law_is" "_law_is" s_law_is a_law_is d_law_is
  b_law_is : Binds K d_law_is ["_law_found", "_law_due"] []
  g_law_is : mg "_law_is" = some (.ref a_law_is)
  a_law_graph : Addr
  d_law_graph : FuncData
  F_law_graph : Fun K "_law_graph" "_law_graph" s_law_graph a_law_graph d_law_graph
  b_law_graph : Binds K d_law_graph ["_law_row", "_law_most"] []
  g_law_graph : mg "_law_graph" = some (.ref a_law_graph)
  a_law_ends : Addr
  d_law_ends : FuncData
  F_law_ends : Fun K "_law_ends" "_law_ends" s_law_ends a_law_ends d_law_ends
  b_law_ends : Binds K d_law_ends ["_law_graph_here"] []
  g_law_ends : mg "_law_ends" = some (.ref a_law_ends)
  a_law_told : Addr
  d_law_told : FuncData
  F_law_told : Fun K "_law_told" "_law_told" s_law_told a_law_told d_law_told
  b_law_told : Binds K d_law_told ["_law_graph_here"] []
  g_law_told : mg "_law_told" = some (.ref a_law_told)
  a_law : Addr
  d_law : FuncData
  F_law : Fun K "law" "law" s_law a_law d_law
  b_law : Binds K d_law ["_law_script"] []
  g_law : mg "law" = some (.ref a_law)
  B_law : ∀ (s : Shared) (v : Value), BindsTo s d_law ⟨[v], []⟩ [("_law_script", v)]
  t_MOST_GRAPH : Tok
  c_MOST_GRAPH : mg "MOST_GRAPH" = some (Value.int 60 t_MOST_GRAPH)
  t_DRAW : Tok
  c_DRAW : mg "DRAW" = some (Value.str "draw" t_DRAW)
  t_PLAYERS : Tok
  c_PLAYERS : mg "PLAYERS" = some (Value.str "LR" t_PLAYERS)
  m_len : mg "len" = none
  m_range : mg "range" = none
  m_int : mg "int" = none
  m_bool : mg "bool" = none
  m_str : mg "str" = none
  m_list : mg "list" = none
  m_tuple : mg "tuple" = none
  m_set : mg "set" = none
  m_isinstance : mg "isinstance" = none
  m_enumerate : mg "enumerate" = none
  m_max : mg "max" = none
  m_min : mg "min" = none
  m_all : mg "all" = none
  m_sorted : mg "sorted" = none
theorem txt_mk {K : PySem.W.Frag} {h : Heap} {mg : Str → Option Value} (X : K.In h) (G : h.Ns mainGlobals mg)
    {f0 : Addr} {od0 an0 : Option Addr} {sl0 : Array (Option Value)} {oc0 kV0 dc0 pm0 cd0 ct0 : Value}
    {f1 : Addr} {od1 an1 : Option Addr} {sl1 : Array (Option Value)} {oc1 kV1 dc1 pm1 cd1 ct1 : Value}
    {f2 : Addr} {od2 an2 : Option Addr} {sl2 : Array (Option Value)} {oc2 kV2 dc2 pm2 cd2 ct2 : Value}
    {f3 : Addr} {od3 an3 : Option Addr} {sl3 : Array (Option Value)} {oc3 kV3 dc3 pm3 cd3 ct3 : Value}
    {f4 : Addr} {od4 an4 : Option Addr} {sl4 : Array (Option Value)} {oc4 kV4 dc4 pm4 cd4 ct4 : Value}
    {f5 : Addr} {od5 an5 : Option Addr} {sl5 : Array (Option Value)} {oc5 kV5 dc5 pm5 cd5 ct5 : Value}
    {f6 : Addr} {od6 an6 : Option Addr} {sl6 : Array (Option Value)} {oc6 kV6 dc6 pm6 cd6 ct6 : Value}
    {f7 : Addr} {od7 an7 : Option Addr} {sl7 : Array (Option Value)} {oc7 kV7 dc7 pm7 cd7 ct7 : Value}
    {f8 : Addr} {od8 an8 : Option Addr} {sl8 : Array (Option Value)} {oc8 kV8 dc8 pm8 cd8 ct8 : Value}
    {f9 : Addr} {od9 an9 : Option Addr} {sl9 : Array (Option Value)} {oc9 kV9 dc9 pm9 cd9 ct9 : Value}
    {f10 : Addr} {od10 an10 : Option Addr} {sl10 : Array (Option Value)} {oc10 kV10 dc10 pm10 cd10 ct10 : Value}
    {f11 : Addr} {od11 an11 : Option Addr} {sl11 : Array (Option Value)} {oc11 kV11 dc11 pm11 cd11 ct11 : Value}
    {f12 : Addr} {od12 an12 : Option Addr} {sl12 : Array (Option Value)} {oc12 kV12 dc12 pm12 cd12 ct12 : Value}
    {f13 : Addr} {od13 an13 : Option Addr} {sl13 : Array (Option Value)} {oc13 kV13 dc13 pm13 cd13 ct13 : Value}
    {f14 : Addr} {od14 an14 : Option Addr} {sl14 : Array (Option Value)} {oc14 kV14 dc14 pm14 cd14 ct14 : Value}
    {f15 : Addr} {od15 an15 : Option Addr} {sl15 : Array (Option Value)} {oc15 kV15 dc15 pm15 cd15 ct15 : Value}
    {f16 : Addr} {od16 an16 : Option Addr} {sl16 : Array (Option Value)} {oc16 kV16 dc16 pm16 cd16 ct16 : Value}
    {f17 : Addr} {od17 an17 : Option Addr} {sl17 : Array (Option Value)} {oc17 kV17 dc17 pm17 cd17 ct17 : Value}
    {f18 : Addr} {od18 an18 : Option Addr} {sl18 : Array (Option Value)} {oc18 kV18 dc18 pm18 cd18 ct18 : Value}
    {tk0 : Tok}
    {tk1 : Tok}
    {tk2 : Tok}
    (a0 : PySem.W.nsIn K mainGlobals "is_int" = some (some (.ref f0))) (l0 : K.lookup f0 = some ⟨oc0, od0, .func (PySem.W.fnOf "is_int" "is_int" (defArgs s_is_int) (defBody s_is_int) (defScope s_is_int) .none kV0 dc0 pm0 an0 cd0 ct0), sl0⟩) (c0 : PySem.W.codeIn K cd0 "is_int" = true) (k0 : PySem.W.keepIn K (.ref f0) = true)
    (a1 : PySem.W.nsIn K mainGlobals "is_in" = some (some (.ref f1))) (l1 : K.lookup f1 = some ⟨oc1, od1, .func (PySem.W.fnOf "is_in" "is_in" (defArgs s_is_in) (defBody s_is_in) (defScope s_is_in) .none kV1 dc1 pm1 an1 cd1 ct1), sl1⟩) (c1 : PySem.W.codeIn K cd1 "is_in" = true) (k1 : PySem.W.keepIn K (.ref f1) = true)
    (a2 : PySem.W.nsIn K mainGlobals "is_edges" = some (some (.ref f2))) (l2 : K.lookup f2 = some ⟨oc2, od2, .func (PySem.W.fnOf "is_edges" "is_edges" (defArgs s_is_edges) (defBody s_is_edges) (defScope s_is_edges) .none kV2 dc2 pm2 an2 cd2 ct2), sl2⟩) (c2 : PySem.W.codeIn K cd2 "is_edges" = true) (k2 : PySem.W.keepIn K (.ref f2) = true)
    (a3 : PySem.W.nsIn K mainGlobals "need_graph" = some (some (.ref f3))) (l3 : K.lookup f3 = some ⟨oc3, od3, .func (PySem.W.fnOf "need_graph" "need_graph" (defArgs s_need_graph) (defBody s_need_graph) (defScope s_need_graph) .none kV3 dc3 pm3 an3 cd3 ct3), sl3⟩) (c3 : PySem.W.codeIn K cd3 "need_graph" = true) (k3 : PySem.W.keepIn K (.ref f3) = true)
    (a4 : PySem.W.nsIn K mainGlobals "back_edges" = some (some (.ref f4))) (l4 : K.lookup f4 = some ⟨oc4, od4, .func (PySem.W.fnOf "back_edges" "back_edges" (defArgs s_back_edges) (defBody s_back_edges) (defScope s_back_edges) .none kV4 dc4 pm4 an4 cd4 ct4), sl4⟩) (c4 : PySem.W.codeIn K cd4 "back_edges" = true) (k4 : PySem.W.keepIn K (.ref f4) = true)
    (a5 : PySem.W.nsIn K mainGlobals "solved" = some (some (.ref f5))) (l5 : K.lookup f5 = some ⟨oc5, od5, .func (PySem.W.fnOf "solved" "solved" (defArgs s_solved) (defBody s_solved) (defScope s_solved) .none kV5 dc5 pm5 an5 cd5 ct5), sl5⟩) (c5 : PySem.W.codeIn K cd5 "solved" = true) (k5 : PySem.W.keepIn K (.ref f5) = true)
    (a6 : PySem.W.nsIn K mainGlobals "solution_of" = some (some (.ref f6))) (l6 : K.lookup f6 = some ⟨oc6, od6, .func (PySem.W.fnOf "solution_of" "solution_of" (defArgs s_solution_of) (defBody s_solution_of) (defScope s_solution_of) .none kV6 dc6 pm6 an6 cd6 ct6), sl6⟩) (c6 : PySem.W.codeIn K cd6 "solution_of" = true) (k6 : PySem.W.keepIn K (.ref f6) = true)
    (a7 : PySem.W.nsIn K mainGlobals "solution" = some (some (.ref f7))) (l7 : K.lookup f7 = some ⟨oc7, od7, .func (PySem.W.fnOf "solution" "solution" (defArgs s_solution) (defBody s_solution) (defScope s_solution) .none kV7 dc7 pm7 an7 cd7 ct7), sl7⟩) (c7 : PySem.W.codeIn K cd7 "solution" = true) (k7 : PySem.W.keepIn K (.ref f7) = true)
    (a8 : PySem.W.nsIn K mainGlobals "is_told" = some (some (.ref f8))) (l8 : K.lookup f8 = some ⟨oc8, od8, .func (PySem.W.fnOf "is_told" "is_told" (defArgs s_is_told) (defBody s_is_told) (defScope s_is_told) .none kV8 dc8 pm8 an8 cd8 ct8), sl8⟩) (c8 : PySem.W.codeIn K cd8 "is_told" = true) (k8 : PySem.W.keepIn K (.ref f8) = true)
    (a9 : PySem.W.nsIn K mainGlobals "due_at" = some (some (.ref f9))) (l9 : K.lookup f9 = some ⟨oc9, od9, .func (PySem.W.fnOf "due_at" "due_at" (defArgs s_due_at) (defBody s_due_at) (defScope s_due_at) .none kV9 dc9 pm9 an9 cd9 ct9), sl9⟩) (c9 : PySem.W.codeIn K cd9 "due_at" = true) (k9 : PySem.W.keepIn K (.ref f9) = true)
    (a10 : PySem.W.nsIn K mainGlobals "shows_solution" = some (some (.ref f10))) (l10 : K.lookup f10 = some ⟨oc10, od10, .func (PySem.W.fnOf "shows_solution" "shows_solution" (defArgs s_shows_solution) (defBody s_shows_solution) (defScope s_shows_solution) .none kV10 dc10 pm10 an10 cd10 ct10), sl10⟩) (c10 : PySem.W.codeIn K cd10 "shows_solution" = true) (k10 : PySem.W.keepIn K (.ref f10) = true)
    (a11 : PySem.W.nsIn K mainGlobals "_law_taken" = some (some (.ref f11))) (l11 : K.lookup f11 = some ⟨oc11, od11, .func (PySem.W.fnOf "_law_taken" "_law_taken" (defArgs s_law_taken) (defBody s_law_taken) (defScope s_law_taken) .none kV11 dc11 pm11 an11 cd11 ct11), sl11⟩) (c11 : PySem.W.codeIn K cd11 "_law_taken" = true) (k11 : PySem.W.keepIn K (.ref f11) = true)
    (a12 : PySem.W.nsIn K mainGlobals "_law_pick" = some (some (.ref f12))) (l12 : K.lookup f12 = some ⟨oc12, od12, .func (PySem.W.fnOf "_law_pick" "_law_pick" (defArgs s_law_pick) (defBody s_law_pick) (defScope s_law_pick) .none kV12 dc12 pm12 an12 cd12 ct12), sl12⟩) (c12 : PySem.W.codeIn K cd12 "_law_pick" = true) (k12 : PySem.W.keepIn K (.ref f12) = true)
    (a13 : PySem.W.nsIn K mainGlobals "_law_alike" = some (some (.ref f13))) (l13 : K.lookup f13 = some ⟨oc13, od13, .func (PySem.W.fnOf "_law_alike" "_law_alike" (defArgs s_law_alike) (defBody s_law_alike) (defScope s_law_alike) .none kV13 dc13 pm13 an13 cd13 ct13), sl13⟩) (c13 : PySem.W.codeIn K cd13 "_law_alike" = true) (k13 : PySem.W.keepIn K (.ref f13) = true)
    (a14 : PySem.W.nsIn K mainGlobals "_law_is" = some (some (.ref f14))) (l14 : K.lookup f14 = some ⟨oc14, od14, .func (PySem.W.fnOf "_law_is" "_law_is" (defArgs s_law_is) (defBody s_law_is) (defScope s_law_is) .none kV14 dc14 pm14 an14 cd14 ct14), sl14⟩) (c14 : PySem.W.codeIn K cd14 "_law_is" = true) (k14 : PySem.W.keepIn K (.ref f14) = true)
    (a15 : PySem.W.nsIn K mainGlobals "_law_graph" = some (some (.ref f15))) (l15 : K.lookup f15 = some ⟨oc15, od15, .func (PySem.W.fnOf "_law_graph" "_law_graph" (defArgs s_law_graph) (defBody s_law_graph) (defScope s_law_graph) .none kV15 dc15 pm15 an15 cd15 ct15), sl15⟩) (c15 : PySem.W.codeIn K cd15 "_law_graph" = true) (k15 : PySem.W.keepIn K (.ref f15) = true)
    (a16 : PySem.W.nsIn K mainGlobals "_law_ends" = some (some (.ref f16))) (l16 : K.lookup f16 = some ⟨oc16, od16, .func (PySem.W.fnOf "_law_ends" "_law_ends" (defArgs s_law_ends) (defBody s_law_ends) (defScope s_law_ends) .none kV16 dc16 pm16 an16 cd16 ct16), sl16⟩) (c16 : PySem.W.codeIn K cd16 "_law_ends" = true) (k16 : PySem.W.keepIn K (.ref f16) = true)
    (a17 : PySem.W.nsIn K mainGlobals "_law_told" = some (some (.ref f17))) (l17 : K.lookup f17 = some ⟨oc17, od17, .func (PySem.W.fnOf "_law_told" "_law_told" (defArgs s_law_told) (defBody s_law_told) (defScope s_law_told) .none kV17 dc17 pm17 an17 cd17 ct17), sl17⟩) (c17 : PySem.W.codeIn K cd17 "_law_told" = true) (k17 : PySem.W.keepIn K (.ref f17) = true)
    (a18 : PySem.W.nsIn K mainGlobals "law" = some (some (.ref f18))) (l18 : K.lookup f18 = some ⟨oc18, od18, .func (PySem.W.fnOf "law" "law" (defArgs s_law) (defBody s_law) (defScope s_law) .none kV18 dc18 pm18 an18 cd18 ct18), sl18⟩) (c18 : PySem.W.codeIn K cd18 "law" = true) (k18 : PySem.W.keepIn K (.ref f18) = true)
    (v0 : PySem.W.nsIn K mainGlobals "MOST_GRAPH" = some (some (Value.int 60 tk0)))
    (v1 : PySem.W.nsIn K mainGlobals "DRAW" = some (some (Value.str "draw" tk1)))
    (v2 : PySem.W.nsIn K mainGlobals "PLAYERS" = some (some (Value.str "LR" tk2)))
    (z0 : PySem.W.nsIn K mainGlobals "len" = some none)
    (z1 : PySem.W.nsIn K mainGlobals "range" = some none)
    (z2 : PySem.W.nsIn K mainGlobals "int" = some none)
    (z3 : PySem.W.nsIn K mainGlobals "bool" = some none)
    (z4 : PySem.W.nsIn K mainGlobals "str" = some none)
    (z5 : PySem.W.nsIn K mainGlobals "list" = some none)
    (z6 : PySem.W.nsIn K mainGlobals "tuple" = some none)
    (z7 : PySem.W.nsIn K mainGlobals "set" = some none)
    (z8 : PySem.W.nsIn K mainGlobals "isinstance" = some none)
    (z9 : PySem.W.nsIn K mainGlobals "enumerate" = some none)
    (z10 : PySem.W.nsIn K mainGlobals "max" = some none)
    (z11 : PySem.W.nsIn K mainGlobals "min" = some none)
    (z12 : PySem.W.nsIn K mainGlobals "all" = some none)
    (z13 : PySem.W.nsIn K mainGlobals "sorted" = some none) :
    Nonempty (Txt K mg) :=
  ⟨{ a_is_int := f0, d_is_int := _, F_is_int := fun_mk (st := s_is_int) l0 c0 k0, b_is_int := (fun_mk (st := s_is_int) l0 c0 k0).binds (ps := ["value"]) (fun _ _ _ _ _ _ us hl => match us, hl with | [_], _ => rfl), g_is_int := PySem.W.mg_of X G a0,
     a_is_in := f1, d_is_in := _, F_is_in := fun_mk (st := s_is_in) l1 c1 k1, b_is_in := (fun_mk (st := s_is_in) l1 c1 k1).binds (ps := ["value", "least", "most"]) (fun _ _ _ _ _ _ us hl => match us, hl with | [_, _, _], _ => rfl), g_is_in := PySem.W.mg_of X G a1,
     a_is_edges := f2, d_is_edges := _, F_is_edges := fun_mk (st := s_is_edges) l2 c2 k2, b_is_edges := (fun_mk (st := s_is_edges) l2 c2 k2).binds (ps := ["many", "value"]) (fun _ _ _ _ _ _ us hl => match us, hl with | [_, _], _ => rfl), g_is_edges := PySem.W.mg_of X G a2,
     a_need_graph := f3, d_need_graph := _, F_need_graph := fun_mk (st := s_need_graph) l3 c3 k3, b_need_graph := (fun_mk (st := s_need_graph) l3 c3 k3).binds (ps := ["value"]) (fun _ _ _ _ _ _ us hl => match us, hl with | [_], _ => rfl), g_need_graph := PySem.W.mg_of X G a3,
     a_back_edges := f4, d_back_edges := _, F_back_edges := fun_mk (st := s_back_edges) l4 c4 k4, b_back_edges := (fun_mk (st := s_back_edges) l4 c4 k4).binds (ps := ["graph"]) (fun _ _ _ _ _ _ us hl => match us, hl with | [_], _ => rfl), g_back_edges := PySem.W.mg_of X G a4,
     a_solved := f5, d_solved := _, F_solved := fun_mk (st := s_solved) l5 c5 k5, b_solved := (fun_mk (st := s_solved) l5 c5 k5).binds (ps := ["graph"]) (fun _ _ _ _ _ _ us hl => match us, hl with | [_], _ => rfl), g_solved := PySem.W.mg_of X G a5,
     a_solution_of := f6, d_solution_of := _, F_solution_of := fun_mk (st := s_solution_of) l6 c6 k6, b_solution_of := (fun_mk (st := s_solution_of) l6 c6 k6).binds (ps := ["graph"]) (fun _ _ _ _ _ _ us hl => match us, hl with | [_], _ => rfl), g_solution_of := PySem.W.mg_of X G a6,
     a_solution := f7, d_solution := _, F_solution := fun_mk (st := s_solution) l7 c7 k7, b_solution := (fun_mk (st := s_solution) l7 c7 k7).binds (ps := ["graph"]) (fun _ _ _ _ _ _ us hl => match us, hl with | [_], _ => rfl), g_solution := PySem.W.mg_of X G a7,
     a_is_told := f8, d_is_told := _, F_is_told := fun_mk (st := s_is_told) l8 c8 k8, b_is_told := (fun_mk (st := s_is_told) l8 c8 k8).binds (ps := ["value"]) (fun _ _ _ _ _ _ us hl => match us, hl with | [_], _ => rfl), g_is_told := PySem.W.mg_of X G a8,
     a_due_at := f9, d_due_at := _, F_due_at := fun_mk (st := s_due_at) l9 c9 k9, b_due_at := (fun_mk (st := s_due_at) l9 c9 k9).binds (ps := ["graph", "value", "node", "side"]) (fun _ _ _ _ _ _ us hl => match us, hl with | [_, _, _, _], _ => rfl), g_due_at := PySem.W.mg_of X G a9,
     a_shows_solution := f10, d_shows_solution := _, F_shows_solution := fun_mk (st := s_shows_solution) l10 c10 k10, b_shows_solution := (fun_mk (st := s_shows_solution) l10 c10 k10).binds (ps := ["graph", "value"]) (fun _ _ _ _ _ _ us hl => match us, hl with | [_, _], _ => rfl), g_shows_solution := PySem.W.mg_of X G a10,
     a_law_taken := f11, d_law_taken := _, F_law_taken := fun_mk (st := s_law_taken) l11 c11 k11, b_law_taken := (fun_mk (st := s_law_taken) l11 c11 k11).binds (ps := ["_law_row", "_law_many"]) (fun _ _ _ _ _ _ us hl => match us, hl with | [_, _], _ => rfl), g_law_taken := PySem.W.mg_of X G a11,
     a_law_pick := f12, d_law_pick := _, F_law_pick := fun_mk (st := s_law_pick) l12 c12 k12, b_law_pick := (fun_mk (st := s_law_pick) l12 c12 k12).binds (ps := ["_law_row", "_law_things"]) (fun _ _ _ _ _ _ us hl => match us, hl with | [_, _], _ => rfl), g_law_pick := PySem.W.mg_of X G a12,
     a_law_alike := f13, d_law_alike := _, F_law_alike := fun_mk (st := s_law_alike) l13 c13 k13, b_law_alike := (fun_mk (st := s_law_alike) l13 c13 k13).binds (ps := ["_law_found", "_law_due"]) (fun _ _ _ _ _ _ us hl => match us, hl with | [_, _], _ => rfl), g_law_alike := PySem.W.mg_of X G a13,
     a_law_is := f14, d_law_is := _, F_law_is := fun_mk (st := s_law_is) l14 c14 k14, b_law_is := (fun_mk (st := s_law_is) l14 c14 k14).binds (ps := ["_law_found", "_law_due"]) (fun _ _ _ _ _ _ us hl => match us, hl with | [_, _], _ => rfl), g_law_is := PySem.W.mg_of X G a14,
     a_law_graph := f15, d_law_graph := _, F_law_graph := fun_mk (st := s_law_graph) l15 c15 k15, b_law_graph := (fun_mk (st := s_law_graph) l15 c15 k15).binds (ps := ["_law_row", "_law_most"]) (fun _ _ _ _ _ _ us hl => match us, hl with | [_, _], _ => rfl), g_law_graph := PySem.W.mg_of X G a15,
     a_law_ends := f16, d_law_ends := _, F_law_ends := fun_mk (st := s_law_ends) l16 c16 k16, b_law_ends := (fun_mk (st := s_law_ends) l16 c16 k16).binds (ps := ["_law_graph_here"]) (fun _ _ _ _ _ _ us hl => match us, hl with | [_], _ => rfl), g_law_ends := PySem.W.mg_of X G a16,
     a_law_told := f17, d_law_told := _, F_law_told := fun_mk (st := s_law_told) l17 c17 k17, b_law_told := (fun_mk (st := s_law_told) l17 c17 k17).binds (ps := ["_law_graph_here"]) (fun _ _ _ _ _ _ us hl => match us, hl with | [_], _ => rfl), g_law_told := PySem.W.mg_of X G a17,
     a_law := f18, d_law := _, F_law := fun_mk (st := s_law) l18 c18 k18, b_law := (fun_mk (st := s_law) l18 c18 k18).binds (ps := ["_law_script"]) (fun _ _ _ _ _ _ us hl => match us, hl with | [_], _ => rfl), g_law := PySem.W.mg_of X G a18,
     B_law := fun s v => .of_eq rfl,
     t_MOST_GRAPH := tk0, c_MOST_GRAPH := PySem.W.mg_of X G v0,
     t_DRAW := tk1, c_DRAW := PySem.W.mg_of X G v1,
     t_PLAYERS := tk2, c_PLAYERS := PySem.W.mg_of X G v2,
     m_len := PySem.W.mg_none_of X G z0,
     m_range := PySem.W.mg_none_of X G z1,
     m_int := PySem.W.mg_none_of X G z2,
     m_bool := PySem.W.mg_none_of X G z3,
     m_str := PySem.W.mg_none_of X G z4,
     m_list := PySem.W.mg_none_of X G z5,
     m_tuple := PySem.W.mg_none_of X G z6,
     m_set := PySem.W.mg_none_of X G z7,
     m_isinstance := PySem.W.mg_none_of X G z8,
     m_enumerate := PySem.W.mg_none_of X G z9,
     m_max := PySem.W.mg_none_of X G z10,
     m_min := PySem.W.mg_none_of X G z11,
     m_all := PySem.W.mg_none_of X G z12,
     m_sorted := PySem.W.mg_none_of X G z13 }⟩
end K74


set_option Elab.async false
set_option linter.all false
set_option maxRecDepth 100000
set_option maxHeartbeats 4000000
/-! Maps of graphs: prefixes that fit, in plain lists -/
namespace GM
open PySem L2
def row (S : List (List Nat)) (a : Nat) : List Nat := S.getD a []
def im (l : List Nat) (a : Nat) : Nat := l.getD a 0
/-- the last node of the prefix l fits -/
def Fit1 (F S : List (List Nat)) (l : List Nat) : Prop :=
  (row F (l.length - 1)).length = (row S (im l (l.length - 1))).length ∧ ∀ t, t ≤ l.length - 1 → ((t ∈ row F (l.length - 1)) ↔ im l t ∈ row S (im l (l.length - 1))) ∧ ((l.length - 1 ∈ row F t) ↔ im l (l.length - 1) ∈ row S (im l t))
def Fit (L R L' R' : List (List Nat)) (l : List Nat) : Prop := Fit1 L L' l ∧ Fit1 R R' l
/-- nodes, each once -/
def Inj (n : Nat) (l : List Nat) : Prop := l.Nodup ∧ ∀ x ∈ l, x < n
/-- full goes on from l, and fits all the way behind it -/
structure Good (L R L' R' : List (List Nat)) (n : Nat) (l full : List Nat) : Prop where
  pre : full.take l.length = l
  len : full.length = n
  inj : Inj n full
  fit : ∀ j, l.length < j → j ≤ n → Fit L R L' R' (full.take j)
theorem Good.le {L R L' R' : List (List Nat)} {n : Nat} {l full : List Nat} (g : Good L R L' R' n l full) : l.length ≤ n := by
  have h1 := congrArg List.length g.pre
  rw [List.length_take, g.len] at h1
  omega
/-- one further -/
theorem Good.step {L R L' R' : List (List Nat)} {n : Nat} {l full : List Nat} (g : Good L R L' R' n l full) (hl : l.length < n) :
    ∃ x, x < n ∧ x ∉ l ∧ Fit L R L' R' (l ++ [x]) ∧ Good L R L' R' n (l ++ [x]) full := by
  have hlt : l.length < full.length := by rw [g.len]; exact hl
  have e : full.take (l.length + 1) = l ++ [full[l.length]] := by rw [List.take_succ_eq_append_getElem hlt, g.pre]
  refine ⟨full[l.length], g.inj.2 _ (List.getElem_mem hlt), fun hm => ?_, ?_, ⟨?_, g.len, g.inj, fun j h1 h2 => ?_⟩⟩
  · have hn : (l ++ [full[l.length]]).Nodup := by
      rw [← e]
      exact (List.take_sublist _ _).nodup g.inj.1
    have := (List.nodup_append.mp hn).2.2 _ hm _ (List.mem_singleton.mpr rfl)
    exact this rfl
  · rw [← e]
    exact g.fit _ (by omega) (by omega)
  · rw [List.length_append]
    exact e
  · refine g.fit j ?_ h2
    rw [List.length_append] at h1
    have : [full[l.length]].length = 1 := rfl
    omega
theorem Good.back {L R L' R' : List (List Nat)} {n : Nat} {l full : List Nat} {x : Nat} (g : Good L R L' R' n (l ++ [x]) full) (hf : Fit L R L' R' (l ++ [x])) : Good L R L' R' n l full := by
  have hlen : (l ++ [x]).length = l.length + 1 := by simp
  refine ⟨?_, g.len, g.inj, fun j h1 h2 => ?_⟩
  · have e := congrArg (List.take l.length) g.pre
    rw [List.take_take, hlen, Nat.min_eq_left (by omega)] at e
    rw [e]
    simp
  · by_cases c : j = l.length + 1
    · have e := g.pre
      rw [hlen] at e
      rw [c, e]
      exact hf
    · exact g.fit j (by omega) h2
theorem good_full {L R L' R' : List (List Nat)} {n : Nat} {l : List Nat} (hl : l.length = n) (hi : Inj n l) : Good L R L' R' n l l := ⟨List.take_length, hl, hi, fun j h1 h2 => by omega⟩
/-! ### what the graph moved by a list of names is -/
def MovedOf (names : List Nat) (n : Nat) (S A : List (List Nat)) : Prop := A.length = n ∧ ∀ a, a < n → (row A (im names a)).Pairwise (· ≤ ·) ∧ (row A (im names a)).Perm ((row S a).map (im names))
theorem im_get {l : List Nat} {a : Nat} (h : a < l.length) : im l a = l[a] := by
  unfold im
  rw [List.getD_eq_getElem?_getD, List.getElem?_eq_getElem h]
  rfl
theorem row_get {S : List (List Nat)} {a : Nat} (h : a < S.length) : row S a = S[a] := by
  unfold row
  rw [List.getD_eq_getElem?_getD, List.getElem?_eq_getElem h]
  rfl
theorem im_inj {n : Nat} {l : List Nat} (hi : Inj n l) {a b : Nat} (ha : a < l.length) (hb : b < l.length) (e : im l a = im l b) : a = b := by
  rw [im_get ha, im_get hb] at e
  exact (List.getElem_inj hi.1).mp e
theorem im_onto {n : Nat} {l : List Nat} (hi : Inj n l) (hl : l.length = n) {m : Nat} (hm : m < n) : ∃ a, a < n ∧ im l a = m := by
  have h1 : m ∈ l := by
    refine Classical.byContradiction fun hno => ?_
    have := TG.nodup_le (l := m :: l) (m := List.range n) (List.nodup_cons.mpr ⟨hno, hi.1⟩) (fun x hx => by
      rw [List.mem_range]
      rcases List.mem_cons.mp hx with h | h
      · omega
      · exact hi.2 x h)
    rw [List.length_range, List.length_cons] at this
    omega
  obtain ⟨a, ha, e⟩ := List.getElem_of_mem h1
  exact ⟨a, by omega, by rw [im_get ha, e]⟩
theorem rise_ext : ∀ {l m : List Nat}, l.Pairwise (· < ·) → m.Pairwise (· < ·) → (∀ x, x ∈ l ↔ x ∈ m) → l = m
  | [], [], _, _, _ => rfl
  | [], y :: m, _, _, h => absurd ((h y).mpr List.mem_cons_self) List.not_mem_nil
  | x :: l, [], _, _, h => absurd ((h x).mp List.mem_cons_self) List.not_mem_nil
  | x :: l, y :: m, hl, hm, h => by
    have hl' := List.pairwise_cons.mp hl
    have hm' := List.pairwise_cons.mp hm
    have e : x = y := by
      have h1 := (h x).mp List.mem_cons_self
      have h2 := (h y).mpr List.mem_cons_self
      rcases List.mem_cons.mp h1 with h1 | h1
      · exact h1
      · rcases List.mem_cons.mp h2 with h2 | h2
        · exact h2.symm
        · have a := hm'.1 x h1
          have b := hl'.1 y h2
          omega
    subst e
    rw [rise_ext hl'.2 hm'.2 fun z => ?_]
    have hz := h z
    constructor
    · intro hzl
      rcases List.mem_cons.mp (hz.mp (List.mem_cons_of_mem _ hzl)) with e | h'
      · have := hl'.1 z hzl
        omega
      · exact h'
    · intro hzm
      rcases List.mem_cons.mp (hz.mpr (List.mem_cons_of_mem _ hzm)) with e | h'
      · have := hm'.1 z hzm
        omega
      · exact h'
theorem rise_of {l : List Nat} (h1 : l.Pairwise (· ≤ ·)) (h2 : l.Nodup) : l.Pairwise (· < ·) := by
  refine List.Pairwise.imp₂ (fun a b h h' => ?_) h1 h2
  have : a ≠ b := h'
  omega
theorem row_ok {n : Nat} {S : List (List Nat)} (h : ∀ r ∈ S, TG.OkRow n r) (a : Nat) : TG.OkRow n (row S a) := by
  by_cases c : a < S.length
  · rw [row_get c]
    exact h _ (List.getElem_mem c)
  · unfold row
    rw [List.getD_eq_getElem?_getD, List.getElem?_eq_none (by omega)]
    exact ⟨List.Pairwise.nil, fun x hx => (List.not_mem_nil hx).elim, Nat.zero_le _⟩
/-- each node and what it becomes have the same options -/
def Alike (n : Nat) (F S : List (List Nat)) (l : List Nat) : Prop := ∀ a, a < n → (row F a).length = (row S (im l a)).length ∧ ∀ b, b < n → (b ∈ row F a ↔ im l b ∈ row S (im l a))
theorem alike_fit {n : Nat} {F S : List (List Nat)} {l : List Nat} (hl : l.length = n) : Alike n F S l ↔ ∀ j, 1 ≤ j → j ≤ n → Fit1 F S (l.take j) := by
  have ht : ∀ j, j ≤ n → (l.take j).length = j := fun j h => by rw [List.length_take]; omega
  have hi : ∀ j t, j ≤ n → t < j → im (l.take j) t = im l t := fun j t h1 h2 => by
    rw [im_get (by rw [ht j h1]; exact h2), im_get (by omega), List.getElem_take]
  constructor
  · intro h j h1 h2
    unfold Fit1
    rw [ht j h2, hi j (j - 1) h2 (by omega)]
    refine ⟨(h (j - 1) (by omega)).1, fun t htj => ?_⟩
    rw [hi j t h2 (by omega)]
    exact ⟨(h (j - 1) (by omega)).2 t (by omega), (h t (by omega)).2 (j - 1) (by omega)⟩
  · intro h a ha
    have hf := h (a + 1) (by omega) (by omega)
    unfold Fit1 at hf
    rw [ht (a + 1) (by omega), Nat.add_sub_cancel, hi (a + 1) a (by omega) (by omega)] at hf
    refine ⟨hf.1, fun b hb => ?_⟩
    by_cases c : b ≤ a
    · have := (hf.2 b c).1
      rw [hi (a + 1) b (by omega) (by omega)] at this
      exact this
    · have hf := h (b + 1) (by omega) (by omega)
      unfold Fit1 at hf
      rw [ht (b + 1) (by omega), Nat.add_sub_cancel, hi (b + 1) b (by omega) (by omega)] at hf
      have := (hf.2 a (by omega)).2
      rw [hi (b + 1) a (by omega) (by omega)] at this
      exact this
theorem alike_moved {n : Nat} {F S A : List (List Nat)} {l : List Nat} (hl : l.length = n) (hi : Inj n l) (hF : ∀ r ∈ F, TG.OkRow n r) (hS : ∀ r ∈ S, TG.OkRow n r) (hSl : S.length = n) (hA : MovedOf l n F A) : Alike n F S l ↔ A = S := by
  have hmem : ∀ a, a < n → ∀ b, b < n → (im l b ∈ (row F a).map (im l) ↔ b ∈ row F a) := fun a ha b hb => by
    rw [List.mem_map]
    constructor
    · rintro ⟨c, hc, e⟩
      have hcn := (row_ok hF a).2.1 c hc
      rw [← im_inj hi (by omega) (by omega) e]
      exact hc
    · intro h
      exact ⟨b, h, rfl⟩
  constructor
  · intro h
    refine List.ext_getElem (by rw [hA.1, hSl]) fun m h1 h2 => ?_
    obtain ⟨a, ha, e⟩ := im_onto hi hl (m := m) (by omega)
    rw [← row_get h1, ← row_get h2, ← e]
    have hp := hA.2 a ha
    have hnd : (row A (im l a)).Nodup := by
      rw [hp.2.nodup_iff]
      refine List.Pairwise.map _ (R := fun x y => x < n ∧ y < n ∧ x ≠ y) (fun x y hxy e => hxy.2.2 (im_inj hi (by omega) (by omega) e)) ?_
      have ok := row_ok hF a
      refine List.Pairwise.imp_of_mem (fun {x y} hx hy hxy => ⟨ok.2.1 x hx, ok.2.1 y hy, by omega⟩) ok.1
    refine rise_ext (rise_of hp.1 hnd) (row_ok hS _).1 fun x => ?_
    rw [hp.2.mem_iff]
    constructor
    · intro hx
      obtain ⟨b, hb, rfl⟩ := List.mem_map.mp hx
      exact ((h a ha).2 b ((row_ok hF a).2.1 b hb)).mp hb
    · intro hx
      obtain ⟨b, hb, rfl⟩ := im_onto hi hl ((row_ok hS _).2.1 x hx)
      exact List.mem_map.mpr ⟨b, ((h a ha).2 b hb).mpr hx, rfl⟩
  · rintro rfl a ha
    have hp := (hA.2 a ha).2
    refine ⟨by rw [hp.length_eq, List.length_map], fun b hb => ?_⟩
    rw [hp.mem_iff, hmem a ha b hb]
/-- the maps found are those that move the one graph to the other -/
theorem good_moved {n : Nat} {L R L' R' A B : List (List Nat)} {l : List Nat} (hl : l.length = n) (hi : Inj n l) (h1 : 1 ≤ n) (h0 : l.take 1 = [0]) (hL : ∀ r ∈ L, TG.OkRow n r) (hR : ∀ r ∈ R, TG.OkRow n r) (hL' : ∀ r ∈ L', TG.OkRow n r) (hR' : ∀ r ∈ R', TG.OkRow n r)
    (lL : L'.length = n) (lR : R'.length = n) (hA : MovedOf l n L A) (hB : MovedOf l n R B) : (Fit L R L' R' [0] ∧ Good L R L' R' n [0] l) ↔ (A = L' ∧ B = R') := by
  rw [← alike_moved hl hi hL hL' lL hA, ← alike_moved hl hi hR hR' lR hB, alike_fit hl, alike_fit hl]
  constructor
  · rintro ⟨f0, g⟩
    have all : ∀ j, 1 ≤ j → j ≤ n → Fit L R L' R' (l.take j) := fun j j1 j2 => by
      by_cases c : j = 1
      · rw [c, h0]
        exact f0
      · exact g.fit j (by show 1 < j; omega) j2
    exact ⟨fun j j1 j2 => (all j j1 j2).1, fun j j1 j2 => (all j j1 j2).2⟩
  · rintro ⟨f1, f2⟩
    refine ⟨?_, ⟨h0, hl, hi, fun j j1 j2 => ⟨f1 j (Nat.le_of_lt j1) j2, f2 j (Nat.le_of_lt j1) j2⟩⟩⟩
    rw [← h0]
    exact ⟨f1 1 (Nat.le_refl _) h1, f2 1 (Nat.le_refl _) h1⟩
/-! ### all orders -/
def ins (x : Nat) (l : List Nat) : List (List Nat) := (List.range (l.length + 1)).map fun i => l.take i ++ [x] ++ l.drop i
/-- all orders of 1 .. m -/
def ord : Nat → List (List Nat)
  | 0 => [[]]
  | m + 1 => (ord m).flatMap (ins (m + 1))
def orders (n : Nat) : List (List Nat) := (ord (n - 1)).map fun l => 0 :: l
def lists (n : Nat) : Nat → List (List Nat)
  | 0 => [[]]
  | k + 1 => (List.range n).flatMap fun x => (lists n k).map fun l => x :: l
theorem in_lists {n : Nat} : ∀ {k : Nat} {l : List Nat}, l.length = k → (∀ x ∈ l, x < n) → l ∈ lists n k
  | 0, [], _, _ => List.mem_singleton.mpr rfl
  | 0, x :: l, h, _ => by cases h
  | k + 1, [], h, _ => by cases h
  | k + 1, x :: l, h, hx => by
    refine List.mem_flatMap.mpr ⟨x, List.mem_range.mpr (hx x List.mem_cons_self), List.mem_map.mpr ⟨l, in_lists (Nat.succ.inj h) fun y hy => hx y (List.mem_cons_of_mem _ hy), rfl⟩⟩
theorem five {p : Nat → Prop} (h1 : p 1) (h2 : p 2) (h3 : p 3) (h4 : p 4) (h5 : p 5) {n : Nat} (a : 1 ≤ n) (b : n ≤ 5) : p n := by
  match n, a, b with
  | 1, _, _ => exact h1
  | 2, _, _ => exact h2
  | 3, _, _ => exact h3
  | 4, _, _ => exact h4
  | 5, _, _ => exact h5
def okB (n : Nat) (l : List Nat) : Bool := decide (l.length = n) && decide l.Nodup && l.all (fun x => decide (x < n)) && decide (l.take 1 = [0])
theorem orders_okB {n : Nat} (a : 1 ≤ n) (b : n ≤ 5) : (orders n).all (okB n) = true := five (p := fun n => (orders n).all (okB n) = true) (by decide +kernel) (by decide +kernel) (by decide +kernel) (by decide +kernel) (by decide +kernel) a b
theorem orders_ok {n : Nat} (a : 1 ≤ n) (b : n ≤ 5) {l : List Nat} (h : l ∈ orders n) : l.length = n ∧ Inj n l ∧ l.take 1 = [0] := by
  have := List.all_eq_true.mp (orders_okB a b) l h
  unfold okB at this
  simp only [Bool.and_eq_true, decide_eq_true_eq, List.all_eq_true] at this
  exact ⟨this.1.1.1, ⟨this.1.1.2, this.1.2⟩, this.2⟩
def allB (n : Nat) : Bool := (lists n (n - 1)).all fun l => !decide (0 :: l).Nodup || decide (0 :: l ∈ orders n)
theorem orders_allB {n : Nat} (a : 1 ≤ n) (b : n ≤ 5) : allB n = true := five (p := fun n => allB n = true) (by decide +kernel) (by decide +kernel) (by decide +kernel) (by decide +kernel) (by decide +kernel) a b
theorem orders_all {n : Nat} (a : 1 ≤ n) (b : n ≤ 5) {l : List Nat} (hl : l.length = n) (hi : Inj n l) (h0 : l.take 1 = [0]) : l ∈ orders n := by
  match l, h0 with
  | [], h0 => cases h0
  | x :: l, h0 =>
    have e : x = 0 := (List.cons.inj h0).1
    subst e
    have h1 := List.all_eq_true.mp (orders_allB a b) l (in_lists (by rw [List.length_cons] at hl; omega) fun y hy => hi.2 y (List.mem_cons_of_mem _ hy))
    simp only [Bool.or_eq_true, Bool.not_eq_true', decide_eq_false_iff_not, decide_eq_true_eq] at h1
    rcases h1 with h1 | h1
    · exact absurd hi.1 h1
    · exact h1
theorem orders_len {n : Nat} (a : 1 ≤ n) (b : n ≤ 5) : (orders n).length ≤ 24 ∧ 1 ≤ (orders n).length := five (p := fun n => (orders n).length ≤ 24 ∧ 1 ≤ (orders n).length) (by decide +kernel) (by decide +kernel) (by decide +kernel) (by decide +kernel) (by decide +kernel) a b
theorem rise_len {n : Nat} {l : List Nat} (h1 : l.Pairwise (· < ·)) (h2 : ∀ x ∈ l, x < n) : l.length ≤ n := by
  have hn : l.Nodup := h1.imp fun {a b} h => Nat.ne_of_lt h
  have := TG.nodup_le (l := l) (m := List.range n) hn fun x hx => List.mem_range.mpr (h2 x hx)
  rw [List.length_range] at this
  exact this
theorem moved_ok {n : Nat} {F A : List (List Nat)} {l : List Nat} (hl : l.length = n) (hi : Inj n l) (hn : n ≤ 60) (hF : ∀ r ∈ F, TG.OkRow n r) (hA : MovedOf l n F A) : ∀ r ∈ A, TG.OkRow n r := by
  intro r hr
  obtain ⟨m, hm, e⟩ := List.getElem_of_mem hr
  obtain ⟨a, ha, e2⟩ := im_onto hi hl (m := m) (by rw [← hA.1]; exact hm)
  have er : r = row A (im l a) := by rw [e2, row_get hm, e]
  have hp := hA.2 a ha
  have ok := row_ok hF a
  have hnd : (row A (im l a)).Nodup := by
    rw [hp.2.nodup_iff]
    refine List.Pairwise.map _ (R := fun x y => x < n ∧ y < n ∧ x ≠ y) (fun x y hxy e => hxy.2.2 (im_inj hi (by omega) (by omega) e)) ?_
    refine List.Pairwise.imp_of_mem (fun {x y} hx hy hxy => ⟨ok.2.1 x hx, ok.2.1 y hy, by omega⟩) ok.1
  have hlt : ∀ x ∈ row A (im l a), x < n := fun x hx => by
    obtain ⟨b, hb, rfl⟩ := List.mem_map.mp (hp.2.mem_iff.mp hx)
    have := ok.2.1 b hb
    rw [im_get (by omega)]
    exact hi.2 _ (List.getElem_mem _)
  rw [er]
  exact ⟨rise_of hp.1 hnd, hlt, Nat.le_trans (rise_len (rise_of hp.1 hnd) hlt) hn⟩
theorem ok_more {n m : Nat} {r : List Nat} (h : TG.OkRow n r) (hm : n ≤ m) : TG.OkRow m r := ⟨h.1, fun x hx => Nat.lt_of_lt_of_le (h.2.1 x hx) hm, h.2.2⟩
theorem range_im (ds : List Nat) : (List.range ds.length).map (im ds) = ds := by
  refine List.ext_getElem (by simp) fun i h1 h2 => ?_
  rw [List.getElem_map, List.getElem_range, im_get h2]
theorem given_filter (ds : List Nat) (p : Nat → Bool) : Evl.given ds.length (fun i => p (im ds i)) (fun i => TG.N (im ds i)) = (ds.filter p).map TG.N := by
  unfold Evl.given
  have e := congrArg (List.filter p) (range_im ds)
  rw [List.filter_map] at e
  rw [← e, List.map_map]
  rfl
/-- one option more or less -/
def flip (ds : List Nat) (g : Nat) : List Nat := ds.filter (fun z => decide (z ≠ g)) ++ if g ∈ ds then [] else [g]
theorem flip_ok {n : Nat} {ds es : List Nat} {g : Nat} (h : TG.OkRow n ds) (hg : g < n) (hn : n ≤ 60) (hp : es.Perm (flip ds g)) (hs : es.Pairwise (· ≤ ·)) : TG.OkRow n es := by
  have hnd : ds.Nodup := h.1.imp fun {a b} h => Nat.ne_of_lt h
  have hfn : (flip ds g).Nodup := by
    unfold flip
    refine List.nodup_append.mpr ⟨hnd.filter _, ?_, fun x hx y hy => ?_⟩
    · split <;> simp
    · have h1 := (List.mem_filter.mp hx).2
      split at hy
      · cases hy
      · rw [List.mem_singleton] at hy
        rw [hy]
        exact of_decide_eq_true h1
  have hlt : ∀ x ∈ es, x < n := fun x hx => by
    have := hp.mem_iff.mp hx
    unfold flip at this
    rcases List.mem_append.mp this with h1 | h1
    · exact h.2.1 x (List.mem_filter.mp h1).1
    · split at h1
      · cases h1
      · rw [List.mem_singleton] at h1
        omega
  have hr := rise_of hs (hp.nodup_iff.mpr hfn)
  exact ⟨hr, hlt, Nat.le_trans (rise_len hr hlt) hn⟩
/-- sorted ints that come from naturals -/
theorem nat_perm {ms : List Int} {ds : List Nat} (hp : ms.Perm (ds.map fun m : Nat => (m : Int))) (hs : ms.Pairwise (· ≤ ·)) : ∃ es : List Nat, ms.map V.int = es.map TG.N ∧ es.Perm ds ∧ es.Pairwise (· ≤ ·) := by
  refine ⟨ms.map Int.toNat, ?_, ?_, ?_⟩
  · rw [List.map_map]
    refine List.map_congr_left fun z hz => ?_
    obtain ⟨y, _, rfl⟩ := List.mem_map.mp (hp.mem_iff.mp hz)
    rfl
  · have := hp.map Int.toNat
    rw [List.map_map] at this
    have e : ds.map (Int.toNat ∘ fun m : Nat => (m : Int)) = ds := by
      conv => rhs; rw [← List.map_id ds]
      exact List.map_congr_left fun z _ => rfl
    rw [e] at this
    exact this
  · rw [List.pairwise_map]
    exact hs.imp fun {x y} h => by omega
end GM


set_option Elab.async false
set_option linter.all false
set_option maxRecDepth 100000
set_option maxHeartbeats 4000000
/-! Who wins on a graph, by stages -/
namespace SV
open GM
/-- the options of the side s -/
def side (L R : List (List Nat)) (s : Nat) : List (List Nat) := if s = 0 then L else R
def op (L R : List (List Nat)) (s v : Nat) : List Nat := row (side L R s) v
/-- the winner, as far as it is decided before the stage k; s is to move at v -/
def D (o : Nat → Nat → List Nat) : Nat → Nat → Nat → Option Nat
  | 0, _, _ => none
  | k + 1, s, v => match D o k s v with
    | some w => some w
    | none => if ∃ q ∈ o s v, D o k (1 - s) q = some s then some s else if ∀ q ∈ o s v, D o k (1 - s) q = some (1 - s) then some (1 - s) else none
section
variable {o : Nat → Nat → List Nat}
theorem D_succ {k s v w : Nat} (h : D o k s v = some w) : D o (k + 1) s v = some w := by
  simp only [D, h]
theorem D_none {k s v : Nat} (h : D o k s v = none) : D o (k + 1) s v = if ∃ q ∈ o s v, D o k (1 - s) q = some s then some s else if ∀ q ∈ o s v, D o k (1 - s) q = some (1 - s) then some (1 - s) else none := by
  simp only [D, h]
theorem D_mono {k m s v w : Nat} (h : D o k s v = some w) (hm : k ≤ m) : D o m s v = some w := by
  induction hm with
  | refl => exact h
  | step _ ih => exact D_succ ih
/-- the winner is one of the two -/
theorem D_two : ∀ {k s v w : Nat}, s < 2 → D o k s v = some w → w = s ∨ w = 1 - s
  | 0, s, v, w, _, h => by simp only [D] at h; cases h
  | k + 1, s, v, w, hs, h => by
    cases hk : D o k s v with
    | some w' =>
      rw [D_succ hk] at h
      cases h
      exact D_two hs hk
    | none =>
      rw [D_none hk] at h
      split at h
      · exact .inl (Option.some.inj h).symm
      · split at h
        · exact .inr (Option.some.inj h).symm
        · cases h
/-- decided at the stage k -/
def At (o : Nat → Nat → List Nat) (k s v w : Nat) : Prop := D o k s v = none ∧ D o (k + 1) s v = some w
theorem at_won {k s v : Nat} (h : D o k s v = none) (hq : ∃ q ∈ o s v, D o k (1 - s) q = some s) : At o k s v s := by
  refine ⟨h, ?_⟩
  rw [D_none h, if_pos hq]
theorem at_lost {k s v : Nat} (hs : s < 2) (h : D o k s v = none) (hn : ¬ ∃ q ∈ o s v, D o k (1 - s) q = some s) (hq : ∀ q ∈ o s v, D o k (1 - s) q ≠ none) : At o k s v (1 - s) := by
  refine ⟨h, ?_⟩
  rw [D_none h, if_neg hn, if_pos]
  intro q hm
  cases hd : D o k (1 - s) q with
  | none => exact absurd hd (hq q hm)
  | some w =>
    rcases D_two (by omega) hd with e | e
    · rw [e]
    · have e2 : 1 - (1 - s) = s := by omega
      rw [e2] at e
      exact absurd ⟨q, hm, by rw [hd, e]⟩ hn
theorem at_back {k s v w : Nat} (h : At o k s v w) : (w = s ∧ ∃ q ∈ o s v, D o k (1 - s) q = some s) ∨ (w = 1 - s ∧ (¬ ∃ q ∈ o s v, D o k (1 - s) q = some s) ∧ ∀ q ∈ o s v, D o k (1 - s) q = some (1 - s)) := by
  have h2 := h.2
  rw [D_none h.1] at h2
  split at h2
  · rename_i hq
    exact .inl ⟨(Option.some.inj h2).symm, hq⟩
  · rename_i hn
    split at h2
    · rename_i hq
      exact .inr ⟨(Option.some.inj h2).symm, hn, hq⟩
    · cases h2
/-- nothing new at a stage: nothing new ever -/
theorem D_still {n k : Nat} (ho : ∀ s v, s < 2 → v < n → ∀ q ∈ o s v, q < n) (h : ∀ s v w, s < 2 → v < n → ¬ At o k s v w) : ∀ m, k ≤ m → ∀ s v, s < 2 → v < n → D o m s v = D o k s v := by
  intro m hm
  induction hm with
  | refl => intros; rfl
  | @step m hm ih =>
    intro s v hs hv
    have hkm : k ≤ m := hm
    cases hk : D o k s v with
    | some w => exact D_mono hk (Nat.le_succ_of_le hkm)
    | none =>
      have hm0 : D o m s v = none := by rw [ih s v hs hv, hk]
      have hno : D o (k + 1) s v = none := by
        cases hd : D o (k + 1) s v with
        | none => rfl
        | some w => exact absurd ⟨hk, hd⟩ (h s v w hs hv)
      rw [D_none hk] at hno
      show D o (m + 1) s v = none
      rw [D_none hm0]
      have e : ∀ q ∈ o s v, D o m (1 - s) q = D o k (1 - s) q := fun q hq => ih (1 - s) q (by omega) (ho s v hs hv q hq)
      have e1 : (∃ q ∈ o s v, D o m (1 - s) q = some s) ↔ ∃ q ∈ o s v, D o k (1 - s) q = some s := by
        constructor
        · rintro ⟨q, hq, h⟩
          exact ⟨q, hq, by rw [← e q hq]; exact h⟩
        · rintro ⟨q, hq, h⟩
          exact ⟨q, hq, by rw [e q hq]; exact h⟩
      have e2 : (∀ q ∈ o s v, D o m (1 - s) q = some (1 - s)) ↔ ∀ q ∈ o s v, D o k (1 - s) q = some (1 - s) := by
        constructor
        · intro h q hq
          rw [← e q hq]
          exact h q hq
        · intro h q hq
          rw [e q hq]
          exact h q hq
      simp only [e1, e2]
      exact hno
end
/-! ### the middle of a stage -/
def Later (o : Nat → Nat → List Nat) (k : Nat) (hd : Nat → Nat → Nat → Bool) (s v : Nat) : Prop := D o k s v = none ∧ ((∃ q ∈ o s v, hd s v q = true ∧ D o k (1 - s) q = some s) ∨ ∀ q ∈ o s v, hd s v q = true)
/-- at the end of a stage those found later are those of the next -/
theorem later_end {o : Nat → Nat → List Nat} {k : Nat} {hd : Nat → Nat → Nat → Bool} {s v : Nat} (all : ∀ q, q ∈ o s v → (hd s v q = true ↔ D o k (1 - s) q ≠ none)) (hs : s < 2) : Later o k hd s v ↔ ∃ w, At o k s v w := by
  constructor
  · rintro ⟨h0, h⟩
    by_cases c : ∃ q ∈ o s v, D o k (1 - s) q = some s
    · exact ⟨s, at_won h0 c⟩
    · rcases h with ⟨q, hq, _, h2⟩ | h
      · exact absurd ⟨q, hq, h2⟩ c
      · exact ⟨1 - s, at_lost hs h0 c fun q hq => (all q hq).mp (h q hq)⟩
  · rintro ⟨w, h⟩
    refine ⟨h.1, ?_⟩
    rcases at_back h with ⟨_, q, hq, h2⟩ | ⟨_, _, h2⟩
    · exact .inl ⟨q, hq, (all q hq).mpr (by rw [h2]; simp), h2⟩
    · exact .inr fun q hq => (all q hq).mpr (by rw [h2 q hq]; simp)
/-- edges not yet told off -/
def open' (o : Nat → Nat → List Nat) (hd : Nat → Nat → Nat → Bool) (s v : Nat) : Nat := ((o s v).filter fun q => !hd s v q).length
structure Sta (o : Nat → Nat → List Nat) (n k : Nat) (hd : Nat → Nat → Nat → Bool) (f : Nat → Nat → Int) (g : Nat → Nat → Option (Nat × Nat)) (ps : List (Nat × Nat)) : Prop where
  left : ∀ s v, s < 2 → v < n → f s v = (open' o hd s v : Nat)
  old : ∀ s v w j, s < 2 → v < n → j < k → At o j s v w → g s v = some (w, j)
  new : ∀ s v, s < 2 → v < n → Later o k hd s v → ∃ w, g s v = some (w, k) ∧ (w = s ∨ w = 1 - s) ∧ (w = s ↔ ∃ q ∈ o s v, hd s v q = true ∧ D o k (1 - s) q = some s)
  non : ∀ s v, s < 2 → v < n → D o k s v = none → ¬ Later o k hd s v → g s v = none
  mem : ∀ v s, (v, s) ∈ ps ↔ v < n ∧ s < 2 ∧ Later o k hd s v
  nd : ps.Nodup
def tell (hd : Nat → Nat → Nat → Bool) (s v q : Nat) : Nat → Nat → Nat → Bool := fun a b c => hd a b c || (decide (a = s) && decide (b = v) && decide (c = q))
theorem D_at {o : Nat → Nat → List Nat} {s v w : Nat} : ∀ {k : Nat}, D o k s v = some w → ∃ j, j < k ∧ At o j s v w
  | 0, h => by simp only [D] at h; cases h
  | k + 1, h => by
    cases hk : D o k s v with
    | none => exact ⟨k, Nat.lt_succ_self k, hk, h⟩
    | some w' =>
      rw [D_succ hk] at h
      cases h
      obtain ⟨j, hj, hA⟩ := D_at hk
      exact ⟨j, Nat.lt_succ_of_lt hj, hA⟩
theorem At.uniq {o : Nat → Nat → List Nat} {s v w w' j j' : Nat} (h : At o j s v w) (h' : At o j' s v w') : j = j' ∧ w = w' := by
  have key : ∀ {j j' w w'}, At o j s v w → At o j' s v w' → ¬ j < j' := fun h h' hlt => by
    have := D_mono h.2 (Nat.succ_le_of_lt hlt)
    rw [h'.1] at this
    cases this
  have e : j = j' := by
    have a := key h h'
    have b := key h' h
    omega
  subst e
  have := h.2.symm.trans h'.2
  cases this
  exact ⟨rfl, rfl⟩
theorem filter_one {l : List Nat} (hn : l.Nodup) {q : Nat} (hq : q ∈ l) (p : Nat → Bool) (hp : p q = true) : (l.filter p).length = (l.filter fun x => p x && !decide (x = q)).length + 1 := by
  induction l with
  | nil => cases hq
  | cons x l ih =>
    have hn' := List.nodup_cons.mp hn
    rcases List.mem_cons.mp hq with e | hq
    · subst e
      have hno : ∀ y ∈ l, (p y && !decide (y = q)) = p y := fun y hy => by
        have : y ≠ q := fun e => hn'.1 (by rw [← e]; exact hy)
        simp [this]
      rw [List.filter_cons_of_pos hp, List.filter_cons_of_neg (by simp), List.length_cons, List.filter_congr hno]
    · have hne : x ≠ q := fun e => hn'.1 (by rw [e]; exact hq)
      have ih' := ih hn'.2 hq
      by_cases hx : p x = true
      · rw [List.filter_cons_of_pos hx, List.filter_cons_of_pos (by simp [hx, hne]), List.length_cons, List.length_cons, ih']
      · rw [List.filter_cons_of_neg hx, List.filter_cons_of_neg (by simp [hx]), ih']
theorem open_tell {o : Nat → Nat → List Nat} {hd : Nat → Nat → Nat → Bool} {s v q : Nat} (hn : (o s v).Nodup) (hq : q ∈ o s v) (h0 : hd s v q = false) : open' o hd s v = open' o (tell hd s v q) s v + 1 := by
  unfold open'
  rw [filter_one hn hq (fun q => !hd s v q) (by simp [h0])]
  congr 2
  refine List.filter_congr fun x _ => ?_
  unfold tell
  by_cases e : x = q <;> simp [e]
theorem open_other {o : Nat → Nat → List Nat} {hd : Nat → Nat → Nat → Bool} {s v q a b : Nat} (h : ¬ (a = s ∧ b = v)) : open' o (tell hd s v q) a b = open' o hd a b := by
  unfold open'
  congr 1
  refine List.filter_congr fun x _ => ?_
  unfold tell
  by_cases e1 : a = s
  · by_cases e2 : b = v
    · exact absurd ⟨e1, e2⟩ h
    · simp [e2]
  · simp [e1]
theorem tell_other {hd : Nat → Nat → Nat → Bool} {s v q a b c : Nat} (h : ¬ (a = s ∧ b = v)) : tell hd s v q a b c = hd a b c := by
  unfold tell
  by_cases e1 : a = s
  · by_cases e2 : b = v
    · exact absurd ⟨e1, e2⟩ h
    · simp [e2]
  · simp [e1]
theorem later_other {o : Nat → Nat → List Nat} {k : Nat} {hd : Nat → Nat → Nat → Bool} {s v q a b : Nat} (h : ¬ (a = s ∧ b = v)) : Later o k (tell hd s v q) a b ↔ Later o k hd a b := by
  unfold Later
  simp only [tell_other h]
/-- one edge more -/
theorem Sta.edge {o : Nat → Nat → List Nat} {n k : Nat} {hd : Nat → Nat → Nat → Bool} {f : Nat → Nat → Int} {g : Nat → Nat → Option (Nat × Nat)} {ps : List (Nat × Nat)} (S : Sta o n k hd f g ps) {s v q w : Nat} (hs : s < 2) (hv : v < n) (hn : (o s v).Nodup) (hq : q ∈ o s v) (h0 : hd s v q = false) (hw : D o k (1 - s) q = some w) :
    ((g s v = none ∧ (w = s ∨ f s v - 1 = 0)) → Sta o n k (tell hd s v q) (fun a b => if a = s ∧ b = v then f s v - 1 else f a b) (fun a b => if a = s ∧ b = v then some (w, k) else g a b) (ps ++ [(v, s)])) ∧
    (¬ (g s v = none ∧ (w = s ∨ f s v - 1 = 0)) → Sta o n k (tell hd s v q) (fun a b => if a = s ∧ b = v then f s v - 1 else f a b) g ps) := by
  have hleft : ∀ a b, a < 2 → b < n → (if a = s ∧ b = v then f s v - 1 else f a b) = (open' o (tell hd s v q) a b : Nat) := fun a b ha hb => by
    by_cases e : a = s ∧ b = v
    · rw [if_pos e, e.1, e.2, S.left s v hs hv, open_tell hn hq h0]
      omega
    · rw [if_neg e, open_other e]
      exact S.left a b ha hb
  have hL : ∀ a b, ¬ (a = s ∧ b = v) → (Later o k (tell hd s v q) a b ↔ Later o k hd a b) := fun a b e => later_other e
  have tq : tell hd s v q s v q = true := by unfold tell; simp
  have tmono : ∀ c, hd s v c = true → tell hd s v q s v c = true := fun c h => by unfold tell; simp [h]
  have tback : ∀ c, c ≠ q → tell hd s v q s v c = true → hd s v c = true := fun c hc h => by
    unfold tell at h
    simpa [hc] using h
  have hw2 : w = s ∨ w = 1 - s := by
    rcases D_two (by omega) hw with e | e
    · exact .inr e
    · exact .inl (by omega)
  have zero : f s v - 1 = 0 ↔ ∀ c ∈ o s v, tell hd s v q s v c = true := by
    have e := hleft s v hs hv
    rw [if_pos ⟨rfl, rfl⟩] at e
    rw [e]
    unfold open'
    constructor
    · intro h c hc
      have h' : ((o s v).filter fun q' => !tell hd s v q s v q') = [] := List.length_eq_zero_iff.mp (by omega)
      have := List.filter_eq_nil_iff.mp h' c hc
      simpa using this
    · intro h
      have h' : ((o s v).filter fun q' => !tell hd s v q s v q') = [] := List.filter_eq_nil_iff.mpr fun c hc => by simp [h c hc]
      rw [h']
      rfl
  have none_iff : g s v = none → D o k s v = none ∧ ¬ Later o k hd s v := fun h => by
    have hDn : D o k s v = none := by
      cases hd' : D o k s v with
      | none => rfl
      | some w' =>
        obtain ⟨j, hj, hA⟩ := D_at hd'
        rw [S.old s v w' j hs hv hj hA] at h
        cases h
    refine ⟨hDn, fun hl => ?_⟩
    obtain ⟨w', e, _⟩ := S.new s v hs hv hl
    rw [e] at h
    cases h
  refine ⟨fun hc => ?_, fun hc => ?_⟩
  · obtain ⟨hg, hcond⟩ := hc
    obtain ⟨hDn, hnl⟩ := none_iff hg
    have hlat : Later o k (tell hd s v q) s v := by
      refine ⟨hDn, ?_⟩
      rcases hcond with e | e
      · exact .inl ⟨q, hq, tq, by rw [hw, e]⟩
      · exact .inr (zero.mp e)
    refine ⟨hleft, fun a b w' j ha hb hj hA => ?_, fun a b ha hb hl => ?_, fun a b ha hb hd' hl => ?_, fun b a => ?_, ?_⟩
    · by_cases e : a = s ∧ b = v
      · rw [e.1, e.2] at hA
        have := D_mono hA.2 (Nat.succ_le_of_lt hj)
        rw [hDn] at this
        cases this
      · show (if _ then _ else _) = _
        rw [if_neg e]
        exact S.old a b w' j ha hb hj hA
    · by_cases e : a = s ∧ b = v
      · obtain ⟨rfl, rfl⟩ := e
        refine ⟨w, if_pos ⟨rfl, rfl⟩, hw2, ?_⟩
        constructor
        · intro e
          exact ⟨q, hq, tq, by rw [hw, e]⟩
        · rintro ⟨c, hc, h1, h2⟩
          by_cases ec : c = q
          · subst ec
            rw [hw] at h2
            exact Option.some.inj h2
          · exact absurd ⟨hDn, .inl ⟨c, hc, tback c ec h1, h2⟩⟩ hnl
      · obtain ⟨w', h1, h2, h3⟩ := S.new a b ha hb ((hL a b e).mp hl)
        refine ⟨w', ?_, h2, ?_⟩
        · show (if _ then _ else _) = _
          rw [if_neg e]
          exact h1
        · simp only [tell_other e]
          exact h3
    · by_cases e : a = s ∧ b = v
      · obtain ⟨rfl, rfl⟩ := e
        exact absurd hlat hl
      · show (if _ then _ else _) = _
        rw [if_neg e]
        exact S.non a b ha hb hd' (fun h => hl ((hL a b e).mpr h))
    · rw [List.mem_append, List.mem_singleton, S.mem]
      by_cases e : a = s ∧ b = v
      · obtain ⟨rfl, rfl⟩ := e
        exact ⟨fun _ => ⟨hv, hs, hlat⟩, fun _ => .inr rfl⟩
      · constructor
        · rintro (⟨h1, h2, h3⟩ | h)
          · exact ⟨h1, h2, (hL a b e).mpr h3⟩
          · cases h
            exact absurd ⟨rfl, rfl⟩ e
        · rintro ⟨h1, h2, h3⟩
          exact .inl ⟨h1, h2, (hL a b e).mp h3⟩
    · refine List.nodup_append.mpr ⟨S.nd, by simp, fun x hx y hy e => ?_⟩
      rw [List.mem_singleton] at hy
      rw [e, hy] at hx
      exact hnl ((S.mem v s).mp hx).2.2
  · have keep : Later o k (tell hd s v q) s v → Later o k hd s v ∧ ∀ w', g s v = some (w', k) → (w' = s ↔ ∃ c ∈ o s v, hd s v c = true ∧ D o k (1 - s) c = some s) → (w' = s ↔ ∃ c ∈ o s v, tell hd s v q s v c = true ∧ D o k (1 - s) c = some s) := by
      intro hl
      have hold : Later o k hd s v := by
        refine Classical.byContradiction fun hnl => ?_
        have hg := S.non s v hs hv hl.1 hnl
        refine hc ⟨hg, ?_⟩
        rcases hl.2 with ⟨c, hcm, h1, h2⟩ | h
        · by_cases ec : c = q
          · subst ec
            rw [hw] at h2
            exact .inl (Option.some.inj h2)
          · exact absurd ⟨hl.1, .inl ⟨c, hcm, tback c ec h1, h2⟩⟩ hnl
        · exact .inr (zero.mpr h)
      refine ⟨hold, fun w' hg' hiff => ?_⟩
      rcases hold.2 with hex | hall
      · have e : w' = s := hiff.mpr hex
        obtain ⟨c, hcm, h1, h2⟩ := hex
        exact ⟨fun _ => ⟨c, hcm, tmono c h1, h2⟩, fun _ => e⟩
      · rw [hall q hq] at h0
        cases h0
    have keep2 : Later o k hd s v → Later o k (tell hd s v q) s v := fun h => ⟨h.1, by
      rcases h.2 with ⟨c, hcm, h1, h2⟩ | h
      · exact .inl ⟨c, hcm, tmono c h1, h2⟩
      · exact .inr fun c hcm => tmono c (h c hcm)⟩
    refine ⟨hleft, S.old, fun a b ha hb hl => ?_, fun a b ha hb hd' hl => ?_, fun b a => ?_, S.nd⟩
    · by_cases e : a = s ∧ b = v
      · obtain ⟨rfl, rfl⟩ := e
        obtain ⟨hold, hk⟩ := keep hl
        obtain ⟨w', h1, h2, h3⟩ := S.new a b ha hb hold
        exact ⟨w', h1, h2, hk w' h1 h3⟩
      · obtain ⟨w', h1, h2, h3⟩ := S.new a b ha hb ((hL a b e).mp hl)
        refine ⟨w', h1, h2, ?_⟩
        simp only [tell_other e]
        exact h3
    · by_cases e : a = s ∧ b = v
      · obtain ⟨rfl, rfl⟩ := e
        exact S.non a b ha hb hd' fun h => hl (keep2 h)
      · exact S.non a b ha hb hd' fun h => hl ((hL a b e).mpr h)
    · rw [S.mem]
      by_cases e : a = s ∧ b = v
      · obtain ⟨rfl, rfl⟩ := e
        exact ⟨fun h => ⟨h.1, h.2.1, keep2 h.2.2⟩, fun h => ⟨h.1, h.2.1, (keep h.2.2).1⟩⟩
      · rw [hL a b e]
theorem later_congr {o : Nat → Nat → List Nat} {k : Nat} {hd hd' : Nat → Nat → Nat → Bool} {s v : Nat} (e : ∀ q ∈ o s v, hd s v q = hd' s v q) : Later o k hd s v ↔ Later o k hd' s v := by
  unfold Later
  constructor
  · rintro ⟨h0, ⟨q, hq, h1, h2⟩ | h⟩
    · exact ⟨h0, .inl ⟨q, hq, by rw [← e q hq]; exact h1, h2⟩⟩
    · exact ⟨h0, .inr fun q hq => by rw [← e q hq]; exact h q hq⟩
  · rintro ⟨h0, ⟨q, hq, h1, h2⟩ | h⟩
    · exact ⟨h0, .inl ⟨q, hq, by rw [e q hq]; exact h1, h2⟩⟩
    · exact ⟨h0, .inr fun q hq => by rw [e q hq]; exact h q hq⟩
theorem open_congr {o : Nat → Nat → List Nat} {hd hd' : Nat → Nat → Nat → Bool} {s v : Nat} (e : ∀ q ∈ o s v, hd s v q = hd' s v q) : open' o hd s v = open' o hd' s v := by
  unfold open'
  congr 1
  exact List.filter_congr fun q hq => by rw [e q hq]
theorem Sta.congr {o : Nat → Nat → List Nat} {n k : Nat} {hd hd' : Nat → Nat → Nat → Bool} {f : Nat → Nat → Int} {g : Nat → Nat → Option (Nat × Nat)} {ps : List (Nat × Nat)} (S : Sta o n k hd f g ps) (e : ∀ s v q, s < 2 → v < n → q ∈ o s v → hd s v q = hd' s v q) : Sta o n k hd' f g ps := by
  refine ⟨fun s v hs hv => ?_, S.old, fun s v hs hv hl => ?_, fun s v hs hv h0 hl => ?_, fun v s => ?_, S.nd⟩
  · rw [S.left s v hs hv, open_congr fun q hq => e s v q hs hv hq]
  · obtain ⟨w, h1, h2, h3⟩ := S.new s v hs hv ((later_congr fun q hq => e s v q hs hv hq).mpr hl)
    refine ⟨w, h1, h2, h3.trans ?_⟩
    constructor
    · rintro ⟨q, hq, h1, h2⟩
      exact ⟨q, hq, by rw [← e s v q hs hv hq]; exact h1, h2⟩
    · rintro ⟨q, hq, h1, h2⟩
      exact ⟨q, hq, by rw [e s v q hs hv hq]; exact h1, h2⟩
  · exact S.non s v hs hv h0 fun h => hl ((later_congr fun q hq => e s v q hs hv hq).mp h)
  · rw [S.mem]
    constructor
    · rintro ⟨h1, h2, h3⟩
      exact ⟨h1, h2, (later_congr fun q hq => e s v q h2 h1 hq).mp h3⟩
    · rintro ⟨h1, h2, h3⟩
      exact ⟨h1, h2, (later_congr fun q hq => e s v q h2 h1 hq).mpr h3⟩
/-- told off before the stage k: the edges to what is decided -/
def hdk (o : Nat → Nat → List Nat) (k : Nat) : Nat → Nat → Nat → Bool := fun s _ q => (D o k (1 - s) q).isSome
structure Head (o : Nat → Nat → List Nat) (n k : Nat) (f : Nat → Nat → Int) (g : Nat → Nat → Option (Nat × Nat)) (ps : List (Nat × Nat)) : Prop where
  left : ∀ s v, s < 2 → v < n → f s v = (open' o (hdk o k) s v : Nat)
  old : ∀ s v w j, s < 2 → v < n → j ≤ k → At o j s v w → g s v = some (w, j)
  non : ∀ s v, s < 2 → v < n → D o (k + 1) s v = none → g s v = none
  mem : ∀ v s, (v, s) ∈ ps ↔ v < n ∧ s < 2 ∧ ∃ w, At o k s v w
  nd : ps.Nodup
theorem hdk_iff {o : Nat → Nat → List Nat} {k s v q : Nat} : hdk o k s v q = true ↔ D o k (1 - s) q ≠ none := by
  unfold hdk
  cases D o k (1 - s) q <;> simp
theorem Head.start {o : Nat → Nat → List Nat} {n k : Nat} {f : Nat → Nat → Int} {g : Nat → Nat → Option (Nat × Nat)} {ps : List (Nat × Nat)} (h : Head o n k f g ps) : Sta o n (k + 1) (hdk o k) f g [] := by
  have no : ∀ s v, s < 2 → ¬ Later o (k + 1) (hdk o k) s v := by
    rintro s v hs ⟨h0, h1⟩
    have hk : D o k s v = none := by
      cases hd : D o k s v with
      | none => rfl
      | some w => rw [D_succ hd] at h0; cases h0
    rcases h1 with ⟨q, hq, h1, h2⟩ | h1
    · have h3 := hdk_iff.mp h1
      cases hd : D o k (1 - s) q with
      | none => exact h3 hd
      | some w =>
        rw [D_succ hd] at h2
        rw [h2] at hd
        rw [(at_won hk ⟨q, hq, hd⟩).2] at h0
        cases h0
    · by_cases c : ∃ q ∈ o s v, D o k (1 - s) q = some s
      · rw [(at_won hk c).2] at h0
        cases h0
      · rw [(at_lost hs hk c fun q hq => hdk_iff.mp (h1 q hq)).2] at h0
        cases h0
  exact ⟨h.left, fun s v w j hs hv hj hA => h.old s v w j hs hv (by omega) hA, fun s v hs hv hl => absurd hl (no s v hs), fun s v hs hv h0 _ => h.non s v hs hv h0, fun v s => ⟨fun h => (List.not_mem_nil h).elim, fun h => absurd h.2.2 (no s v h.2.1)⟩, List.nodup_nil⟩
theorem Sta.finish {o : Nat → Nat → List Nat} {n k : Nat} {hd : Nat → Nat → Nat → Bool} {f : Nat → Nat → Int} {g : Nat → Nat → Option (Nat × Nat)} {ps : List (Nat × Nat)} (S : Sta o n k hd f g ps) (all : ∀ s v q, s < 2 → v < n → q ∈ o s v → (hd s v q = true ↔ D o k (1 - s) q ≠ none)) : Head o n k f g ps := by
  have hl : ∀ s v, s < 2 → v < n → (Later o k hd s v ↔ ∃ w, At o k s v w) := fun s v hs hv => later_end (fun q hq => all s v q hs hv hq) hs
  refine ⟨fun s v hs hv => ?_, fun s v w j hs hv hj hA => ?_, fun s v hs hv h0 => ?_, fun v s => ?_, S.nd⟩
  · rw [S.left s v hs hv]
    congr 1
    refine open_congr fun q hq => ?_
    have h1 := all s v q hs hv hq
    have h2 := hdk_iff (o := o) (k := k) (s := s) (v := v) (q := q)
    cases hd1 : hd s v q <;> cases hd2 : hdk o k s v q <;> simp_all
  · by_cases c : j < k
    · exact S.old s v w j hs hv c hA
    · have e : j = k := by omega
      subst e
      obtain ⟨w', h1, h2, h3⟩ := S.new s v hs hv ((hl s v hs hv).mpr ⟨w, hA⟩)
      have ew : w' = w := by
        rcases at_back hA with ⟨e, q, hq, h⟩ | ⟨e, hn, _⟩
        · rw [e]
          exact h3.mpr ⟨q, hq, (all s v q hs hv hq).mpr (by rw [h]; simp), h⟩
        · rcases h2 with e2 | e2
          · obtain ⟨q, hq, _, h⟩ := h3.mp e2
            exact absurd ⟨q, hq, h⟩ hn
          · rw [e2, e]
      rw [h1, ew]
  · have hk : D o k s v = none := by
      cases hd : D o k s v with
      | none => rfl
      | some w => rw [D_succ hd] at h0; cases h0
    refine S.non s v hs hv hk fun h => ?_
    obtain ⟨w, hA⟩ := (hl s v hs hv).mp h
    rw [hA.2] at h0
    cases h0
  · rw [S.mem]
    constructor
    · rintro ⟨h1, h2, h3⟩
      exact ⟨h1, h2, (hl s v h2 h1).mp h3⟩
    · rintro ⟨h1, h2, h3⟩
      exact ⟨h1, h2, (hl s v h2 h1).mpr h3⟩
/-! ### the way through a stage -/
def hdI (o : Nat → Nat → List Nat) (k : Nat) (done : List (Nat × Nat)) : Nat → Nat → Nat → Bool := fun s v q => hdk o k s v q || decide ((q, 1 - s) ∈ done)
def hdP (o : Nat → Nat → List Nat) (k : Nat) (done : List (Nat × Nat)) (v0 s0 : Nat) (pl : List Nat) : Nat → Nat → Nat → Bool := fun s v q => hdI o k done s v q || (decide (s = 1 - s0) && decide (v ∈ pl) && decide (q = v0))
theorem hdP_nil {o : Nat → Nat → List Nat} {k : Nat} {done : List (Nat × Nat)} {v0 s0 : Nat} : hdP o k done v0 s0 [] = hdI o k done := by
  funext s v q
  unfold hdP
  simp
theorem hdP_tell {o : Nat → Nat → List Nat} {k : Nat} {done : List (Nat × Nat)} {v0 s0 : Nat} {pl : List Nat} {v : Nat} : tell (hdP o k done v0 s0 pl) (1 - s0) v v0 = hdP o k done v0 s0 (pl ++ [v]) := by
  funext a b c
  unfold tell hdP
  simp only [List.mem_append, List.mem_singleton]
  by_cases e1 : a = 1 - s0 <;> by_cases e2 : b ∈ pl <;> by_cases e3 : c = v0 <;> by_cases e4 : b = v <;> simp [e1, e2, e3, e4]
/-- undecided places -/
def places (n : Nat) : List (Nat × Nat) := (List.range n).flatMap fun v => [(v, 0), (v, 1)]
theorem in_places {n v s : Nat} : (v, s) ∈ places n ↔ v < n ∧ s < 2 := by
  unfold places
  rw [List.mem_flatMap]
  constructor
  · rintro ⟨x, hx, h⟩
    have := List.mem_range.mp hx
    simp only [List.mem_cons, Prod.mk.injEq, List.not_mem_nil, or_false] at h
    omega
  · rintro ⟨h1, h2⟩
    refine ⟨v, List.mem_range.mpr h1, ?_⟩
    have : s = 0 ∨ s = 1 := by omega
    rcases this with rfl | rfl <;> simp
def und (o : Nat → Nat → List Nat) (n k : Nat) : Nat := ((places n).filter fun p => (D o k p.2 p.1).isNone).length
theorem filter_lt {α : Type} {p p' : α → Bool} : ∀ {l : List α}, (∀ x ∈ l, p' x = true → p x = true) → (l.filter p').length ≤ (l.filter p).length ∧ ((∃ x ∈ l, p x = true ∧ p' x = false) → (l.filter p').length < (l.filter p).length)
  | [], _ => ⟨Nat.le_refl _, fun ⟨x, hx, _⟩ => (List.not_mem_nil hx).elim⟩
  | y :: l, h => by
    obtain ⟨h1, h2⟩ := filter_lt (l := l) fun x hx => h x (List.mem_cons_of_mem _ hx)
    cases hp : p y <;> cases hp' : p' y
    · rw [List.filter_cons_of_neg (by simp [hp']), List.filter_cons_of_neg (by simp [hp])]
      refine ⟨h1, fun ⟨x, hx, e1, e2⟩ => ?_⟩
      rcases List.mem_cons.mp hx with e | hx
      · rw [e, hp] at e1; cases e1
      · exact h2 ⟨x, hx, e1, e2⟩
    · have := h y List.mem_cons_self hp'
      rw [hp] at this
      cases this
    · rw [List.filter_cons_of_neg (by simp [hp']), List.filter_cons_of_pos hp, List.length_cons]
      exact ⟨by omega, fun _ => by omega⟩
    · rw [List.filter_cons_of_pos hp', List.filter_cons_of_pos hp, List.length_cons, List.length_cons]
      refine ⟨by omega, fun ⟨x, hx, e1, e2⟩ => ?_⟩
      rcases List.mem_cons.mp hx with e | hx
      · rw [e, hp'] at e2; cases e2
      · have := h2 ⟨x, hx, e1, e2⟩
        omega
theorem und_lt {o : Nat → Nat → List Nat} {n k s v w : Nat} (hs : s < 2) (hv : v < n) (h : At o k s v w) : und o n (k + 1) < und o n k := by
  unfold und
  refine (filter_lt fun p _ hp => ?_).2 ⟨(v, s), in_places.mpr ⟨hv, hs⟩, ?_, ?_⟩
  · cases hd : D o k p.2 p.1 with
    | none => rfl
    | some w => rw [D_succ hd] at hp; cases hp
  · show (D o k s v).isNone = true
    rw [h.1]
    rfl
  · show (D o (k + 1) s v).isNone = false
    rw [h.2]
    rfl
theorem Head.zero {o : Nat → Nat → List Nat} {n : Nat} {f : Nat → Nat → Int} {g : Nat → Nat → Option (Nat × Nat)} {ps : List (Nat × Nat)} (hf : ∀ s v, s < 2 → v < n → f s v = ((o s v).length : Nat)) (hg : ∀ s v, s < 2 → v < n → g s v = if o s v = [] then some (1 - s, 0) else none) (hps : ∀ v s, (v, s) ∈ ps ↔ v < n ∧ s < 2 ∧ o s v = []) (hn : ps.Nodup) : Head o n 0 f g ps := by
  have hA : ∀ s v w, At o 0 s v w ↔ (o s v = [] ∧ w = 1 - s) := fun s v w => by
    constructor
    · intro h
      rcases at_back h with ⟨_, q, hq, h⟩ | ⟨e, _, h⟩
      · simp only [D] at h
        cases h
      · refine ⟨?_, e⟩
        cases hc : o s v with
        | nil => rfl
        | cons x l =>
          have := h x (by rw [hc]; exact List.mem_cons_self)
          simp only [D] at this
          cases this
    · rintro ⟨e, rfl⟩
      refine ⟨rfl, ?_⟩
      rw [D_none rfl, if_neg (by rw [e]; simp), if_pos (by rw [e]; simp)]
  refine ⟨fun s v hs hv => ?_, fun s v w j hs hv hj hAt => ?_, fun s v hs hv h0 => ?_, fun v s => ?_, hn⟩
  · rw [hf s v hs hv]
    congr 1
    unfold open'
    rw [List.filter_eq_self.mpr]
    intro q _
    rfl
  · have e : j = 0 := by omega
    subst e
    obtain ⟨e1, rfl⟩ := (hA s v w).mp hAt
    rw [hg s v hs hv, if_pos e1]
  · rw [hg s v hs hv, if_neg]
    intro e
    have := ((hA s v (1 - s)).mpr ⟨e, rfl⟩).2
    rw [h0] at this
    cases this
  · rw [hps]
    constructor
    · rintro ⟨h1, h2, h3⟩
      exact ⟨h1, h2, _, (hA s v _).mpr ⟨h3, rfl⟩⟩
    · rintro ⟨h1, h2, w, h3⟩
      exact ⟨h1, h2, ((hA s v w).mp h3).1⟩
theorem places_len (n : Nat) : (places n).length = 2 * n := by
  unfold places
  induction n with
  | zero => rfl
  | succ n ih => rw [List.range_succ, List.flatMap_append, List.length_append, ih]; simp; omega
/-- the stages are few -/
theorem at_lt {o : Nat → Nat → List Nat} {n : Nat} (ho : ∀ s v, s < 2 → v < n → ∀ q ∈ o s v, q < n) {s v w j : Nat} (hs : s < 2) (hv : v < n) (h : At o j s v w) : j < 2 * n := by
  have some_at : ∀ k, k ≤ j → ∃ s v w, s < 2 ∧ v < n ∧ At o k s v w := fun k hk => Classical.byContradiction fun hno => by
    have no : ∀ s v w, s < 2 → v < n → ¬ At o k s v w := fun s v w hs hv hA => hno ⟨s, v, w, hs, hv, hA⟩
    have still := D_still ho no
    have e1 := still j hk s v hs hv
    have e2 := still (j + 1) (by omega) s v hs hv
    rw [h.1] at e1
    rw [h.2, ← e1] at e2
    cases e2
  have key : ∀ m, m ≤ j + 1 → und o n m + m ≤ und o n 0 := by
    intro m
    induction m with
    | zero => intro _; exact Nat.le_refl _
    | succ m ih =>
      intro hm
      obtain ⟨s', v', w', hs', hv', hA'⟩ := some_at m (by omega)
      have := und_lt hs' hv' hA'
      have := ih (by omega)
      omega
  have h0 : und o n 0 ≤ 2 * n := by
    unfold und
    rw [← places_len n]
    exact List.length_filter_le _ _
  have := key (j + 1) (Nat.le_refl _)
  omega
/-- those of the first i nodes from which g is an option -/
def pre (S : List (List Nat)) (i g : Nat) : List Nat := (List.range i).filter fun v => decide (g ∈ row S v)
theorem pre_succ (S : List (List Nat)) (i g : Nat) : pre S (i + 1) g = pre S i g ++ if g ∈ row S i then [i] else [] := by
  unfold pre
  rw [List.range_succ, List.filter_append]
  congr 1
  by_cases h : g ∈ row S i <;> simp [h]
theorem pre_len (S : List (List Nat)) (i g : Nat) : (pre S i g).length ≤ i := by
  unfold pre
  refine Nat.le_trans (List.length_filter_le _ _) ?_
  rw [List.length_range]
  exact Nat.le_refl _
end SV
namespace SV
open Classical in
/-- the winner and the length, if there are any -/
noncomputable def gS (o : Nat → Nat → List Nat) (s v : Nat) : Option (Nat × Nat) := if h : ∃ p : Nat × Nat, At o p.2 s v p.1 then some h.choose else none
theorem gS_some {o : Nat → Nat → List Nat} {s v w j : Nat} (h : At o j s v w) : gS o s v = some (w, j) := by
  unfold gS
  have hex : ∃ p : Nat × Nat, At o p.2 s v p.1 := ⟨(w, j), h⟩
  rw [dif_pos hex]
  have := hex.choose_spec
  obtain ⟨e1, e2⟩ := this.uniq h
  rw [← e1, ← e2]
theorem gS_none {o : Nat → Nat → List Nat} {s v : Nat} (h : ∀ k, D o k s v = none) : gS o s v = none := by
  unfold gS
  rw [dif_neg]
  rintro ⟨p, hp⟩
  have := hp.2
  rw [h] at this
  cases this
theorem gS_cases (o : Nat → Nat → List Nat) (s v : Nat) : (∃ w j, At o j s v w ∧ gS o s v = some (w, j)) ∨ ((∀ k, D o k s v = none) ∧ gS o s v = none) := by
  by_cases c : ∃ k, D o k s v ≠ none
  · obtain ⟨k, hk⟩ := c
    cases hd : D o k s v with
    | none => exact absurd hd hk
    | some w =>
      obtain ⟨j, _, hA⟩ := D_at hd
      exact .inl ⟨w, j, hA, gS_some hA⟩
  · have h : ∀ k, D o k s v = none := fun k => Classical.byContradiction fun h => c ⟨k, h⟩
    exact .inr ⟨h, gS_none h⟩
end SV
namespace TG
open PySem L2
/-- lists of nodes, each its own -/
def Cells (H : Hp) (cs : List Addr) (f : Nat → List Nat) : Prop := cs.Nodup ∧ ∀ (i : Nat) (c : Addr), cs[i]? = some c → H c = some (.lst ((f i).map N))
def OffL (l : List Addr) (H H' : Hp) : Prop := ∀ b o, b ∉ l → H b = some o → H' b = some o
theorem OffL.refl {l : List Addr} {H : Hp} : OffL l H H := fun _ _ _ e => e
theorem OffL.trans {l : List Addr} {H H1 H2 : Hp} (a : OffL l H H1) (b : OffL l H1 H2) : OffL l H H2 := fun x o hx e => b x o hx (a x o hx e)
theorem OffL.of {l : List Addr} {H H' : Hp} (s : Same H H') : OffL l H H' := fun b o _ e => s b o e
theorem OffL.upd {l : List Addr} {H : Hp} {c : Addr} {o : HO} (h : c ∈ l) : OffL l H (upd H c o) := fun b u hb e => by
  rw [upd_ne (fun z => hb (by rw [z]; exact h))]
  exact e
theorem OffL.tup {l : List Addr} {H H' : Hp} (hl : ∀ c ∈ l, ∃ ys, H c = some (.lst ys)) (o : OffL l H H') : KpT H H' := fun K p xs h => by
  have key : ∀ u, H p = some u → (∀ zs, u ≠ .lst zs) → H' p = some u := fun u e hu => o p u (fun c => by
    obtain ⟨ys, hy⟩ := hl p c
    rw [hy] at e
    exact hu _ (Option.some.inj e).symm) e
  rcases h with (h | ⟨x, h⟩) | h
  · exact .inl (.inl (key _ h (fun _ z => by cases z)))
  · exact .inl (.inr ⟨x, key _ h (fun _ z => by cases z)⟩)
  · exact .inr h
theorem Cells.keep {H H' : Hp} {cs : List Addr} {f : Nat → List Nat} (h : Cells H cs f) (k : ∀ c ∈ cs, ∀ o, H c = some o → H' c = some o) : Cells H' cs f := ⟨h.1, fun i c hc => k c (List.mem_of_getElem? hc) _ (h.2 i c hc)⟩
theorem Cells.put {H : Hp} {cs : List Addr} {f : Nat → List Nat} (h : Cells H cs f) {g : Nat} {c : Addr} (hg : cs[g]? = some c) {l : List Nat} : Cells (L2.upd H c (.lst (l.map N))) cs (fun i => if i = g then l else f i) := by
  refine ⟨h.1, fun i c' hc => ?_⟩
  by_cases e : i = g
  · subst e
    rw [hg] at hc
    cases hc
    rw [upd_same]
    simp
  · have hne : c' ≠ c := fun z => by
      subst z
      obtain ⟨h1, e1⟩ := List.getElem?_eq_some_iff.mp hc
      obtain ⟨h2, e2⟩ := List.getElem?_eq_some_iff.mp hg
      exact e ((List.getElem_inj h.1).mp (e1.trans e2.symm))
    rw [upd_ne hne]
    simp only [if_neg e]
    exact h.2 i c' hc
theorem Cells.congr {H : Hp} {cs : List Addr} {f g : Nat → List Nat} (h : Cells H cs f) (e : ∀ i, i < cs.length → f i = g i) : Cells H cs g := ⟨h.1, fun i c hc => by
  rw [← e i (List.getElem?_eq_some_iff.mp hc).1]
  exact h.2 i c hc⟩
end TG


set_option Elab.async false
set_option linter.all false
set_option maxRecDepth 100000
set_option maxHeartbeats 4000000
namespace K74
open PySem L2 TG GM SV
section
variable {P : Program} {w : World} {K : PySem.W.Frag} {mg : Str → Option Value} {base : Heap}
/-- the list of lists of those from which each node is an option -/
def BackAt (H : Hp) (b : Addr) (S : List (List Nat)) (n : Nat) : Prop := ∃ cs : List Addr, H b = some (.lst (cs.map V.ref)) ∧ cs.length = n ∧ Cells H cs (pre S n)
theorem at_row' {H : Hp} {xs : List V} {S : List (List Nat)} (h : DpAll K H xs (S.map rowD)) {i : Nat} (hi : i < S.length) : ∃ b, xs[i]? = some (.ref b) ∧ SqT K H b ((row S i).map N) := by
  obtain ⟨b, hb, hT⟩ := rows_get h (List.getElem?_eq_getElem hi)
  refine ⟨b, hb, ?_⟩
  unfold row
  rw [List.getD_eq_getElem?_getD, List.getElem?_eq_getElem hi]
  exact hT
def spBack (K : PySem.W.Frag) : Sp := fun vs H Q _ => ∃ (v : V) (L R : List (List Nat)) (n : Nat), vs = [v] ∧ Dp K H v (grD L R) ∧ (L.length = n ∧ R.length = n ∧ n ≤ 144) ∧ (∀ r ∈ L, OkRow n r) ∧ (∀ r ∈ R, OkRow n r) ∧
  ∀ (p b0 b1 : Addr) H', Same H H' → H' p = some (.lst [.ref b0, .ref b1]) → BackAt H' b0 L n → BackAt H' b1 R n → Q (.ref p) H'
theorem ok_back_edges {k : Nat} (T : Txt K mg) : FnOk P w K mg base CX0 (k + 1) T.a_back_edges T.d_back_edges ["graph"] (spBack K) := by
  refine T.F_back_edges.ok sc_back_edges (fun vs H Q E h => ?_) (fun cdv A outer s H vs Q E hr h => ?_)
  · obtain ⟨v, L, R, n, rfl, _⟩ := h
    rfl
  obtain ⟨v, L, R, n, rfl, h1, ⟨lL, lR, n60⟩, okL, okR, q⟩ := h
  refine ⟨_, (pss_cons (ps_set (i := 1) sc_back_edges.nd rfl (Or.inl rfl) (pe_lst pa_nil))
  (pss_cons (ps_for PassesOwn.never rfl (pi_tupK (K := K) rfl (pv 0)) (pg_name (i := 2) sc_back_edges.nd rfl (Or.inl rfl))
  (pss_cons (ps_setLc (i := 3) (own := [("told", 5)]) rfl sc_back_edges.nd rfl rfl (sw_true rfl rfl rfl (by decide +kernel)) (pi_tupK (K := K) rfl (pv 2)) (blkOk_by (N := ["graph", "found", "side", "rows", "node", "told", "goal"]) (sc := defScope s_back_edges) (by decide +kernel)) (fun _ _ _ _ _ => (pg_name (i := 5) sc_back_edges.nd rfl (Or.inl rfl))) (fun _ _ _ _ _ => pts_nil) (fun _ _ _ _ _ => (pe_lst pa_nil)))
  (pss_cons (ps_for PassesOwn.never rfl (pi_enumT (K := K) rfl rfl T.m_enumerate (pa_cons (pv 2) pa_nil)) (pg_tupK (K := K) (n := 2) rfl rfl (pgs_cons (pg_name (i := 4) sc_back_edges.nd rfl (Or.inl rfl)) (pgs_cons (pg_name (i := 5) sc_back_edges.nd rfl (Or.inl rfl)) pgs_nil)))
  (pss_one (ps_for PassesOwn.never rfl (pi_tupK (K := K) rfl (pv 5)) (pg_name (i := 6) sc_back_edges.nd rfl (Or.inl rfl))
  (pss_one (ps_expr (pe_bmK (K := K) rfl PySem.F.plainAttrs_list PySem.F.slot_list_append PySem.F.type_list_append mt_append (pe_ix (ix_listK (K := K) rfl) (pv 3) (pv 6) (fun _ _ => rfl)) (pa_cons (pv 4) pa_nil)))))))
  (pss_one (ps_expr (pe_bmK (K := K) rfl PySem.F.plainAttrs_list PySem.F.slot_list_append PySem.F.type_list_append mt_append (pv 1) (pa_cons (pv 3) pa_nil)))))))
  (pss_one (ps_ret (pv 1))))), ?_⟩
  obtain ⟨a, x1, x2, rfl, hS1, hL, hR⟩ := gr_at h1
  have sides : ∀ (i : Nat) (x : V), [x1, x2][i]? = some x → i < 2 ∧ ∃ F : List (List Nat), Dp K H x (rowsD F) ∧ F.length = n ∧ (∀ r ∈ F, OkRow n r) ∧ (i = 0 → F = L) ∧ (i = 1 → F = R) := by
    intro i x hx
    match i, hx with
    | 0, hx =>
      cases hx
      exact ⟨by decide, L, hL, lL, okL, fun _ => rfl, fun h => absurd h (by decide)⟩
    | 1, hx =>
      cases hx
      exact ⟨by decide, R, hR, lR, okR, fun h => absurd h (by decide), fun _ => rfl⟩
  -- found = []
  refine ⟨by show 0 ≤ sizeLine; decide, fun Df hDf => ?_⟩
  have s1 := same_new hDf (.lst [])
  dsimp only [gName]
  refine ⟨_, rfl, a, rfl, ⟨_, sqT s1 hS1⟩, ?_⟩
  refine for_tup (xs := [x1, x2]) (fun i σ' H' => ∃ (z2 z3 z4 z5 z6 : Option V) (bs : List Addr), σ' = [some (.ref a), some (.ref Df), z2, z3, z4, z5, z6] ∧ H' Df = some (.lst (bs.map V.ref)) ∧ bs.length = i ∧ Same H H' ∧
    (∀ b, bs[0]? = some b → ∃ cs : List Addr, H' b = some (.lst (cs.map V.ref)) ∧ cs.length = n ∧ Cells H' cs (pre L n) ∧ Df ∉ b :: cs) ∧ ∀ b, bs[1]? = some b → ∃ cs : List Addr, H' b = some (.lst (cs.map V.ref)) ∧ cs.length = n ∧ Cells H' cs (pre R n) ∧ Df ∉ b :: cs) ?_ ?_ ?_ ?_
  · exact ⟨none, none, none, none, none, [], rfl, upd_same, rfl, s1, fun b h => (by cases h), fun b h => (by cases h)⟩
  · rintro i σ' H' _ ⟨z2, z3, z4, z5, z6, bs, rfl, _, _, sm, _⟩
    exact sqT sm hS1
  · rintro i x σ' H' hx ⟨z2, z3, z4, z5, z6, bs, rfl, hF, hbl, sm, b0, b1⟩
    obtain ⟨hi2, F, hFd, lF, okF, c0, c1⟩ := sides i x hx
    obtain ⟨aF, xF, rfl, hSF, hlF, hAF⟩ := rows_at (dp_keep (.same sm) _ _ (pT_rows F) hFd)
    dsimp only [gName]
    -- rows = [[] for told in side]
    refine ⟨_, rfl, aF, rfl, ⟨_, hSF⟩, fun Dr hDr => ?_⟩
    have hFr : Df ≠ Dr := ne_of_none hF hDr
    refine lc_tup (K := K) (a := aF) (xs := xF) (fun t H2 => ∃ cs : List Addr, H2 Dr = some (.lst (cs.map V.ref)) ∧ cs.length = t ∧ Cells H2 cs (fun _ => []) ∧ Same H' H2 ∧ (∀ c ∈ cs, H' c = none) ∧ Dr ∉ cs) ?_ ?_ ?_ ?_
    · exact ⟨[], upd_same, rfl, ⟨List.nodup_nil, fun i c h => (by cases h)⟩, same_new hDr _, fun c h => (List.not_mem_nil h).elim, List.not_mem_nil⟩
    · rintro t H2 _ ⟨cs, _, _, _, s2, _⟩
      exact sqT s2 hSF
    · rintro t x H2 hxt ⟨cs, hE2, hcl, hC2, s2, hcn, hDc⟩
      refine ⟨rfl, ?_⟩
      dsimp only [tYes]
      rw [if_pos rfl]
      refine ⟨by show 0 ≤ sizeLine; decide, fun c hc => ?_⟩
      have s3 := same_new hc (.lst [])
      have hcD : c ≠ Dr := fun z => by rw [z, hE2] at hc; cases hc
      have hcs : c ∉ cs := fun z => by
        obtain ⟨j, hj, ej⟩ := List.getElem_of_mem z
        have := hC2.2 j c (by rw [List.getElem?_eq_getElem hj, ej])
        rw [this] at hc
        cases hc
      have htn : t < 145 := by
        have := (List.getElem?_eq_some_iff.mp hxt).1
        omega
      refine ⟨cs.map V.ref, s3 _ _ hE2, ?_, cs ++ [c], ?_, by simp [hcl], ⟨?_, ?_⟩, ?_, ?_, ?_⟩
      · rw [List.length_map]
        exact Nat.lt_of_le_of_lt (by omega : cs.length ≤ 200) (by decide)
      · rw [upd_same, List.map_append]
        rfl
      · exact List.nodup_append.mpr ⟨hC2.1, by simp, fun x hx y hy e => by
          rw [List.mem_singleton] at hy
          exact hcs (by rw [← hy, ← e]; exact hx)⟩
      · intro j c' hj
        by_cases e : j < cs.length
        · rw [List.getElem?_append_left e] at hj
          have hne : c' ≠ Dr := fun z => hDc (by rw [← z]; exact List.mem_of_getElem? hj)
          rw [upd_ne hne]
          exact s3 _ _ (hC2.2 j c' hj)
        · rw [List.getElem?_append_right (by omega)] at hj
          have : c' = c := by
            cases hjj : j - cs.length with
            | zero => rw [hjj] at hj; exact (Option.some.inj hj).symm
            | succ m => rw [hjj] at hj; cases hj
          subst this
          rw [upd_ne hcD, upd_same]
          rfl
      · intro b' u' hu'
        have hb2 : b' ≠ Dr := fun c => by rw [c, hDr] at hu'; cases hu'
        rw [upd_ne hb2]
        exact s3 _ _ (s2 _ _ hu')
      · intro c' hc'
        rcases List.mem_append.mp hc' with h | h
        · exact hcn c' h
        · rw [List.mem_singleton] at h
          subst h
          cases hq : H' c' with
          | none => rfl
          | some u => rw [s2 _ _ hq] at hc; cases hc
      · intro h
        rcases List.mem_append.mp h with h | h
        · exact hDc h
        · rw [List.mem_singleton] at h
          exact hcD h.symm
    · rintro H2 ⟨cs, hE2, hcl, hC2, s2, hcn, hDc⟩
      rw [hlF, lF] at hcl
      dsimp only [gName]
      -- for node, told in enumerate(side)
      refine ⟨_, rfl, aF, xF, rfl, sqT s2 hSF, ?_⟩
      have hcl2 : ∀ c ∈ cs, ∃ ys, H2 c = some (.lst ys) := fun c hc => by
        obtain ⟨j, hj, ej⟩ := List.getElem_of_mem hc
        exact ⟨_, hC2.2 j c (by rw [List.getElem?_eq_getElem hj, ej])⟩
      have hFc : Df ∉ cs := fun h => by
        have := hcn Df h
        rw [hF] at this
        cases this
      refine for_enumT (K := K) (a := aF) (xs := xF) (i1 := 4) (i2 := 5) (fun t σ2 H3 => ∃ (y4 y5 y6 : Option V), σ2 = [some (.ref a), some (.ref Df), some (.ref aF), some (.ref Dr), y4, y5, y6] ∧ Cells H3 cs (pre F t) ∧ OffL cs H2 H3) ?_ ?_ ?_ ?_
      · exact ⟨_, _, _, rfl, hC2.congr fun i _ => rfl, OffL.refl⟩
      · rintro t σ2 H3 _ ⟨y4, y5, y6, rfl, _, o3⟩
        exact (o3.tup hcl2) K _ _ (sqT s2 hSF)
      · rintro t x σ2 H3 H4 hxt ⟨y4, y5, y6, rfl, hC3, o3⟩ s4
        have ht : t < n := by
          have := (List.getElem?_eq_some_iff.mp hxt).1
          omega
        have k3 : KpT H2 H3 := o3.tup hcl2
        have k04 : KpT H' H4 := ((KpT.same s2).trans k3).trans (.same s4)
        obtain ⟨bF, atF, hTF⟩ := at_row' hAF (i := t) (by omega)
        rw [hxt] at atF
        obtain rfl := Option.some.inj atF
        have ok := row_ok okF t
        have o4 : OffL cs H2 H4 := o3.trans (.of s4)
        -- for goal in told
        refine ⟨_, rfl, bF, rfl, ⟨_, k04 K _ _ hTF⟩, ?_⟩
        refine for_tup (xs := (row F t).map N) (fun u σ3 H5 => ∃ (y6 : Option V), σ3 = [some (.ref a), some (.ref Df), some (.ref aF), some (.ref Dr), some (N t), some (.ref bF), y6] ∧ Cells H5 cs (fun g => pre F t g ++ if g ∈ (row F t).take u then [t] else []) ∧ OffL cs H2 H5) ?_ ?_ ?_ ?_
        · refine ⟨_, rfl, (hC3.keep fun c _ o e => s4 _ _ e).congr fun i _ => ?_, o4⟩
          simp
        · rintro u σ3 H5 _ ⟨y6', rfl, _, o5⟩
          exact (o5.tup hcl2) K _ _ ((KpT.same s2) K _ _ hTF)
        · rintro u x σ3 H5 hxu ⟨y6', rfl, hC5, o5⟩
          have hu : u < (row F t).length := by
            have := (List.getElem?_eq_some_iff.mp hxu).1
            rw [List.length_map] at this
            exact this
          rw [List.getElem?_map, List.getElem?_eq_getElem hu] at hxu
          obtain rfl := Option.some.inj hxu
          have hgn := ok.2.1 _ (List.getElem_mem hu)
          have hgc : (row F t)[u] < cs.length := by omega
          have hnd : (row F t).Nodup := ok.1.imp fun {a b} h => Nat.ne_of_lt h
          have hnot : (row F t)[u] ∉ (row F t).take u := fun h => by
            obtain ⟨j, hj, ej⟩ := List.getElem_of_mem h
            rw [List.length_take] at hj
            rw [List.getElem_take] at ej
            have := (List.getElem_inj hnd).mp ej
            omega
          have htk : (row F t).take (u + 1) = (row F t).take u ++ [(row F t)[u]] := List.take_succ_eq_append_getElem hu
          generalize (row F t)[u] = g at hgn hgc hnot htk
          have hcg : cs[g]? = some cs[g] := List.getElem?_eq_getElem hgc
          have hE5 : H5 Dr = some (.lst (cs.map V.ref)) := o5 _ _ hDc hE2
          have hc5 := hC5.2 g _ hcg
          simp only [if_neg hnot, List.append_nil] at hc5
          dsimp only [gName]
          refine ⟨_, rfl, _, rfl, Dr, _, _, .ref cs[g], rfl, rfl, SqL.of hE5, ?_, .inl ⟨rfl, _, SqL.of hc5⟩, _, rfl, cs[g], _, _, rfl, rfl, hc5, ?_, _, rfl, ?_, ?_⟩
          · exact atI_nat (by rw [List.getElem?_map, hcg]; rfl)
          · rw [List.length_map]
            have := pre_len F t g
            exact Nat.lt_of_le_of_lt (by omega : (pre F t g).length ≤ 200) (by decide)
          · have e : (pre F t g).map N ++ [N t] = (pre F t g ++ [t]).map N := by simp
            rw [e]
            refine (hC5.put hcg (l := pre F t g ++ [t])).congr fun i hi => ?_
            rw [htk]
            by_cases e : i = g
            · subst e
              simp
            · simp [e]
          · exact o5.trans (.upd (List.getElem_mem hgc))
        · rintro σ3 H5 ⟨y6', rfl, hC5, o5⟩
          refine ⟨_, _, _, rfl, hC5.congr fun i _ => ?_, o5⟩
          rw [List.length_map, List.take_length, pre_succ]
      · rintro σ2 H3 ⟨y4, y5, y6, rfl, hC3, o3⟩
        rw [hlF, lF] at hC3
        -- found.append(rows)
        have hF3 : H3 Df = some (.lst (bs.map V.ref)) := o3 _ _ hFc (s2 _ _ hF)
        have hE3 : H3 Dr = some (.lst (cs.map V.ref)) := o3 _ _ hDc hE2
        have hnew : ∃ cs' : List Addr, upd H3 Df (.lst (bs.map V.ref ++ [.ref Dr])) Dr = some (.lst (cs'.map V.ref)) ∧ cs'.length = n ∧ Cells (upd H3 Df (.lst (bs.map V.ref ++ [.ref Dr]))) cs' (pre F n) ∧ Df ∉ Dr :: cs' := by
          refine ⟨cs, ?_, hcl, hC3.keep fun c hc o e => ?_, ?_⟩
          · rw [upd_ne (Ne.symm hFr)]
            exact hE3
          · rw [upd_ne (fun z => hFc (by rw [← z]; exact hc))]
            exact e
          · intro h
            rcases List.mem_cons.mp h with h | h
            · exact hFr h
            · exact hFc h
        have hold : ∀ (b : Addr) (S : List (List Nat)), (∃ cs' : List Addr, H' b = some (.lst (cs'.map V.ref)) ∧ cs'.length = n ∧ Cells H' cs' (pre S n) ∧ Df ∉ b :: cs') →
            ∃ cs' : List Addr, upd H3 Df (.lst (bs.map V.ref ++ [.ref Dr])) b = some (.lst (cs'.map V.ref)) ∧ cs'.length = n ∧ Cells (upd H3 Df (.lst (bs.map V.ref ++ [.ref Dr]))) cs' (pre S n) ∧ Df ∉ b :: cs' := by
          rintro b S ⟨cs', hb, hl', hC', hn'⟩
          have step : ∀ c o, c ≠ Df → H' c = some o → upd H3 Df (.lst (bs.map V.ref ++ [.ref Dr])) c = some o := fun c o hc e => by
            rw [upd_ne hc]
            refine o3 _ _ (fun z => ?_) (s2 _ _ e)
            have := hcn c z
            rw [e] at this
            cases this
          refine ⟨cs', step _ _ (fun z => hn' (by rw [← z]; exact List.mem_cons_self)) hb, hl', hC'.keep fun c hc o e => step _ _ (fun z => hn' (by rw [← z]; exact List.mem_cons_of_mem _ hc)) e, hn'⟩
        refine ⟨_, rfl, .inl ⟨rfl, _, SqL.of hF3⟩, _, rfl, Df, _, _, rfl, rfl, hF3, ?_, _, _, _, _, _, bs ++ [Dr], rfl, ?_, by simp [hbl], ?_, ?_, ?_⟩
        · rw [List.length_map]
          exact Nat.lt_of_le_of_lt (by omega : bs.length ≤ 10) (by decide)
        · rw [upd_same, List.map_append]
          rfl
        · intro b' u' hu'
          have hb2 : b' ≠ Df := fun c => by rw [c, hDf] at hu'; cases hu'
          rw [upd_ne hb2]
          refine o3 _ _ (fun z => ?_) (s2 _ _ (sm _ _ hu'))
          have := hcn b' z
          rw [sm _ _ hu'] at this
          cases this
        · intro b hb
          by_cases e0 : i = 0
          · have : bs = [] := List.length_eq_zero_iff.mp (by omega)
            rw [this] at hb
            cases hb
            rw [← c0 e0]
            exact hnew
          · rw [List.getElem?_append_left (by omega)] at hb
            exact hold b L (b0 b hb)
        · intro b hb
          by_cases e1 : i = 1
          · rw [List.getElem?_append_right (by omega), hbl, e1] at hb
            cases hb
            rw [← c1 e1]
            exact hnew
          · have : bs = [] := List.length_eq_zero_iff.mp (by omega)
            rw [this] at hb
            cases hb
  · rintro σ' H' ⟨z2, z3, z4, z5, z6, bs, rfl, hF, hbl, sm, b0, b1⟩
    match bs, hbl, hF with
    | [c0, c1], _, hF =>
      obtain ⟨cs0, e0, l0, C0, _⟩ := b0 c0 rfl
      obtain ⟨cs1, e1, l1, C1, _⟩ := b1 c1 rfl
      exact ⟨_, rfl, q Df c0 c1 H' sm hF ⟨cs0, e0, l0, C0⟩ ⟨cs1, e1, l1, C1⟩⟩
end
end K74


set_option Elab.async false
set_option linter.all false
set_option maxRecDepth 100000
set_option maxHeartbeats 4000000
namespace K74
open PySem L2 TG GM SV
section
variable {P : Program} {w : World} {K : PySem.W.Frag} {mg : Str → Option Value} {base : Heap}
abbrev key (v s : Nat) : List L2.Key := [Sum.inl (v : Int), Sum.inl (s : Int)]
theorem key_inj {v s v' s' : Nat} (h : key v s = key v' s') : v = v' ∧ s = s' := by
  unfold key at h
  simp only [List.cons.injEq, Sum.inl.injEq, and_true] at h
  omega
/-- all keys are places, each once -/
def KeysIn (n : Nat) (kvs : List (List L2.Key × V)) : Prop := (kvs.map (·.1)).Nodup ∧ ∀ k ∈ kvs.map (·.1), ∃ v s, v < n ∧ s < 2 ∧ k = key v s
theorem KeysIn.len {n : Nat} {kvs : List (List L2.Key × V)} (h : KeysIn n kvs) : kvs.length ≤ ((places n).map fun p => key p.1 p.2).length := by
  have := nodup_le (l := kvs.map (·.1)) (m := (places n).map fun p => key p.1 p.2) h.1 (fun k hk => by
    obtain ⟨v, s, hv, hs, rfl⟩ := h.2 k hk
    exact List.mem_map.mpr ⟨(v, s), in_places.mpr ⟨hv, hs⟩, rfl⟩)
  rw [List.length_map] at this
  exact this
theorem KeysIn.small {n : Nat} {kvs : List (List L2.Key × V)} (h : KeysIn n kvs) (hn : n ≤ 144) : kvs.length < sizeLine := by
  have := h.len
  rw [List.length_map, places_len] at this
  exact Nat.lt_of_le_of_lt (by omega : kvs.length ≤ 288) (by decide)
theorem KeysIn.put {n : Nat} {kvs : List (List L2.Key × V)} (h : KeysIn n kvs) {v s : Nat} (hv : v < n) (hs : s < 2) (x : V) : KeysIn n (putK kvs (key v s) x) := by
  unfold KeysIn
  rw [put_fst]
  by_cases c : key v s ∈ kvs.map (·.1)
  · rw [if_pos c]
    exact h
  · rw [if_neg c]
    refine ⟨List.nodup_append.mpr ⟨h.1, by simp, fun a ha b hb e => ?_⟩, fun k hk => ?_⟩
    · rw [List.mem_singleton] at hb
      exact c (by rw [← hb, ← e]; exact ha)
    · rcases List.mem_append.mp hk with h' | h'
      · exact h.2 k h'
      · rw [List.mem_singleton] at h'
        exact ⟨v, s, hv, hs, h'⟩
/-- the dict of numbers -/
def LeftIs (n : Nat) (kvs : List (List L2.Key × V)) (f : Nat → Nat → Int) : Prop := KeysIn n kvs ∧ ∀ s v, s < 2 → v < n → valV kvs (key v s) = some (.int (f s v))
/-- the dict of what is found: the winner and the length -/
def FoundIs (K : PySem.W.Frag) (n : Nat) (H : Hp) (kvs : List (List L2.Key × V)) (g : Nat → Nat → Option (Nat × Nat)) : Prop :=
  KeysIn n kvs ∧ ∀ s v, s < 2 → v < n → match g s v with
    | none => valV kvs (key v s) = none
    | some (w, j) => ∃ t, valV kvs (key v s) = some (.ref t) ∧ SqT K H t [N w, N j]
theorem FoundIs.keep {n : Nat} {H H' : Hp} {kvs : List (List L2.Key × V)} {g : Nat → Nat → Option (Nat × Nat)} (h : FoundIs K n H kvs g) (k : KpT H H') : FoundIs K n H' kvs g := by
  refine ⟨h.1, fun s v hs hv => ?_⟩
  have := h.2 s v hs hv
  cases e : g s v with
  | none => rw [e] at this; exact this
  | some p =>
    obtain ⟨w, j⟩ := p
    rw [e] at this
    obtain ⟨t, h1, h2⟩ := this
    exact ⟨t, h1, k K _ _ h2⟩
theorem FoundIs.put {n : Nat} {H : Hp} {kvs : List (List L2.Key × V)} {g : Nat → Nat → Option (Nat × Nat)} (h : FoundIs K n H kvs g) {v s w j : Nat} (hv : v < n) (hs : s < 2) {t : Addr} (ht : SqT K H t [N w, N j]) : FoundIs K n H (putK kvs (key v s) (.ref t)) (fun a b => if a = s ∧ b = v then some (w, j) else g a b) := by
  refine ⟨h.1.put hv hs _, fun s' v' hs' hv' => ?_⟩
  rw [valV_put]
  by_cases c : s' = s ∧ v' = v
  · obtain ⟨rfl, rfl⟩ := c
    simp only [and_self, if_true]
    exact ⟨t, rfl, ht⟩
  · have hk : key v' s' ≠ key v s := fun e => c ⟨(key_inj e).2, (key_inj e).1⟩
    simp only [if_neg c, if_neg hk]
    exact h.2 s' v' hs' hv'
theorem LeftIs.put {n : Nat} {kvs : List (List L2.Key × V)} {f : Nat → Nat → Int} (h : LeftIs n kvs f) {v s : Nat} (hv : v < n) (hs : s < 2) (i : Int) : LeftIs n (putK kvs (key v s) (.int i)) (fun a b => if a = s ∧ b = v then i else f a b) := by
  refine ⟨h.1.put hv hs _, fun s' v' hs' hv' => ?_⟩
  rw [valV_put]
  by_cases c : s' = s ∧ v' = v
  · obtain ⟨rfl, rfl⟩ := c
    simp
  · have hk : key v' s' ≠ key v s := fun e => c ⟨(key_inj e).2, (key_inj e).1⟩
    simp only [if_neg c, if_neg hk]
    exact h.2 s' v' hs' hv'
theorem KpT.updD {H : Hp} {r : Addr} {kvs : List (List L2.Key × V)} {o : HO} (hr : H r = some (.dT kvs)) : KpT H (upd H r o) := fun K p xs h => by
  have key : ∀ u, H p = some u → (∀ zs, u ≠ .dT zs) → upd H r o p = some u := fun u e hu => by
    rw [upd_ne (fun c => by rw [c, hr] at e; exact hu _ (Option.some.inj e).symm)]
    exact e
  rcases h with (h | ⟨x, h⟩) | h
  · exact .inl (.inl (key _ h (fun _ z => by cases z)))
  · exact .inl (.inr ⟨x, key _ h (fun _ z => by cases z)⟩)
  · exact .inr h
def posD (p : Nat × Nat) : PyData := rowD [p.1, p.2]
theorem pT_pos (ps : List (Nat × Nat)) : pTs (ps.map posD) = true := pTs_all _ fun d hd => by
  obtain ⟨z, _, rfl⟩ := List.mem_map.mp hd
  exact pT_row _
/-- a list of places -/
def Lay (K : PySem.W.Frag) (H : Hp) (D : Addr) (ts : List V) (ps : List (Nat × Nat)) : Prop := H D = some (.lst ts) ∧ DpAll K H ts (ps.map posD)
theorem Lay.more {H H' : Hp} {D : Addr} {ts : List V} {ps : List (Nat × Nat)} (h : Lay K H D ts ps) (s : Same H H') : Lay K H' D ts ps := ⟨s _ _ h.1, dps_keep (.same s) _ _ (pT_pos ps) h.2⟩
theorem Lay.dict {H : Hp} {D r : Addr} {ts : List V} {ps : List (Nat × Nat)} {kvs : List (List L2.Key × V)} {o : HO} (h : Lay K H D ts ps) (hr : H r = some (.dT kvs)) : Lay K (upd H r o) D ts ps := by
  refine ⟨?_, dps_keep (KpT.updD hr) _ _ (pT_pos ps) h.2⟩
  rw [upd_ne (fun c => by rw [← c, h.1] at hr; cases hr)]
  exact h.1
theorem Lay.list {H : Hp} {D r : Addr} {ts us : List V} {ps : List (Nat × Nat)} {o : HO} (h : Lay K H D ts ps) (hr : H r = some (.lst us)) (hne : D ≠ r) : Lay K (upd H r o) D ts ps := by
  refine ⟨?_, dps_keep (KpT.upd hr) _ _ (pT_pos ps) h.2⟩
  rw [upd_ne hne]
  exact h.1
theorem Lay.app {H : Hp} {D b : Addr} {ts : List V} {ps : List (Nat × Nat)} {v s : Nat} (h : Lay K H D ts ps) (hb : SqT K H b [N v, N s]) : Lay K (upd H D (.lst (ts ++ [.ref b]))) D (ts ++ [.ref b]) (ps ++ [(v, s)]) := by
  refine ⟨upd_same, ?_⟩
  rw [List.map_append]
  have k : KpT H (upd H D (.lst (ts ++ [.ref b]))) := .upd h.1
  exact dps_snoc (dps_keep k _ _ (pT_pos ps) h.2) (row_of (ds := [v, s]) (k K _ _ hb))
/-- the two dicts -/
structure MS (K : PySem.W.Frag) (n : Nat) (H1 : Hp) (Dl Df : Addr) (H : Hp) (PL : List (List L2.Key × V) → Prop) (g : Nat → Nat → Option (Nat × Nat)) : Prop where
  same : Same H1 H
  el : ∃ kl, H Dl = some (.dT kl) ∧ PL kl
  ef : ∃ kf, H Df = some (.dT kf) ∧ FoundIs K n H kf g
  nl : H1 Dl = none
  nf : H1 Df = none
  ne : Dl ≠ Df
theorem MS.more {n : Nat} {H1 H H' : Hp} {Dl Df : Addr} {PL : List (List L2.Key × V) → Prop} {g : Nat → Nat → Option (Nat × Nat)} (M : MS K n H1 Dl Df H PL g) (s : Same H H') : MS K n H1 Dl Df H' PL g := by
  obtain ⟨kl, h1, h2⟩ := M.el
  obtain ⟨kf, h3, h4⟩ := M.ef
  exact ⟨M.same.trans s, ⟨kl, s _ _ h1, h2⟩, ⟨kf, s _ _ h3, h4.keep (.same s)⟩, M.nl, M.nf, M.ne⟩
theorem MS.putL {n : Nat} {H1 H : Hp} {Dl Df : Addr} {PL PL' : List (List L2.Key × V) → Prop} {g : Nat → Nat → Option (Nat × Nat)} (M : MS K n H1 Dl Df H PL g) {kl kl' : List (List L2.Key × V)} (hl : H Dl = some (.dT kl)) (h' : PL' kl') :
    MS K n H1 Dl Df (upd H Dl (.dT kl')) PL' g := by
  obtain ⟨kf, h3, h4⟩ := M.ef
  refine ⟨fun b u e => ?_, ⟨_, upd_same, h'⟩, ⟨kf, ?_, h4.keep (KpT.updD hl)⟩, M.nl, M.nf, M.ne⟩
  · rw [upd_ne (fun c => by rw [c, M.nl] at e; cases e)]
    exact M.same _ _ e
  · rw [upd_ne (Ne.symm M.ne)]
    exact h3
theorem MS.putF {n : Nat} {H1 H : Hp} {Dl Df : Addr} {PL : List (List L2.Key × V) → Prop} {g : Nat → Nat → Option (Nat × Nat)} (M : MS K n H1 Dl Df H PL g) {kf : List (List L2.Key × V)} (hf : H Df = some (.dT kf)) (FI : FoundIs K n H kf g) {v s w j : Nat} (hv : v < n) (hs : s < 2) {t : Addr} (ht : SqT K H t [N w, N j]) :
    MS K n H1 Dl Df (upd H Df (.dT (putK kf (key v s) (.ref t)))) PL (fun a b => if a = s ∧ b = v then some (w, j) else g a b) := by
  obtain ⟨kl, h1, h2⟩ := M.el
  refine ⟨fun b u e => ?_, ⟨kl, ?_, h2⟩, ⟨_, upd_same, (FI.put hv hs ht).keep (KpT.updD hf)⟩, M.nl, M.nf, M.ne⟩
  · rw [upd_ne (fun c => by rw [c, M.nf] at e; cases e)]
    exact M.same _ _ e
  · rw [upd_ne M.ne]
    exact h1
theorem MS.list {n : Nat} {H1 H : Hp} {Dl Df D : Addr} {PL : List (List L2.Key × V) → Prop} {g : Nat → Nat → Option (Nat × Nat)} (M : MS K n H1 Dl Df H PL g) {ts us : List V} (hD : H D = some (.lst ts)) (hn : H1 D = none) : MS K n H1 Dl Df (upd H D (.lst us)) PL g := by
  obtain ⟨kl, h1, h2⟩ := M.el
  obtain ⟨kf, h3, h4⟩ := M.ef
  refine ⟨fun b u e => ?_, ⟨kl, ?_, h2⟩, ⟨kf, ?_, h4.keep (KpT.upd hD)⟩, M.nl, M.nf, M.ne⟩
  · rw [upd_ne (fun c => by rw [c, hn] at e; cases e)]
    exact M.same _ _ e
  · rw [upd_ne (fun c => by rw [← c, h1] at hD; cases hD)]
    exact h1
  · rw [upd_ne (fun c => by rw [← c, h3] at hD; cases hD)]
    exact h3
theorem FoundIs.congr {n : Nat} {H : Hp} {kvs : List (List L2.Key × V)} {g g' : Nat → Nat → Option (Nat × Nat)} (h : FoundIs K n H kvs g) (e : ∀ s v, s < 2 → v < n → g s v = g' s v) : FoundIs K n H kvs g' := by
  refine ⟨h.1, fun s v hs hv => ?_⟩
  have := h.2 s v hs hv
  rw [e s v hs hv] at this
  exact this
theorem MS.congr {n : Nat} {H1 H : Hp} {Dl Df : Addr} {PL : List (List L2.Key × V) → Prop} {g g' : Nat → Nat → Option (Nat × Nat)} (M : MS K n H1 Dl Df H PL g) (e : ∀ s v, s < 2 → v < n → g s v = g' s v) : MS K n H1 Dl Df H PL g' := by
  obtain ⟨kf, h3, h4⟩ := M.ef
  exact ⟨M.same, M.el, ⟨kf, h3, h4.congr e⟩, M.nl, M.nf, M.ne⟩
/-- left so far: those before (i, t) -/
def LeftP (o : Nat → Nat → List Nat) (n i t : Nat) (kl : List (List L2.Key × V)) : Prop := KeysIn n kl ∧ ∀ s v, v < n → (s < i ∨ (s = i ∧ v < t)) → valV kl (key v s) = some (.int ((o s v).length : Nat))
def gP (o : Nat → Nat → List Nat) (i t : Nat) (s v : Nat) : Option (Nat × Nat) := if (s < i ∨ (s = i ∧ v < t)) ∧ o s v = [] then some (1 - s, 0) else none
def InP (o : Nat → Nat → List Nat) (n i t : Nat) (ps : List (Nat × Nat)) : Prop := ps.Nodup ∧ ∀ v s, (v, s) ∈ ps ↔ v < n ∧ (s < i ∨ (s = i ∧ v < t)) ∧ o s v = []
theorem iteT' {c : Bool} {A B : Prop} (hc : c = true) (h : A) : if c = true then A else B := by rw [if_pos hc]; exact h
theorem iteF' {c : Bool} {A B : Prop} (hc : c = false) (h : B) : if c = true then A else B := by rw [if_neg (by rw [hc]; decide)]; exact h
theorem none_of {H H1 : Hp} {p : Addr} (s : Same H H1) (h : H1 p = none) : H p = none := by
  cases c : H p with
  | none => rfl
  | some u => rw [s _ _ c] at h; cases h
/-- what solved gives -/
def SolAt (K : PySem.W.Frag) (H : Hp) (p : Addr) (L R : List (List Nat)) (n : Nat) : Prop := ∃ kvs g, H p = some (.dT kvs) ∧ FoundIs K n H kvs g ∧ (∀ s v w j, s < 2 → v < n → At (op L R) j s v w → g s v = some (w, j)) ∧ ∀ s v, s < 2 → v < n → (∀ k, D (op L R) k s v = none) → g s v = none
def spSolved (K : PySem.W.Frag) : Sp := fun vs H Q _ => ∃ (v : V) (L R : List (List Nat)) (n : Nat), vs = [v] ∧ Dp K H v (grD L R) ∧ (L.length = n ∧ R.length = n ∧ n ≤ 144) ∧ (∀ r ∈ L, OkRow n r) ∧ (∀ r ∈ R, OkRow n r) ∧
  ∀ (p : Addr) H', Same H H' → H p = none → SolAt K H' p L R n → Q (.ref p) H'
theorem ok_solved {k : Nat} (T : Txt K mg) (G_back_edges : FnOk P w K mg base CX0 k T.a_back_edges T.d_back_edges ["graph"] (spBack K)) : FnOk P w K mg base CX0 (k + 1) T.a_solved T.d_solved ["graph"] (spSolved K) := by
  refine T.F_solved.ok sc_solved (fun vs H Q E h => ?_) (fun cdv A outer s H vs Q E hr h => ?_)
  · obtain ⟨v, L, R, n, rfl, _⟩ := h
    rfl
  obtain ⟨v, L, R, n, rfl, h1, ⟨lL, lR, n60⟩, okL, okR, q⟩ := h
  have hu : (A.deeper (PyProof.Rows.envOfC (Str.ofString "solved") (defScope s_solved) s.heap.objs.size T.a_solved cdv)).units + 1 < cLine := by have := hr.un; omega
  refine ⟨_, (pss_cons (ps_par (i := 1) (j := 2) rfl sc_solved.nd rfl rfl (by decide) rfl rfl (pa_cons (pe_call G_back_edges hr rfl T.g_back_edges T.F_back_edges.kp T.b_back_edges .nil pass0 (pa_cons (pv 0) pa_nil)) (pa_cons pe_dnewT pa_nil)) rfl)
  (pss_cons (ps_par (i := 3) (j := 4) rfl sc_solved.nd rfl rfl (by decide) rfl rfl (pa_cons pe_dnewT (pa_cons (pe_lst pa_nil) pa_nil)) rfl)
  (pss_cons (ps_for PassesOwn.never rfl (pi_tupK (K := K) rfl (pe_tup (pa_cons pe_int (pa_cons pe_int pa_nil)))) (pg_name (i := 5) sc_solved.nd rfl (Or.inl rfl))
  (pss_one (ps_for PassesOwn.never rfl (pi_enumT (K := K) rfl rfl T.m_enumerate (pa_cons (pe_ix (ix_tupK (K := K) rfl) (pv 0) (pv 5) (fun _ _ => rfl)) pa_nil)) (pg_tupK (K := K) (n := 2) rfl rfl (pgs_cons (pg_name (i := 6) sc_solved.nd rfl (Or.inl rfl)) (pgs_cons (pg_name (i := 7) sc_solved.nd rfl (Or.inl rfl)) pgs_nil)))
  (pss_cons (ps_dput hu (pv 2) (pe_tup (pa_cons (pv 6) (pa_cons (pv 5) pa_nil))) (pe_callB (call_lenK (K := K) rfl) rfl T.m_len PySem.boot_len (pa_cons (pv 7) pa_nil)) rfl)
  (pss_one (ps_if (pt_cmpR (op_eqDK (K := K) rfl hr.units) (pv 7) (pe_tup pa_nil) (nomark _))
  (pss_cons (ps_dput hu (pv 3) (pe_tup (pa_cons (pv 6) (pa_cons (pv 5) pa_nil))) (pe_tup (pa_cons (pe_op op_sub pe_int (pv 5)) (pa_cons pe_int pa_nil))) rfl)
  (pss_one (ps_expr (pe_bmK (K := K) rfl PySem.F.plainAttrs_list PySem.F.slot_list_append PySem.F.type_list_append mt_append (pv 4) (pa_cons (pe_tup (pa_cons (pv 6) (pa_cons (pv 5) pa_nil))) pa_nil)))))
  pss_nil))))))
  (pss_cons (ps_set (i := 8) sc_solved.nd rfl (Or.inl rfl) pe_int)
  (pss_cons (ps_while PassesOwn.never (pt_cmpR (op_neDK (K := K) rfl hr.units) (pv 4) (pe_lst pa_nil) (nomark _))
  (pss_cons (ps_par (i := 8) (j := 9) rfl sc_solved.nd rfl rfl (by decide) rfl rfl (pa_cons (pe_op op_add (pv 8) pe_int) (pa_cons (pe_lst pa_nil) pa_nil)) rfl)
  (pss_cons (ps_for PassesOwn.never rfl (pi_listK (K := K) rfl (pv 4)) (pg_tupK (K := K) (n := 2) rfl rfl (pgs_cons (pg_name (i := 6) sc_solved.nd rfl (Or.inl rfl)) (pgs_cons (pg_name (i := 5) sc_solved.nd rfl (Or.inl rfl)) pgs_nil)))
  (pss_cons (ps_set (i := 10) sc_solved.nd rfl (Or.inl rfl) (pe_ix (ix_tupK (K := K) rfl) (pe_dget hu (pv 3) (pe_tup (pa_cons (pv 6) (pa_cons (pv 5) pa_nil))) (fun _ _ => rfl)) pe_int (fun _ _ => rfl)))
  (pss_one (ps_for PassesOwn.never rfl (pi_listK (K := K) rfl (pe_ix (ix_listK (K := K) rfl) (pe_ix (ix_listK (K := K) rfl) (pv 1) (pe_op op_sub pe_int (pv 5)) (fun _ _ => rfl)) (pv 6) (fun _ _ => rfl))) (pg_name (i := 11) sc_solved.nd rfl (Or.inl rfl))
  (pss_cons (ps_set (i := 12) sc_solved.nd rfl (Or.inl rfl) (pe_tup (pa_cons (pv 11) (pa_cons (pe_op op_sub pe_int (pv 5)) pa_nil))))
  (pss_cons (ps_daug hu (pv 2) (pv 12) pe_int in_sub (fun _ _ _ => rfl))
  (pss_one (ps_if (PW.pt (pw_and (pt_cmp (pc_dnotin hu (pv 12) (pv 3))) (pw_and1 (PW.pt (pw_or (pt_cmpR op_eq (pv 10) (pe_op op_sub pe_int (pv 5)) (nomark _)) (pw_or1 (pt_cmpR op_eq (pe_dget hu (pv 2) (pv 12) (fun _ _ => rfl)) pe_int (nomark _))))))))
  (pss_cons (ps_dput hu (pv 3) (pv 12) (pe_tup (pa_cons (pv 10) (pa_cons (pv 8) pa_nil))) rfl)
  (pss_one (ps_expr (pe_bmK (K := K) rfl PySem.F.plainAttrs_list PySem.F.slot_list_append PySem.F.type_list_append mt_append (pv 9) (pa_cons (pv 12) pa_nil)))))
  pss_nil))))))))
  (pss_one (ps_set (i := 4) sc_solved.nd rfl (Or.inl rfl) (pv 9))))))
  (pss_one (ps_ret (pv 3)))))))), ?_⟩
  refine ⟨_, rfl, v, L, R, n, rfl, h1, ⟨lL, lR, n60⟩, okL, okR, fun pB b0 b1 H1 s1 hB hb0 hb1 => fun Dl hDl => ⟨_, _, rfl, ?_⟩⟩
  have h1_1 := dp_keep (.same s1) _ _ (pT_gr L R) h1
  have hoN : ∀ s v, (op L R s v).Nodup := fun s v => by
    have : OkRow n (row (side L R s) v) := by
      unfold side
      split
      · exact row_ok okL v
      · exact row_ok okR v
    exact this.1.imp fun {a b} h => Nat.ne_of_lt h
  have hoM : ∀ s v, ∀ q ∈ op L R s v, q < n := fun s v q hq => by
    have : OkRow n (row (side L R s) v) := by
      unfold side
      split
      · exact row_ok okL v
      · exact row_ok okR v
    exact this.2.1 q hq
  -- found, layer = {}, []
  refine fun Df hDf => ⟨by show 0 ≤ sizeLine; decide, fun D0 hD0 => ⟨_, _, rfl, ?_⟩⟩
  have t1 := same_new hDl (.dT [])
  have t2 := same_new hDf (.dT [])
  have t3 := same_new hD0 (.lst [])
  have hneD : Dl ≠ Df := ne_of_none upd_same hDf
  have hDfn : H1 Df = none := by
    cases hq : H1 Df with
    | none => rfl
    | some u => rw [t1 _ _ hq] at hDf; cases hDf
  have hD0n : H1 D0 = none := by
    cases hq : H1 D0 with
    | none => rfl
    | some u => rw [(t1.trans t2) _ _ hq] at hD0; cases hD0
  have hEl := (t2.trans t3) Dl _ upd_same
  have hEf := t3 Df _ upd_same
  have hE0 : upd (upd (upd H1 Dl (.dT [])) Df (.dT [])) D0 (.lst []) D0 = some (.lst []) := upd_same
  have tt := (t1.trans t2).trans t3
  generalize upd (upd (upd H1 Dl (.dT [])) Df (.dT [])) D0 (.lst []) = H2 at hEl hEf hE0 tt
  obtain ⟨ag, x1, x2, rfl, hSg, hLg, hRg⟩ := gr_at h1_1
  -- for side in (0, 1)
  refine ⟨by show 2 ≤ sizeLine; decide, fun t0 ht0 => ⟨t0, rfl, ⟨_, SqT.of upd_same⟩, ?_⟩⟩
  have t4 := same_new ht0 (.tup [V.int 0, V.int 1])
  have hT0 : upd H2 t0 (.tup [V.int 0, V.int 1]) t0 = some (.tup [V.int 0, V.int 1]) := upd_same
  generalize upd H2 t0 (.tup [V.int 0, V.int 1]) = H3 at t4 hT0
  have M0 : MS K n H1 Dl Df H3 (LeftP (op L R) n 0 0) (gP (op L R) 0 0) := by
    refine ⟨tt.trans t4, ⟨[], t4 _ _ hEl, ⟨List.nodup_nil, fun k h => (List.not_mem_nil h).elim⟩, fun s v _ h => by omega⟩, ⟨[], t4 _ _ hEf, ⟨List.nodup_nil, fun k h => (List.not_mem_nil h).elim⟩, fun s v hs hv => ?_⟩, hDl, hDfn, hneD⟩
    have : gP (op L R) 0 0 s v = none := if_neg (fun h => by omega)
    rw [this]
    rfl
  have hgood : ∀ i, i < 2 → Dp K H1 (if i = 0 then x1 else x2) (rowsD (side L R i)) ∧ (side L R i).length = n := by
    intro i hi
    have : i = 0 ∨ i = 1 := by omega
    rcases this with rfl | rfl
    · exact ⟨hLg, lL⟩
    · exact ⟨hRg, lR⟩
  refine for_tup (xs := [V.int 0, V.int 1]) (fun i σ' H' => ∃ (z5 z6 z7 : Option V) (ts : List V) (ps : List (Nat × Nat)), σ' = [some (.ref ag), some (.ref pB), some (.ref Dl), some (.ref Df), some (.ref D0), z5, z6, z7, none, none, none, none, none] ∧
    MS K n H1 Dl Df H' (LeftP (op L R) n i 0) (gP (op L R) i 0) ∧ Lay K H' D0 ts ps ∧ InP (op L R) n i 0 ps ∧ SqT K H' t0 [V.int 0, V.int 1]) ?_ ?_ ?_ ?_
  · exact ⟨none, none, none, [], [], rfl, M0, ⟨t4 _ _ hE0, .nil⟩, ⟨List.nodup_nil, fun v s => ⟨fun h => (List.not_mem_nil h).elim, fun h => by omega⟩⟩, SqT.of hT0⟩
  · rintro i σ' H' _ ⟨z5, z6, z7, ts, ps, rfl, _, _, _, h⟩
    exact h
  · rintro i x σ' H' hx ⟨z5, z6, z7, ts, ps, rfl, M, hLay, hIn, hT⟩
    have hi2 : i < 2 := (List.getElem?_eq_some_iff.mp hx).1
    obtain ⟨rfl, hat⟩ : x = N i ∧ atI [x1, x2] ((i : Nat) : Int) = some (if i = 0 then x1 else x2) := by
      have : i = 0 ∨ i = 1 := by omega
      rcases this with rfl | rfl
      · cases hx
        exact ⟨rfl, rfl⟩
      · cases hx
        exact ⟨rfl, rfl⟩
    obtain ⟨hFd, lF⟩ := hgood i hi2
    obtain ⟨aF, xF, eF, hSF, hlF, hAF⟩ := rows_at hFd
    rw [eF] at hat
    dsimp only [gName]
    -- for node, told in enumerate(graph[side])
    refine ⟨_, rfl, _, rfl, ag, _, _, _, rfl, rfl, sqT M.same hSg, hat, aF, xF, rfl, sqT M.same hSF, ?_⟩
    refine for_enumT (K := K) (a := aF) (xs := xF) (i1 := 6) (i2 := 7) (fun t σ2 H3' => ∃ (z6 z7 : Option V) (ts : List V) (ps : List (Nat × Nat)), σ2 = [some (.ref ag), some (.ref pB), some (.ref Dl), some (.ref Df), some (.ref D0), some (N i), z6, z7, none, none, none, none, none] ∧
      MS K n H1 Dl Df H3' (LeftP (op L R) n i t) (gP (op L R) i t) ∧ Lay K H3' D0 ts ps ∧ InP (op L R) n i t ps ∧ SqT K H3' t0 [V.int 0, V.int 1]) ?_ ?_ ?_ ?_
    · exact ⟨_, _, ts, ps, rfl, M, hLay, hIn, hT⟩
    · rintro t σ2 H3' _ ⟨z6', z7', ts', ps', rfl, M', _, _, _⟩
      exact sqT M'.same hSF
    · rintro t x σ2 H3' H4 hxt ⟨z6', z7', ts', ps', rfl, M', hLay', hIn', hT'⟩ s4
      have ht : t < n := by
        have := (List.getElem?_eq_some_iff.mp hxt).1
        omega
      obtain ⟨bF, atF, hTF⟩ := at_row' hAF (i := t) (by omega)
      rw [hxt] at atF
      obtain rfl := Option.some.inj atF
      have eop : op L R i t = row (side L R i) t := rfl
      rw [← eop] at hTF
      have M4 := M'.more s4
      have L4 := hLay'.more s4
      have hT4 := sqT s4 hT'
      have htb := sqT M4.same hTF
      -- left[node, side] = len(told)
      refine ⟨_, rfl, bF, _, rfl, .inr htb, _, rfl, _, rfl, _, rfl, by show 2 ≤ sizeLine; decide, fun kb hkb => ?_⟩
      have s5 := same_new hkb (.tup [V.int ((t : Nat) : Int), N i])
      have hkb5 : upd H4 kb (.tup [V.int ((t : Nat) : Int), N i]) kb = some (.tup ((key t i).map kV)) := upd_same
      show ∃ a H5, _ ∧ DPut (upd H4 kb (.tup [V.int ((t : Nat) : Int), N i])) _ _ _ _ ∧ _
      generalize upd H4 kb (.tup [V.int ((t : Nat) : Int), N i]) = H5 at s5 hkb5
      have M5 := M4.more s5
      have L5 := L4.more s5
      have hT5 := sqT s5 hT4
      obtain ⟨kl, hl, hPL⟩ := M5.el
      refine ⟨Dl, _, rfl, DPut.t hl hkb5 (hPL.1.small n60), ?_⟩
      rw [List.length_map]
      have M6 := M5.putL (PL' := LeftP (op L R) n i (t + 1)) (kl' := putK kl (key t i) (.int ((op L R i t).length : Nat))) hl ⟨hPL.1.put ht hi2 _, fun s v hv hc => by
        rw [valV_put]
        by_cases e : key v s = key t i
        · obtain ⟨rfl, rfl⟩ := key_inj e
          rw [if_pos rfl]
        · rw [if_neg e]
          refine hPL.2 s v hv ?_
          rcases hc with h | ⟨h1, h2⟩
          · exact .inl h
          · refine .inr ⟨h1, ?_⟩
            by_cases ev : v = t
            · subst h1 ev
              exact absurd rfl e
            · omega⟩
      have L6 := L5.dict (o := .dT (putK kl (key t i) (.int ((op L R i t).length : Nat)))) hl
      have hT6 := (KpT.updD (o := .dT (putK kl (key t i) (.int ((op L R i t).length : Nat)))) hl) K _ _ hT5
      have htb6 := sqT M6.same hTF
      generalize upd H5 Dl (.dT (putK kl (key t i) (.int ((op L R i t).length : Nat)))) = H6 at M6 L6 hT6 htb6
      -- if told == ()
      refine ⟨_, rfl, by show 0 ≤ sizeLine; decide, fun e he => ?_⟩
      have s7 := same_new he (.tup [])
      refine ⟨rowD (op L R i t), rowD [], row_of (sqT s7 htb6), row_of (ds := []) (SqT.of upd_same), (small_row _).ok (by decide), (small_row _).ok (by decide), ?_⟩
      generalize upd H6 e (.tup []) = H7 at s7
      have M7 := M6.more s7
      have L7 := L6.more s7
      have hT7 := sqT s7 hT6
      rw [eqv_row]
      refine ⟨_, rfl, ?_⟩
      have hgP : ∀ s v, ¬ (s = i ∧ v = t ∧ op L R s v = []) → gP (op L R) i (t + 1) s v = gP (op L R) i t s v := fun s v hn => by
        unfold gP
        by_cases c : (s < i ∨ (s = i ∧ v < t)) ∧ op L R s v = []
        · rw [if_pos c, if_pos ⟨by omega, c.2⟩]
        · rw [if_neg c, if_neg (fun h => ?_)]
          rcases h.1 with h1 | ⟨h1, h2⟩
          · exact c ⟨.inl h1, h.2⟩
          · by_cases ev : v = t
            · exact hn ⟨h1, ev, h.2⟩
            · exact c ⟨.inr ⟨h1, by omega⟩, h.2⟩
      by_cases c : op L R i t = []
      · rw [decide_eq_true c]
        refine iteT ?_
        -- found[node, side] = (1 - side, 0)
        refine ⟨_, rfl, _, _, rfl, rfl, by show 2 ≤ sizeLine; decide, fun tv htv => ?_⟩
        have s8 := same_new htv (.tup [V.int (1 - ((i : Nat) : Int)), V.int 0])
        have htv8 : upd H7 tv (.tup [V.int (1 - ((i : Nat) : Int)), V.int 0]) tv = some (.tup [N (1 - i), N 0]) := by
          rw [upd_same, show V.int (1 - ((i : Nat) : Int)) = N (1 - i) from congrArg V.int (by omega)]
          rfl
        generalize upd H7 tv (.tup [V.int (1 - ((i : Nat) : Int)), V.int 0]) = H8 at s8 htv8
        refine ⟨_, rfl, _, rfl, _, rfl, by show 2 ≤ sizeLine; decide, fun kb2 hkb2 => ?_⟩
        have s9 := same_new hkb2 (.tup [V.int ((t : Nat) : Int), N i])
        have hkb9 : upd H8 kb2 (.tup [V.int ((t : Nat) : Int), N i]) kb2 = some (.tup ((key t i).map kV)) := upd_same
        show ∃ a H5, _ ∧ DPut (upd H8 kb2 (.tup [V.int ((t : Nat) : Int), N i])) _ _ _ _ ∧ _
        generalize upd H8 kb2 (.tup [V.int ((t : Nat) : Int), N i]) = H9 at s9 hkb9
        have M9 := (M7.more s8).more s9
        have L9 := (L7.more s8).more s9
        have hT9 := sqT s9 (sqT s8 hT7)
        obtain ⟨kf, hf, hFI⟩ := M9.ef
        refine ⟨Df, _, rfl, DPut.t hf hkb9 (hFI.1.small n60), ?_⟩
        have M10 := M9.putF hf hFI ht hi2 (SqT.of (s9 _ _ htv8))
        have L10 := L9.dict (o := .dT (putK kf (key t i) (.ref tv))) hf
        have hT10 := (KpT.updD (o := .dT (putK kf (key t i) (.ref tv))) hf) K _ _ hT9
        generalize upd H9 Df (.dT (putK kf (key t i) (.ref tv))) = H10 at M10 L10 hT10
        -- layer.append((node, side))
        refine ⟨_, rfl, .inl ⟨rfl, _, SqL.of L10.1⟩, _, rfl, _, rfl, by show 2 ≤ sizeLine; decide, fun kb3 hkb3 => ?_⟩
        have s11 := same_new hkb3 (.tup [V.int ((t : Nat) : Int), N i])
        have hkb11 : upd H10 kb3 (.tup [V.int ((t : Nat) : Int), N i]) kb3 = some (.tup [N t, N i]) := upd_same
        generalize upd H10 kb3 (.tup [V.int ((t : Nat) : Int), N i]) = H11 at s11 hkb11
        have L11 := L10.more s11
        have hlen : ts'.length ≤ 300 := by
          have e1 := dps_len L11.2
          rw [List.length_map] at e1
          have e2 := nodup_le (l := ps') (m := places n) hIn'.1 (fun p hp => by
            obtain ⟨v, s⟩ := p
            have := (hIn'.2 v s).mp hp
            exact in_places.mpr ⟨this.1, by omega⟩)
          rw [places_len] at e2
          omega
        refine ⟨D0, _, _, rfl, rfl, L11.1, Nat.lt_of_le_of_lt hlen (by decide), _, _, ts' ++ [.ref kb3], ps' ++ [(t, i)], rfl, ?_, L11.app (SqT.of hkb11), ⟨?_, fun v s => ?_⟩, ?_⟩
        · refine ((M10.more s11).list L11.1 hD0n).congr fun s v hs hv => ?_
          by_cases e : s = i ∧ v = t
          · obtain ⟨rfl, rfl⟩ := e
            simp only [and_self, if_true]
            unfold gP
            rw [if_pos ⟨.inr ⟨rfl, by omega⟩, c⟩]
          · simp only [if_neg e]
            exact (hgP s v fun h => e ⟨h.1, h.2.1⟩).symm
        · refine List.nodup_append.mpr ⟨hIn'.1, by simp, fun x hx y hy e => ?_⟩
          rw [List.mem_singleton] at hy
          rw [e, hy] at hx
          have := (hIn'.2 t i).mp hx
          omega
        · rw [List.mem_append, List.mem_singleton, hIn'.2]
          constructor
          · rintro (⟨h1, h2, h3⟩ | h)
            · exact ⟨h1, by omega, h3⟩
            · cases h
              exact ⟨ht, by omega, c⟩
          · rintro ⟨h1, h2, h3⟩
            by_cases e : s = i ∧ v = t
            · rw [e.1, e.2]
              exact .inr rfl
            · exact .inl ⟨h1, by omega, h3⟩
        · exact (KpT.upd L11.1) K _ _ (sqT s11 hT10)
      · rw [decide_eq_false c]
        refine iteF ⟨_, _, ts', ps', rfl, M7.congr fun s v hs hv => (hgP s v fun h => c (by rw [← h.1, ← h.2.1]; exact h.2.2)).symm, L7, ⟨hIn'.1, fun v s => ?_⟩, hT7⟩
        rw [hIn'.2]
        constructor
        · rintro ⟨h1, h2, h3⟩
          exact ⟨h1, by omega, h3⟩
        · rintro ⟨h1, h2, h3⟩
          by_cases e : s = i ∧ v = t
          · rw [e.1, e.2] at h3
            exact absurd h3 c
          · exact ⟨h1, by omega, h3⟩
    · rintro σ2 H3' ⟨z6', z7', ts', ps', rfl, M', hLay', hIn', hT'⟩
      rw [hlF, lF] at M' hIn'
      refine ⟨_, _, _, ts', ps', rfl, ?_, hLay', ⟨hIn'.1, fun v s => ?_⟩, hT'⟩
      · obtain ⟨kl, h1, h2⟩ := M'.el
        obtain ⟨kf, h3, h4⟩ := M'.ef
        refine ⟨M'.same, ⟨kl, h1, h2.1, fun s v hv hc => h2.2 s v hv (by omega)⟩, ⟨kf, h3, h4.congr fun s v hs hv => ?_⟩, M'.nl, M'.nf, M'.ne⟩
        unfold gP
        by_cases c : op L R s v = []
        · by_cases c2 : s < i + 1
          · rw [if_pos ⟨by omega, c⟩, if_pos ⟨by omega, c⟩]
          · rw [if_neg (fun h => by omega), if_neg (fun h => by omega)]
        · rw [if_neg (fun h => c h.2), if_neg (fun h => c h.2)]
      · rw [hIn'.2]
        constructor
        · rintro ⟨h1, h2, h3⟩
          exact ⟨h1, by omega, h3⟩
        · rintro ⟨h1, h2, h3⟩
          exact ⟨h1, by omega, h3⟩
  · rintro σ' H' ⟨z5, z6, z7, ts, ps, rfl, M, hLay, hIn, hT⟩
    have hin2 : ∀ (i : Nat), [V.int 0, V.int 1].length = i → i = 2 := fun i h => h.symm
    dsimp only [gName]
    have o := op L R
    -- length = 0
    have M0' : MS K n H1 Dl Df H' (fun kl => LeftIs n kl (fun s v => ((op L R s v).length : Nat))) (gP (op L R) 2 0) := by
      obtain ⟨kl, h1, h2⟩ := M.el
      exact ⟨M.same, ⟨kl, h1, h2.1, fun s v hs hv => h2.2 s v hv (.inl hs)⟩, M.ef, M.nl, M.nf, M.ne⟩
    have Hd0 : Head (op L R) n 0 (fun s v => ((op L R s v).length : Nat)) (gP (op L R) 2 0) ps := by
      refine Head.zero (fun s v _ _ => rfl) (fun s v hs hv => ?_) (fun v s => ?_) hIn.1
      · unfold gP
        by_cases c : op L R s v = []
        · rw [if_pos ⟨.inl hs, c⟩, if_pos c]
        · rw [if_neg (fun h => c h.2), if_neg c]
      · have := hIn.2 v s
        rw [this]
        constructor
        · rintro ⟨h1, h2, h3⟩
          exact ⟨h1, by
            rcases h2 with h2 | ⟨_, h2⟩
            · exact h2
            · omega, h3⟩
        · rintro ⟨h1, h2, h3⟩
          exact ⟨h1, .inl h2, h3⟩
    -- while layer != []
    refine ⟨fun m σ2 H2 => ∃ (l : Nat) (z5 z6 z7 z9 z10 z11 z12 : Option V) (Dy : Addr) (ts : List V) (ps : List (Nat × Nat)) (f : Nat → Nat → Int) (g : Nat → Nat → Option (Nat × Nat)),
      σ2 = [some (.ref ag), some (.ref pB), some (.ref Dl), some (.ref Df), some (.ref Dy), z5, z6, z7, some (N l), z9, z10, z11, z12] ∧ MS K n H1 Dl Df H2 (fun kl => LeftIs n kl f) g ∧ Lay K H2 Dy ts ps ∧ H1 Dy = none ∧ Head (op L R) n l f g ps ∧ m = und (op L R) n l,
      ⟨_, 0, _, _, _, _, _, _, _, D0, ts, ps, _, _, rfl, M0', hLay, hD0n, Hd0, rfl⟩, ?_⟩
    rintro m σ2 H2' ⟨l, z5', z6', z7', z9, z10, z11, z12, Dy, ts', ps', f, g, rfl, M2, hL2, hDyn, Hd, rfl⟩
    refine ⟨_, rfl, by show 0 ≤ sizeLine; decide, fun e he => ?_⟩
    have se := same_new he (.lst [])
    refine ⟨.list (ps'.map posD), .list [], .lst (SqL.of (hL2.more se).1) (hL2.more se).2, .lst (SqL.of upd_same) .nil, ?_, rfl, _, rfl, ?_⟩
    · exact (Small.list (m := 1) fun d hd => by
        obtain ⟨z, _, rfl⟩ := List.mem_map.mp hd
        exact small_row _).ok (by decide)
    generalize upd H2' e (.lst []) = H3' at se
    have M3 := M2.more se
    have L3 := hL2.more se
    by_cases hps : ps' = []
    · subst hps
      have e1 : (!PyData.eqv (.list (([] : List (Nat × Nat)).map posD)) (.list [])) = false := by
        simp [PyData.eqv, PyData.eqvAll]
      rw [e1]
      refine iteF ⟨_, rfl, ?_⟩
      obtain ⟨kf, hf, hFI⟩ := M3.ef
      have noAt : ∀ s v w, s < 2 → v < n → ¬ At (op L R) l s v w := fun s v w hs hv hA => List.not_mem_nil ((Hd.mem v s).mpr ⟨hv, hs, w, hA⟩)
      have still := D_still (o := op L R) (n := n) (k := l) (fun s v _ _ q hq => hoM s v q hq) noAt
      refine q Df H3' (s1.trans M3.same) (none_of s1 M3.nf) ⟨kf, g, hf, hFI, fun s v w j hs hv hA => ?_, fun s v hs hv h => Hd.non s v hs hv (h _)⟩
      by_cases c : j ≤ l
      · exact Hd.old s v w j hs hv c hA
      · have e1 := still j (by omega) s v hs hv
        have e2 := still (j + 1) (by omega) s v hs hv
        rw [hA.1] at e1
        rw [hA.2, ← e1] at e2
        cases e2
    have e1 : (!PyData.eqv (.list (ps'.map posD)) (.list [])) = true := by
      cases ps' with
      | nil => exact absurd rfl hps
      | cons x y => simp [PyData.eqv, PyData.eqvAll]
    rw [e1]
    have hdec : und (op L R) n (l + 1) < und (op L R) n l := by
      cases hp' : ps' with
      | nil => exact absurd hp' hps
      | cons x y =>
        obtain ⟨v, s⟩ := x
        obtain ⟨hv, hs, w, hA⟩ := (Hd.mem v s).mp (by rw [hp']; exact List.mem_cons_self)
        exact und_lt hs hv hA
    refine iteT ⟨fun σ3 H4 => ∃ (z5 z6 z7 z9 z10 z11 z12 : Option V) (Dy : Addr) (ts : List V) (ps : List (Nat × Nat)) (f : Nat → Nat → Int) (g : Nat → Nat → Option (Nat × Nat)),
      σ3 = [some (.ref ag), some (.ref pB), some (.ref Dl), some (.ref Df), some (.ref Dy), z5, z6, z7, some (N (l + 1)), z9, z10, z11, z12] ∧ MS K n H1 Dl Df H4 (fun kl => LeftIs n kl f) g ∧ Lay K H4 Dy ts ps ∧ H1 Dy = none ∧ Head (op L R) n (l + 1) f g ps, fun σ3 H4 z => ?_, ?_⟩
    · obtain ⟨y5, y6, y7, y9, y10, y11, y12, Dy2, ts2, ps2, f2, g2, e2, m2, l2, d2, h2⟩ := z
      exact ⟨_, hdec, l + 1, y5, y6, y7, y9, y10, y11, y12, Dy2, ts2, ps2, f2, g2, e2, m2, l2, d2, h2, rfl⟩
    -- length, later = length + 1, []
    refine ⟨_, rfl, _, _, rfl, rfl, by show 0 ≤ sizeLine; decide, fun Dz hDz => ⟨_, _, rfl, ?_⟩⟩
    have sz := same_new hDz (.lst [])
    have hEz : upd H3' Dz (.lst []) Dz = some (.lst []) := upd_same
    have hyz : Dy ≠ Dz := ne_of_none L3.1 hDz
    have hDzn : H1 Dz = none := by
      cases hq : H1 Dz with
      | none => rfl
      | some u => rw [M3.same _ _ hq] at hDz; cases hDz
    generalize upd H3' Dz (.lst []) = H4' at sz hEz
    have M4 := M3.more sz
    have L4 := L3.more sz
    -- for node, side in layer
    refine ⟨_, rfl, Dy, rfl, ⟨_, SqL.of L4.1⟩, ?_⟩
    refine for_list (K := K) (a := Dy) (xs := ts') (fun i σ3 H5 => ∃ (z5 z6 z7 z10 z11 z12 : Option V) (us : List V) (rs : List (Nat × Nat)) (f : Nat → Nat → Int) (g : Nat → Nat → Option (Nat × Nat)),
      σ3 = [some (.ref ag), some (.ref pB), some (.ref Dl), some (.ref Df), some (.ref Dy), z5, z6, z7, some (N (l + 1)), some (.ref Dz), z10, z11, z12] ∧ MS K n H1 Dl Df H5 (fun kl => LeftIs n kl f) g ∧ Lay K H5 Dy ts' ps' ∧ Lay K H5 Dz us rs ∧ Sta (op L R) n (l + 1) (hdI (op L R) l (ps'.take i)) f g rs) ?_ ?_ ?_ ?_
    · refine ⟨_, _, _, _, _, _, [], [], f, g, rfl, M4, L4, ⟨hEz, .nil⟩, Hd.start.congr fun s v q _ _ _ => ?_⟩
      unfold hdI
      simp
    · rintro i σ3 H5 _ ⟨y5, y6, y7, y10, y11, y12, us, rs, f', g', rfl, _, hL5, _⟩
      exact SqL.of hL5.1
    · rintro i x σ3 H5 hx ⟨y5, y6, y7, y10, y11, y12, us, rs, f', g', rfl, M5, L5, Z5, S5⟩
      obtain ⟨dd, hdd, hdx⟩ := dps_at L5.2 i x hx
      rw [List.getElem?_map] at hdd
      obtain ⟨v0, s0, hp0, rfl⟩ : ∃ v0 s0, ps'[i]? = some (v0, s0) ∧ posD (v0, s0) = dd := by
        cases hq : ps'[i]? with
        | none => rw [hq] at hdd; cases hdd
        | some p => rw [hq] at hdd; exact ⟨p.1, p.2, rfl, Option.some.inj hdd⟩
      obtain ⟨bx, rfl, hbx⟩ := row_at hdx
      obtain ⟨hv0, hs0, w0, hA0⟩ := (Hd.mem v0 s0).mp (List.mem_of_getElem? hp0)
      have hlt := (List.getElem?_eq_some_iff.mp hp0).1
      have htk : ps'.take (i + 1) = ps'.take i ++ [(v0, s0)] := by rw [List.take_succ_eq_append_getElem hlt, (List.getElem?_eq_some_iff.mp hp0).2]
      have hnotin : (v0, s0) ∉ ps'.take i := fun h => by
        have hn := Hd.nd
        rw [← List.take_append_drop (i + 1) ps', htk] at hn
        have := (List.nodup_append.mp (List.nodup_append.mp hn).1).2.2 _ h _ (List.mem_singleton.mpr rfl)
        exact this rfl
      refine ⟨bx, _, rfl, hbx, rfl, _, _, rfl, _, _, rfl, rfl, ?_⟩
      -- winner = found[node, side][0]
      refine ⟨_, rfl, _, rfl, _, rfl, by show 2 ≤ sizeLine; decide, fun kb hkb => ?_⟩
      have s6 := same_new hkb (.tup [N v0, N s0])
      have hkb6 : upd H5 kb (.tup [N v0, N s0]) kb = some (.tup ((key v0 s0).map kV)) := upd_same
      show ∃ a v, _ ∧ DGet (upd H5 kb (.tup [N v0, N s0])) _ _ _ ∧ _
      generalize upd H5 kb (.tup [N v0, N s0]) = H6 at s6 hkb6
      have M6 := M5.more s6
      have L6 := L5.more s6
      have Z6 := Z5.more s6
      obtain ⟨kf, hf, hFI⟩ := M6.ef
      have hg0 := S5.old s0 v0 w0 l hs0 hv0 (Nat.lt_succ_self l) hA0
      have hfi := hFI.2 s0 v0 hs0 hv0
      rw [hg0] at hfi
      obtain ⟨tw, hval, htw⟩ := hfi
      refine ⟨Df, .ref tw, rfl, by rw [← hval]; exact DGet.t hf hkb6, tw, _, 0, N w0, rfl, rfl, htw, rfl, ?_⟩
      dsimp only [gName]
      -- behind[1 - side][node]
      have hsd : 1 - s0 < 2 := by omega
      have hi1 : 1 - ((s0 : Nat) : Int) = ((1 - s0 : Nat) : Int) := by omega
      obtain ⟨bb, hatB, hBA⟩ : ∃ bb, atI [V.ref b0, V.ref b1] (1 - ((s0 : Nat) : Int)) = some (.ref bb) ∧ BackAt H1 bb (side L R (1 - s0)) n := by
        have : s0 = 0 ∨ s0 = 1 := by omega
        rcases this with rfl | rfl
        · exact ⟨b1, rfl, hb1⟩
        · exact ⟨b0, rfl, hb0⟩
      obtain ⟨cs, hbb, hcl, hC⟩ := hBA
      have hcv : cs[v0]? = some cs[v0] := List.getElem?_eq_getElem (by omega)
      have hcc := hC.2 v0 _ hcv
      generalize hccn : cs[v0] = cc at hcv hcc
      refine ⟨_, rfl, _, rfl, _, _, rfl, rfl, pB, _, _, .ref bb, rfl, rfl, SqL.of (M6.same _ _ hB), hatB, _, rfl, bb, _, _, .ref cc, rfl, rfl, SqL.of (M6.same _ _ hbb), atI_nat (by rw [List.getElem?_map, hcv]; rfl), cc, rfl, ⟨_, SqL.of (M6.same _ _ hcc)⟩, ?_⟩
      have hpl : ∀ v, v ∈ pre (side L R (1 - s0)) n v0 ↔ v < n ∧ v0 ∈ op L R (1 - s0) v := fun v => by
        unfold pre
        rw [List.mem_filter, List.mem_range, decide_eq_true_eq]
        exact Iff.rfl
      have hplnd : (pre (side L R (1 - s0)) n v0).Nodup := List.nodup_range.filter _
      generalize pre (side L R (1 - s0)) n v0 = pl at hpl hplnd hcc
      refine for_list (K := K) (a := cc) (xs := pl.map N) (fun u σ4 H7 => ∃ (z11 z12 : Option V) (us : List V) (rs : List (Nat × Nat)) (f : Nat → Nat → Int) (g : Nat → Nat → Option (Nat × Nat)),
        σ4 = [some (.ref ag), some (.ref pB), some (.ref Dl), some (.ref Df), some (.ref Dy), some (N s0), some (N v0), y7, some (N (l + 1)), some (.ref Dz), some (N w0), z11, z12] ∧ MS K n H1 Dl Df H7 (fun kl => LeftIs n kl f) g ∧ Lay K H7 Dy ts' ps' ∧ Lay K H7 Dz us rs ∧ Sta (op L R) n (l + 1) (hdP (op L R) l (ps'.take i) v0 s0 (pl.take u)) f g rs) ?_ ?_ ?_ ?_
      · refine ⟨_, _, us, rs, f', g', rfl, M6, L6, Z6, ?_⟩
        rw [List.take_zero, hdP_nil]
        exact S5
      · rintro u σ4 H7 _ ⟨y11', y12', us', rs', f2, g2, rfl, M7, _⟩
        exact SqL.of (M7.same _ _ hcc)
      · rintro u x σ4 H7 hxu ⟨y11', y12', us', rs', f2, g2, rfl, M7, L7, Z7, S7⟩
        rw [List.getElem?_map] at hxu
        obtain ⟨v, hvu, rfl⟩ : ∃ v, pl[u]? = some v ∧ N v = x := by
          cases hq : pl[u]? with
          | none => rw [hq] at hxu; cases hxu
          | some v => rw [hq] at hxu; exact ⟨v, rfl, Option.some.inj hxu⟩
        obtain ⟨hvn, hv0o⟩ := (hpl v).mp (List.mem_of_getElem? hvu)
        have hult := (List.getElem?_eq_some_iff.mp hvu).1
        have hutk : pl.take (u + 1) = pl.take u ++ [v] := by rw [List.take_succ_eq_append_getElem hult, (List.getElem?_eq_some_iff.mp hvu).2]
        have hvnot : v ∉ pl.take u := fun h => by
          have hn := hplnd
          rw [← List.take_append_drop (u + 1) pl, hutk] at hn
          have := (List.nodup_append.mp (List.nodup_append.mp hn).1).2.2 _ h _ (List.mem_singleton.mpr rfl)
          exact this rfl
        have e11 : 1 - (1 - s0) = s0 := by omega
        have hfalse : hdP (op L R) l (ps'.take i) v0 s0 (pl.take u) (1 - s0) v v0 = false := by
          unfold hdP hdI hdk
          rw [e11, hA0.1]
          simp [hnotin, hvnot]
        have hDw : D (op L R) (l + 1) (1 - (1 - s0)) v0 = some w0 := by rw [e11]; exact hA0.2
        obtain ⟨Syes, Sno⟩ := S7.edge hsd hvn (hoN _ _) hv0o hfalse hDw
        rw [hdP_tell, ← hutk] at Syes Sno
        dsimp only [gName]
        -- place = (before, 1 - side)
        refine ⟨_, rfl, _, rfl, _, _, rfl, rfl, by show 2 ≤ sizeLine; decide, fun kp hkp => ?_⟩
        have s8 := same_new hkp (.tup [N v, V.int (1 - ((s0 : Nat) : Int))])
        have hkp8 : upd H7 kp (.tup [N v, V.int (1 - ((s0 : Nat) : Int))]) kp = some (.tup ((key v (1 - s0)).map kV)) := by
          rw [upd_same, hi1]
          rfl
        show tSeq _ _ _ _ (upd H7 kp (.tup [N v, V.int (1 - ((s0 : Nat) : Int))]))
        generalize upd H7 kp (.tup [N v, V.int (1 - ((s0 : Nat) : Int))]) = H8 at s8 hkp8
        have M8 := M7.more s8
        have L8 := L7.more s8
        have Z8 := Z7.more s8
        obtain ⟨kl, hl, hLI⟩ := M8.el
        -- left[place] -= 1
        refine ⟨_, rfl, _, rfl, Dl, .int (f2 (1 - s0) v), rfl, by rw [← hLI.2 (1 - s0) v hsd hvn]; exact DGet.t hl hkp8, _, _, rfl, rfl, _, DPut.t hl hkp8 (hLI.1.small n60), ?_⟩
        have M9 := M8.putL (PL' := fun kl => LeftIs n kl (fun a b => if a = 1 - s0 ∧ b = v then f2 (1 - s0) v - 1 else f2 a b)) (kl' := putK kl (key v (1 - s0)) (.int (f2 (1 - s0) v - 1))) hl (hLI.put hvn hsd _)
        have L9 := L8.dict (o := .dT (putK kl (key v (1 - s0)) (.int (f2 (1 - s0) v - 1)))) hl
        have Z9 := Z8.dict (o := .dT (putK kl (key v (1 - s0)) (.int (f2 (1 - s0) v - 1)))) hl
        have hkp9 : upd H8 Dl (.dT (putK kl (key v (1 - s0)) (.int (f2 (1 - s0) v - 1)))) kp = some (.tup ((key v (1 - s0)).map kV)) := by
          rw [upd_ne (fun c => by rw [c, hl] at hkp8; cases hkp8)]
          exact hkp8
        generalize upd H8 Dl (.dT (putK kl (key v (1 - s0)) (.int (f2 (1 - s0) v - 1)))) = H9 at M9 L9 Z9 hkp9
        -- if place not in found and ..
        obtain ⟨kf2, hf2, hFI2⟩ := M9.ef
        refine ⟨_, rfl, _, rfl, Df, _, rfl, DGet.t hf2 hkp9, _, rfl, ?_⟩
        have hfi2 := hFI2.2 (1 - s0) v hsd hvn
        cases hg : g2 (1 - s0) v with
        | some pp =>
          obtain ⟨w9, j9⟩ := pp
          rw [hg] at hfi2
          obtain ⟨t9, hv9, _⟩ := hfi2
          rw [hv9]
          refine iteF' rfl ⟨_, _, us', rs', _, _, rfl, M9, L9, Z9, Sno fun h => ?_⟩
          rw [hg] at h
          cases h.1
        | none =>
          rw [hg] at hfi2
          rw [show valV kf2 (key v (1 - s0)) = none from hfi2]
          refine iteT' rfl ?_
          refine ⟨_, rfl, _, rfl, _, _, rfl, rfl, rfl, _, rfl, ?_⟩
          by_cases c1 : w0 = 1 - s0
          · have hc : w0 = 1 - s0 ∨ f2 (1 - s0) v - 1 = 0 := .inl c1
            refine iteT' (decide_eq_true ?_) (iteT ?_)
            · show N w0 = V.int (1 - ((s0 : Nat) : Int))
              rw [hi1, c1]
            refine ⟨_, rfl, _, rfl, by show 2 ≤ sizeLine; decide, fun tv htv => ?_⟩
            have s10 := same_new htv (.tup [N w0, N (l + 1)])
            have htv10 : upd H9 tv (.tup [N w0, N (l + 1)]) tv = some (.tup [N w0, N (l + 1)]) := upd_same
            refine ⟨_, rfl, _, rfl, ?_⟩
            show ∃ a H5, _ ∧ DPut (upd H9 tv (.tup [N w0, N (l + 1)])) _ _ _ _ ∧ _
            generalize upd H9 tv (.tup [N w0, N (l + 1)]) = H10 at s10 htv10
            have M10 := M9.more s10
            have L10 := L9.more s10
            have Z10 := Z9.more s10
            have hkp10 := s10 _ _ hkp9
            obtain ⟨kf3, hf3, hFI3⟩ := M10.ef
            refine ⟨Df, _, rfl, DPut.t hf3 hkp10 (hFI3.1.small n60), ?_⟩
            have M11 := M10.putF hf3 hFI3 hvn hsd (SqT.of htv10)
            have L11 := L10.dict (o := .dT (putK kf3 (key v (1 - s0)) (.ref tv))) hf3
            have Z11 := Z10.dict (o := .dT (putK kf3 (key v (1 - s0)) (.ref tv))) hf3
            have hkp11 := (KpT.updD (o := .dT (putK kf3 (key v (1 - s0)) (.ref tv))) hf3) K _ _ (SqT.of hkp10)
            generalize upd H10 Df (.dT (putK kf3 (key v (1 - s0)) (.ref tv))) = H11 at M11 L11 Z11 hkp11
            have hlen : us'.length ≤ 300 := by
              have e1 := dps_len Z11.2
              rw [List.length_map] at e1
              have e2 := nodup_le (l := rs') (m := places n) S7.nd (fun p hp => by
                obtain ⟨v', s'⟩ := p
                have := (S7.mem v' s').mp hp
                exact in_places.mpr ⟨this.1, this.2.1⟩)
              rw [places_len] at e2
              omega
            refine ⟨_, rfl, .inl ⟨rfl, _, SqL.of Z11.1⟩, _, rfl, Dz, _, _, rfl, rfl, Z11.1, Nat.lt_of_le_of_lt hlen (by decide), ?_⟩
            exact ⟨_, _, us' ++ [.ref kp], rs' ++ [(v, 1 - s0)], _, _, rfl, M11.list Z11.1 hDzn, L11.list Z11.1 hyz, Z11.app hkp11, Syes ⟨hg, hc⟩⟩
          · refine iteF' (decide_eq_false fun h => c1 ?_) ?_
            · have h' : ((w0 : Nat) : Int) = 1 - ((s0 : Nat) : Int) := V.int.inj h
              omega
            obtain ⟨kl9, hl9, hLI9⟩ := M9.el
            have hv9 := hLI9.2 (1 - s0) v hsd hvn
            simp only [and_self, if_true] at hv9
            refine ⟨_, rfl, _, rfl, Dl, .int (f2 (1 - s0) v - 1), rfl, by rw [← hv9]; exact DGet.t hl9 hkp9, rfl, _, rfl, ?_⟩
            by_cases c2 : f2 (1 - s0) v - 1 = 0
            · have hc : w0 = 1 - s0 ∨ f2 (1 - s0) v - 1 = 0 := .inr c2
              refine iteT' (decide_eq_true (by rw [c2])) ?_
              refine ⟨_, rfl, _, rfl, by show 2 ≤ sizeLine; decide, fun tv htv => ?_⟩
              have s10 := same_new htv (.tup [N w0, N (l + 1)])
              have htv10 : upd H9 tv (.tup [N w0, N (l + 1)]) tv = some (.tup [N w0, N (l + 1)]) := upd_same
              refine ⟨_, rfl, _, rfl, ?_⟩
              show ∃ a H5, _ ∧ DPut (upd H9 tv (.tup [N w0, N (l + 1)])) _ _ _ _ ∧ _
              generalize upd H9 tv (.tup [N w0, N (l + 1)]) = H10 at s10 htv10
              have M10 := M9.more s10
              have L10 := L9.more s10
              have Z10 := Z9.more s10
              have hkp10 := s10 _ _ hkp9
              obtain ⟨kf3, hf3, hFI3⟩ := M10.ef
              refine ⟨Df, _, rfl, DPut.t hf3 hkp10 (hFI3.1.small n60), ?_⟩
              have M11 := M10.putF hf3 hFI3 hvn hsd (SqT.of htv10)
              have L11 := L10.dict (o := .dT (putK kf3 (key v (1 - s0)) (.ref tv))) hf3
              have Z11 := Z10.dict (o := .dT (putK kf3 (key v (1 - s0)) (.ref tv))) hf3
              have hkp11 := (KpT.updD (o := .dT (putK kf3 (key v (1 - s0)) (.ref tv))) hf3) K _ _ (SqT.of hkp10)
              generalize upd H10 Df (.dT (putK kf3 (key v (1 - s0)) (.ref tv))) = H11 at M11 L11 Z11 hkp11
              have hlen : us'.length ≤ 300 := by
                have e1 := dps_len Z11.2
                rw [List.length_map] at e1
                have e2 := nodup_le (l := rs') (m := places n) S7.nd (fun p hp => by
                  obtain ⟨v', s'⟩ := p
                  have := (S7.mem v' s').mp hp
                  exact in_places.mpr ⟨this.1, this.2.1⟩)
                rw [places_len] at e2
                omega
              refine ⟨_, rfl, .inl ⟨rfl, _, SqL.of Z11.1⟩, _, rfl, Dz, _, _, rfl, rfl, Z11.1, Nat.lt_of_le_of_lt hlen (by decide), ?_⟩
              exact ⟨_, _, us' ++ [.ref kp], rs' ++ [(v, 1 - s0)], _, _, rfl, M11.list Z11.1 hDzn, L11.list Z11.1 hyz, Z11.app hkp11, Syes ⟨hg, hc⟩⟩
            · refine iteF' (decide_eq_false fun h => c2 (V.int.inj h)) ⟨_, _, us', rs', _, _, rfl, M9, L9, Z9, Sno fun h => ?_⟩
              rcases h.2 with h | h
              · exact c1 h
              · exact c2 h
      · rintro σ4 H7 ⟨y11', y12', us', rs', f2, g2, rfl, M7, L7, Z7, S7⟩
        rw [List.length_map, List.take_length] at S7
        refine ⟨_, _, _, _, _, _, us', rs', f2, g2, rfl, M7, L7, Z7, S7.congr fun s v q hs hv hq => ?_⟩
        unfold hdP hdI
        rw [htk]
        have e2 : (decide (s = 1 - s0) && decide (v ∈ pl) && decide (q = v0)) = decide ((q, 1 - s) = (v0, s0)) := by
          by_cases c : q = v0 ∧ s = 1 - s0
          · obtain ⟨rfl, rfl⟩ := c
            have : v ∈ pl := (hpl v).mpr ⟨hv, hq⟩
            simp [this]
            omega
          · have hne : ¬ ((q, 1 - s) = (v0, s0)) := fun h => c ⟨(Prod.mk.inj h).1, by have := (Prod.mk.inj h).2; omega⟩
            rw [decide_eq_false hne]
            by_cases c1 : q = v0
            · have : ¬ s = 1 - s0 := fun h => c ⟨c1, h⟩
              simp [this]
            · simp [c1]
        rw [e2, Bool.or_assoc]
        congr 1
        simp [List.mem_append, Bool.decide_or]
    · rintro σ3 H5 ⟨y5, y6, y7, y10, y11, y12, us, rs, f', g', rfl, M5, L5, Z5, S5⟩
      refine ⟨_, rfl, ?_⟩
      have hlen := dps_len L5.2
      rw [List.length_map] at hlen
      rw [hlen, List.take_length] at S5
      refine ⟨_, _, _, _, _, _, _, Dz, us, rs, f', g', rfl, M5, Z5, hDzn, S5.finish fun s v q hs hv hq => ?_⟩
      unfold hdI
      rw [Bool.or_eq_true, decide_eq_true_eq, hdk_iff, Hd.mem]
      constructor
      · rintro (h | ⟨_, _, w, hA⟩)
        · cases hd : D (op L R) l (1 - s) q with
          | none => exact absurd hd h
          | some w => rw [D_succ hd]; simp
        · rw [hA.2]
          simp
      · intro h
        cases hd : D (op L R) l (1 - s) q with
        | some w => exact .inl (by simp)
        | none =>
          right
          cases hd2 : D (op L R) (l + 1) (1 - s) q with
          | none => exact absurd hd2 h
          | some w => exact ⟨hoM s v q hq, by omega, w, hd, hd2⟩
theorem SolAt.val {H : Hp} {p : Addr} {L R : List (List Nat)} {n : Nat} (h : SolAt K H p L R n) : ∃ kvs, H p = some (.dT kvs) ∧ FoundIs K n H kvs (gS (op L R)) := by
  obtain ⟨kvs, g, hp, hF, h1, h2⟩ := h
  refine ⟨kvs, hp, hF.congr fun s v hs hv => ?_⟩
  rcases gS_cases (op L R) s v with ⟨w, j, hA, e⟩ | ⟨hn, e⟩
  · rw [e, h1 s v w j hs hv hA]
  · rw [e, h2 s v hs hv hn]
theorem SolAt.more {H H' : Hp} {p : Addr} {L R : List (List Nat)} {n : Nat} (h : SolAt K H p L R n) (s : Same H H') : SolAt K H' p L R n := by
  obtain ⟨kvs, g, hp, hF, h1, h2⟩ := h
  exact ⟨kvs, g, s _ _ hp, hF.keep (.same s), h1, h2⟩
end
end K74


set_option Elab.async false
set_option linter.all false
set_option maxRecDepth 100000
set_option maxHeartbeats 4000000
namespace K74
open PySem L2 TG GM SV
section
variable {P : Program} {w : World} {K : PySem.W.Frag} {mg : Str → Option Value} {base : Heap}
/-- the word for who wins -/
def wordS (w : Nat) : Str := if w = 0 then Str.ofString "L" else Str.ofString "R"
def wD : Option (Nat × Nat) → PyData
  | none => .tuple [.str (Str.ofString "draw"), .none]
  | some (w, j) => .tuple [.str (wordS w), .int (j : Int)]
def pairD (g : Nat → Nat → Option (Nat × Nat)) (v : Nat) : PyData := .tuple [wD (g 0 v), wD (g 1 v)]
def solD (n : Nat) (g : Nat → Nat → Option (Nat × Nat)) : PyData := .tuple ((List.range n).map (pairD g))
theorem pT_w (x : Option (Nat × Nat)) : pT (wD x) = true := by
  cases x with
  | none => rfl
  | some p => rfl
theorem pT_pair (g : Nat → Nat → Option (Nat × Nat)) (v : Nat) : pT (pairD g v) = true := by
  unfold pairD pT
  refine pTs_all _ fun d hd => ?_
  simp only [List.mem_cons, List.not_mem_nil, or_false] at hd
  rcases hd with rfl | rfl <;> exact pT_w _
def spSolOf (K : PySem.W.Frag) : Sp := fun vs H Q _ => ∃ (v : V) (L R : List (List Nat)) (n : Nat), vs = [v] ∧ Dp K H v (grD L R) ∧ (L.length = n ∧ R.length = n ∧ n ≤ 144) ∧ (∀ r ∈ L, OkRow n r) ∧ (∀ r ∈ R, OkRow n r) ∧
  ∀ (v' : V) H', Same H H' → Dp K H' v' (solD n (gS (op L R))) → Q v' H'
theorem ok_solution_of {k : Nat} (T : Txt K mg) (G_solved : FnOk P w K mg base CX0 k T.a_solved T.d_solved ["graph"] (spSolved K)) : FnOk P w K mg base CX0 (k + 1) T.a_solution_of T.d_solution_of ["graph"] (spSolOf K) := by
  refine T.F_solution_of.ok sc_solution_of (fun vs H Q E h => ?_) (fun cdv A outer s H vs Q E hr h => ?_)
  · obtain ⟨v, L, R, n, rfl, _⟩ := h
    rfl
  obtain ⟨v, L, R, n, rfl, h1, ⟨lL, lR, n60⟩, okL, okR, q⟩ := h
  have hu : (A.deeper (PyProof.Rows.envOfC (Str.ofString "solution_of") (defScope s_solution_of) s.heap.objs.size T.a_solution_of cdv)).units + 1 < cLine := by have := hr.un; omega
  refine ⟨_, (pss_cons (ps_par (i := 1) (j := 2) rfl sc_solution_of.nd rfl rfl (by decide) rfl rfl (pa_cons (pe_call G_solved hr rfl T.g_solved T.F_solved.kp T.b_solved .nil pass0 (pa_cons (pv 0) pa_nil)) (pa_cons (pe_lst pa_nil) pa_nil)) rfl)
  (pss_cons (ps_for PassesOwn.never rfl (pi_range1 rfl T.m_range (pa_cons (pe_callB (call_lenK (K := K) rfl) rfl T.m_len PySem.boot_len (pa_cons (pe_ix (ix_tupK (K := K) rfl) (pv 0) pe_int (fun _ _ => rfl)) pa_nil)) pa_nil)) (pg_name (i := 3) sc_solution_of.nd rfl (Or.inl rfl))
  (pss_cons (ps_set (i := 4) sc_solution_of.nd rfl (Or.inl rfl) (pe_lst pa_nil))
  (pss_cons (ps_for PassesOwn.never rfl (pi_tupK (K := K) rfl (pe_tup (pa_cons pe_int (pa_cons pe_int pa_nil)))) (pg_name (i := 5) sc_solution_of.nd rfl (Or.inl rfl))
  (pss_cons (ps_set (i := 6) sc_solution_of.nd rfl (Or.inl rfl) (pe_dget1 hu (pv 1) (pe_tup (pa_cons (pv 3) (pa_cons (pv 5) pa_nil))) ⟨rfl, rfl, rfl, rfl⟩))
  (pss_one (ps_expr (pe_bmK (K := K) rfl PySem.F.plainAttrs_list PySem.F.slot_list_append PySem.F.type_list_append mt_append (pv 4) (pa_cons (pe_ifExp (pt_cmpR op_isN (pv 6) pe_non (nomark _)) (pe_tup (pa_cons (pe_glob (v := .str "draw") rfl T.c_DRAW ⟨_, rfl⟩) (pa_cons pe_non pa_nil))) (pe_tup (pa_cons (pe_ix ix_str (pe_glob (v := .str "LR") rfl T.c_PLAYERS ⟨_, rfl⟩) (pe_ix (ix_tupK (K := K) rfl) (pv 6) pe_int (fun _ _ => rfl)) (fun _ _ => rfl)) (pa_cons (pe_ix (ix_tupK (K := K) rfl) (pv 6) pe_int (fun _ _ => rfl)) pa_nil)))) pa_nil))))))
  (pss_one (ps_expr (pe_bmK (K := K) rfl PySem.F.plainAttrs_list PySem.F.slot_list_append PySem.F.type_list_append mt_append (pv 2) (pa_cons (pe_callTy (call_tuple_ofK (K := K) rfl) rfl T.m_tuple (by decide +kernel) (pa_cons (pv 4) pa_nil)) pa_nil)))))))
  (pss_one (ps_ret (pe_callTy (call_tuple_ofK (K := K) rfl) rfl T.m_tuple (by decide +kernel) (pa_cons (pv 2) pa_nil)))))), ?_⟩
  refine ⟨_, rfl, v, L, R, n, rfl, h1, ⟨lL, lR, n60⟩, okL, okR, fun pS H1 s1 _ hSol => ⟨by show 0 ≤ sizeLine; decide, fun Dr hDr => ⟨_, _, rfl, ?_⟩⟩⟩
  have s2 := same_new hDr (.lst [])
  have h1_1 := dp_keep (.same s1) _ _ (pT_gr L R) h1
  obtain ⟨ag, x1, x2, rfl, hSg, hLg, hRg⟩ := gr_at h1_1
  obtain ⟨aL, xL, rfl, hSL, hlL, hAL⟩ := rows_at hLg
  -- for node in range(len(graph[0]))
  refine ⟨_, rfl, ag, _, 0, _, rfl, rfl, sqT s2 hSg, rfl, aL, _, rfl, .inr (sqT s2 hSL), _, rfl, ?_⟩
  rw [hlL, lL]
  refine ⟨by omega, by omega, ?_⟩
  have hSolV := fun (H' : Hp) (s : Same H1 H') => (hSol.more s).val
  generalize hgg : gS (op L R) = g at q hSolV
  have hDrn : H1 Dr = none := hDr
  refine for_range (lo := 0) (n := n) (fun v σ' H' => ∃ (z3 z4 z5 z6 : Option V) (us : List V), σ' = [some (.ref ag), some (.ref pS), some (.ref Dr), z3, z4, z5, z6] ∧ H' Dr = some (.lst us) ∧ DpAll K H' us ((List.range v).map (pairD g)) ∧ Same H1 H') ?_ ?_ ?_
  · exact ⟨none, none, none, none, [], rfl, upd_same, .nil, s2⟩
  · rintro v σ' H' hv ⟨z3, z4, z5, z6, us, rfl, hE, hA, sm⟩
    rw [Int.zero_add]
    dsimp only [gName]
    -- pair = []
    refine ⟨by show 0 ≤ sizeLine; decide, fun Dp' hDp => ?_⟩
    have sp := same_new hDp (.lst [])
    have hEp : upd H' Dp' (.lst []) Dp' = some (.lst []) := upd_same
    have hrp : Dr ≠ Dp' := ne_of_none hE hDp
    generalize upd H' Dp' (.lst []) = H2 at sp hEp
    -- for side in (0, 1)
    refine ⟨by show 2 ≤ sizeLine; decide, fun t0 ht0 => ⟨t0, rfl, ⟨_, SqT.of upd_same⟩, ?_⟩⟩
    have st := same_new ht0 (.tup [V.int 0, V.int 1])
    have hT0 : upd H2 t0 (.tup [V.int 0, V.int 1]) t0 = some (.tup [V.int 0, V.int 1]) := upd_same
    generalize upd H2 t0 (.tup [V.int 0, V.int 1]) = H3 at st hT0
    refine for_tup (xs := [V.int 0, V.int 1]) (fun i σ2 H4 => ∃ (y5 y6 : Option V) (ps : List V), σ2 = [some (.ref ag), some (.ref pS), some (.ref Dr), some (N v), some (.ref Dp'), y5, y6] ∧ H4 Dp' = some (.lst ps) ∧ DpAll K H4 ps ([wD (g 0 v), wD (g 1 v)].take i) ∧ Same H' H4 ∧ SqT K H4 t0 [V.int 0, V.int 1]) ?_ ?_ ?_ ?_
    · exact ⟨_, _, [], rfl, st _ _ hEp, .nil, sp.trans st, SqT.of hT0⟩
    · rintro i σ2 H4 _ ⟨y5, y6, ps, rfl, _, _, _, h⟩
      exact h
    · rintro i x σ2 H4 hx ⟨y5, y6, ps, rfl, hE4, hA4, s4, hT4⟩
      have hi2 : i < 2 := (List.getElem?_eq_some_iff.mp hx).1
      obtain ⟨rfl, htk⟩ : x = N i ∧ [wD (g 0 v), wD (g 1 v)].take (i + 1) = [wD (g 0 v), wD (g 1 v)].take i ++ [wD (g i v)] := by
        have : i = 0 ∨ i = 1 := by omega
        rcases this with rfl | rfl
        · cases hx
          exact ⟨rfl, rfl⟩
        · cases hx
          exact ⟨rfl, rfl⟩
      dsimp only [gName]
      obtain ⟨kvs, hp, hF⟩ := hSolV H4 (sm.trans s4)
      -- told = found.get((node, side))
      refine ⟨_, rfl, pS, rfl, .inr ⟨kvs, .inl hp⟩, _, rfl, _, rfl, by show 2 ≤ sizeLine; decide, fun kb hkb => ?_⟩
      have s5 := same_new hkb (.tup [N v, N i])
      have hkb5 : upd H4 kb (.tup [N v, N i]) kb = some (.tup ((key v i).map kV)) := upd_same
      show ∃ o, DGet (upd H4 kb (.tup [N v, N i])) _ _ _ ∧ _
      generalize upd H4 kb (.tup [N v, N i]) = H5 at s5 hkb5
      refine ⟨_, DGet.t (s5 _ _ hp) hkb5, ?_⟩
      have hfi := (hF.keep (.same s5)).2 i v hi2 hv
      have hE5 := s5 _ _ hE4
      have hpl := dps_len hA4
      have hpl2 : ps.length ≤ 2 := by
        rw [hpl, List.length_take]
        show min i 2 ≤ 2
        omega
      cases hg : g i v with
      | none =>
        rw [hg] at hfi
        rw [show valV kvs (key v i) = none from hfi]
        refine ⟨_, rfl, .inl ⟨rfl, _, SqL.of hE5⟩, _, rfl, rfl, _, rfl, iteT ⟨by show 2 ≤ sizeLine; decide, fun t ht => ?_⟩⟩
        have s6 := same_new ht (.tup [V.str (Str.ofString "draw"), V.non])
        have ht6 : upd H5 t (.tup [V.str (Str.ofString "draw"), V.non]) t = some (.tup [V.str (Str.ofString "draw"), V.non]) := upd_same
        generalize upd H5 t (.tup [V.str (Str.ofString "draw"), V.non]) = H6 at s6 ht6
        have hE6 := s6 _ _ hE5
        have k1 : KpT H6 (upd H6 Dp' (.lst (ps ++ [.ref t]))) := .upd hE6
        refine ⟨Dp', _, _, rfl, rfl, hE6, Nat.lt_of_le_of_lt hpl2 (by decide), _, _, ps ++ [.ref t], rfl, upd_same, ?_, ?_, k1 K _ _ (sqT (s5.trans s6) hT4)⟩
        · rw [htk]
          refine dps_snoc (dps_keep ((KpT.same (s5.trans s6)).trans k1) _ _ (pTs_all _ fun d hd => ?_) hA4) ?_
          · have hd' := List.mem_of_mem_take hd
            simp only [List.mem_cons, List.not_mem_nil, or_false] at hd'
            rcases hd' with rfl | rfl <;> exact pT_w _
          · rw [hg]
            exact .tup (k1 K _ _ (SqT.of ht6)) (.cons (.str _) (.cons .non .nil))
        · intro b' u' hu'
          rw [upd_ne (fun c => by rw [c, hDp] at hu'; cases hu')]
          exact s6 _ _ (s5 _ _ (s4 _ _ hu'))
      | some pp =>
        obtain ⟨w, j⟩ := pp
        rw [hg] at hfi
        obtain ⟨tw, hval, htw⟩ := hfi
        rw [hval]
        refine ⟨_, rfl, .inl ⟨rfl, _, SqL.of hE5⟩, _, rfl, rfl, _, rfl, iteF ?_⟩
        have hw2 : w = 0 ∨ w = 1 := by
          rw [← hgg] at hg
          rcases gS_cases (op L R) i v with ⟨w', j', hA', e⟩ | ⟨_, e⟩
          · rw [e] at hg
            cases hg
            have := D_two hi2 hA'.2
            omega
          · rw [e] at hg
            cases hg
        obtain ⟨c, hc1, hc2⟩ : ∃ c, atI (Str.ofString "LR").cps.toList ((w : Nat) : Int) = some c ∧ (⟨#[c]⟩ : Str) = wordS w := by
          rcases hw2 with rfl | rfl
          · exact ⟨76, rfl, by decide +kernel⟩
          · exact ⟨82, rfl, by decide +kernel⟩
        refine ⟨_, rfl, tw, _, 0, N w, rfl, rfl, htw, rfl, _, _, c, rfl, rfl, by decide +kernel, hc1, _, rfl, tw, _, 1, N j, rfl, rfl, htw, rfl, by show 2 ≤ sizeLine; decide, fun t ht => ?_⟩
        rw [hc2]
        have s6 := same_new ht (.tup [V.str (wordS w), N j])
        have ht6 : upd H5 t (.tup [V.str (wordS w), N j]) t = some (.tup [V.str (wordS w), N j]) := upd_same
        generalize upd H5 t (.tup [V.str (wordS w), N j]) = H6 at s6 ht6
        have hE6 := s6 _ _ hE5
        have k1 : KpT H6 (upd H6 Dp' (.lst (ps ++ [.ref t]))) := .upd hE6
        refine ⟨Dp', _, _, rfl, rfl, hE6, Nat.lt_of_le_of_lt hpl2 (by decide), _, _, ps ++ [.ref t], rfl, upd_same, ?_, ?_, k1 K _ _ (sqT (s5.trans s6) hT4)⟩
        · rw [htk]
          refine dps_snoc (dps_keep ((KpT.same (s5.trans s6)).trans k1) _ _ (pTs_all _ fun d hd => ?_) hA4) ?_
          · have hd' := List.mem_of_mem_take hd
            simp only [List.mem_cons, List.not_mem_nil, or_false] at hd'
            rcases hd' with rfl | rfl <;> exact pT_w _
          · rw [hg]
            exact .tup (k1 K _ _ (SqT.of ht6)) (.cons (.str _) (.cons (.int _) .nil))
        · intro b' u' hu'
          rw [upd_ne (fun c => by rw [c, hDp] at hu'; cases hu')]
          exact s6 _ _ (s5 _ _ (s4 _ _ hu'))
    · rintro σ2 H4 ⟨y5, y6, ps, rfl, hE4, hA4, s4, hT4⟩
      -- rows.append(tuple(pair))
      have hr4 := s4 _ _ hE
      refine ⟨_, rfl, .inl ⟨rfl, _, SqL.of hr4⟩, _, rfl, Dp', _, rfl, .inl ⟨SqL.of hE4, fun t ht => ?_⟩⟩
      have s5 := same_new ht (.tup ps)
      have ht5 : upd H4 t (.tup ps) t = some (.tup ps) := upd_same
      generalize upd H4 t (.tup ps) = H5 at s5 ht5
      have hr5 := s5 _ _ hr4
      have hul := dps_len hA
      rw [List.length_map, List.length_range] at hul
      have k1 : KpT H5 (upd H5 Dr (.lst (us ++ [.ref t]))) := .upd hr5
      refine ⟨Dr, _, _, rfl, rfl, hr5, Nat.lt_of_le_of_lt (by omega : us.length ≤ 144) (by decide), _, _, _, _, us ++ [.ref t], rfl, upd_same, ?_, ?_⟩
      · rw [List.range_succ, List.map_append]
        refine dps_snoc (dps_keep (((KpT.same s4).trans (.same s5)).trans k1) _ _ (pTs_all _ fun d hd => by
          obtain ⟨z, _, rfl⟩ := List.mem_map.mp hd
          exact pT_pair g z) hA) ?_
        exact .tup (k1 K _ _ (SqT.of ht5)) (dps_keep ((KpT.same s5).trans k1) _ _ (pTs_all _ fun d hd => by
          simp only [List.mem_cons, List.not_mem_nil, or_false] at hd
          rcases hd with rfl | rfl <;> exact pT_w _) hA4)
      · intro b' u' hu'
        rw [upd_ne (fun c => by rw [c, hDrn] at hu'; cases hu')]
        exact s5 _ _ (s4 _ _ (sm _ _ hu'))
  · rintro σ' H' ⟨z3, z4, z5, z6, us, rfl, hE, hA, sm⟩
    refine ⟨_, rfl, Dr, _, rfl, .inl ⟨SqL.of hE, fun t ht => ?_⟩⟩
    have s3 := same_new ht (.tup us)
    exact q _ _ ((s1.trans sm).trans s3) (.tup (SqT.of upd_same) (dps_keep (.same s3) _ _ (pTs_all _ fun d hd => by
      obtain ⟨z, _, rfl⟩ := List.mem_map.mp hd
      exact pT_pair g z) hA))
end
end K74


set_option Elab.async false
set_option linter.all false
set_option maxRecDepth 100000
set_option maxHeartbeats 4000000
namespace K74
open PySem L2 TG GM SV
section
variable {P : Program} {w : World} {K : PySem.W.Frag} {mg : Str → Option Value} {base : Heap}
/-- what is decided before the stage k -/
noncomputable def gB (o : Nat → Nat → List Nat) (k s v : Nat) : Option (Nat × Nat) := match D o k s v with
  | none => none
  | some _ => gS o s v
theorem gB_none {o : Nat → Nat → List Nat} {k s v : Nat} (h : D o k s v = none) : gB o k s v = none := by
  unfold gB
  rw [h]
theorem gB_some {o : Nat → Nat → List Nat} {k s v w : Nat} (h : D o k s v = some w) : gB o k s v = gS o s v := by
  unfold gB
  rw [h]
/-- the winner before the stage k, 2 if there is none -/
def wn (o : Nat → Nat → List Nat) (k s v : Nat) : Nat := (D o k s v).getD 2
theorem wn_eq {o : Nat → Nat → List Nat} {k s v w : Nat} (hw : w < 2) : wn o k s v = w ↔ D o k s v = some w := by
  unfold wn
  cases D o k s v with
  | none => simp; omega
  | some x => simp
/-- found at the stage k among those before (i, t) -/
noncomputable def gM (o : Nat → Nat → List Nat) (k i t s v : Nat) : Option (Nat × Nat) := if (s < i ∨ (s = i ∧ v < t)) then (match D o k s v with
  | none => gB o (k + 1) s v
  | some _ => none) else none
structure T2 (K : PySem.W.Frag) (n : Nat) (H1 : Hp) (Df Dm : Addr) (H : Hp) (g g' : Nat → Nat → Option (Nat × Nat)) : Prop where
  same : Same H1 H
  ef : ∃ kf, H Df = some (.dT kf) ∧ FoundIs K n H kf g
  em : ∃ km, H Dm = some (.dT km) ∧ FoundIs K n H km g'
  nf : H1 Df = none
  nm : H1 Dm = none
  ne : Df ≠ Dm
theorem T2.more {n : Nat} {H1 H H' : Hp} {Df Dm : Addr} {g g' : Nat → Nat → Option (Nat × Nat)} (M : T2 K n H1 Df Dm H g g') (s : Same H H') : T2 K n H1 Df Dm H' g g' := by
  obtain ⟨kl, h1, h2⟩ := M.ef
  obtain ⟨kf, h3, h4⟩ := M.em
  exact ⟨M.same.trans s, ⟨kl, s _ _ h1, h2.keep (.same s)⟩, ⟨kf, s _ _ h3, h4.keep (.same s)⟩, M.nf, M.nm, M.ne⟩
theorem T2.put {n : Nat} {H1 H : Hp} {Df Dm : Addr} {g g' g2 : Nat → Nat → Option (Nat × Nat)} (M : T2 K n H1 Df Dm H g g') {km : List (List L2.Key × V)} (hm : H Dm = some (.dT km)) (FI : FoundIs K n H km g') {v s w j : Nat} (hv : v < n) (hs : s < 2) {t : Addr} (ht : SqT K H t [N w, N j]) (e : ∀ a b, a < 2 → b < n → (if a = s ∧ b = v then some (w, j) else g' a b) = g2 a b) :
    T2 K n H1 Df Dm (upd H Dm (.dT (putK km (key v s) (.ref t)))) g g2 := by
  obtain ⟨kl, h1, h2⟩ := M.ef
  refine ⟨fun b u e => ?_, ⟨kl, ?_, h2.keep (KpT.updD hm)⟩, ⟨_, upd_same, ((FI.put hv hs ht).keep (KpT.updD hm)).congr e⟩, M.nf, M.nm, M.ne⟩
  · rw [upd_ne (fun c => by rw [c, M.nm] at e; cases e)]
    exact M.same _ _ e
  · rw [upd_ne M.ne]
    exact h1
theorem T2.congr {n : Nat} {H1 H : Hp} {Df Dm : Addr} {g g' g2 : Nat → Nat → Option (Nat × Nat)} (M : T2 K n H1 Df Dm H g g') (e : ∀ s v, s < 2 → v < n → g' s v = g2 s v) : T2 K n H1 Df Dm H g g2 := by
  obtain ⟨kf, h3, h4⟩ := M.em
  exact ⟨M.same, M.ef, ⟨kf, h3, h4.congr e⟩, M.nf, M.nm, M.ne⟩
theorem gM_step {o : Nat → Nat → List Nat} {k i t s v : Nat} (h : ¬ (s = i ∧ v = t)) : gM o k i (t + 1) s v = gM o k i t s v := by
  unfold gM
  by_cases c : s < i ∨ (s = i ∧ v < t)
  · rw [if_pos c, if_pos (by omega)]
  · rw [if_neg c, if_neg (by omega)]
theorem gM_here {o : Nat → Nat → List Nat} {k i t : Nat} (h : D o k i t = none) : gM o k i (t + 1) i t = gB o (k + 1) i t := by
  unfold gM
  rw [if_pos (by omega), h]
theorem gM_old {o : Nat → Nat → List Nat} {k i t w : Nat} (h : D o k i t = some w) : gM o k i (t + 1) i t = none := by
  unfold gM
  rw [if_pos (by omega), h]
theorem gM_not {o : Nat → Nat → List Nat} {k i t : Nat} : gM o k i t i t = none := by
  unfold gM
  rw [if_neg (by omega)]
noncomputable def sel (X : List (List L2.Key)) (k : List L2.Key) (a b : Option (Nat × Nat)) : Option (Nat × Nat) := @ite _ (k ∈ X) (Classical.propDecidable _) a b
theorem sel_pos {X : List (List L2.Key)} {k : List L2.Key} {a b : Option (Nat × Nat)} (h : k ∈ X) : sel X k a b = a := by
  unfold sel
  rw [if_pos h]
theorem sel_neg {X : List (List L2.Key)} {k : List L2.Key} {a b : Option (Nat × Nat)} (h : ¬ k ∈ X) : sel X k a b = b := by
  unfold sel
  rw [if_neg h]
theorem val_of : ∀ {kvs : List (List L2.Key × V)} {i : Nat} {k : List L2.Key} {v : V}, (kvs.map (·.1)).Nodup → kvs[i]? = some (k, v) → valV kvs k = some v
  | [], _, _, _, _, h => by cases h
  | p :: r, 0, k, v, hn, h => by
    cases h
    exact valV_pos (p := (k, v)) rfl
  | p :: r, i + 1, k, v, hn, h => by
    have hn' := List.nodup_cons.mp hn
    have h' : r[i]? = some (k, v) := by simpa using h
    rw [valV_neg (fun e => hn'.1 (List.mem_map.mpr ⟨_, List.mem_of_getElem? h', e.symm⟩))]
    exact val_of hn'.2 h'
theorem key_in {n : Nat} {H : Hp} {kvs : List (List L2.Key × V)} {g : Nat → Nat → Option (Nat × Nat)} (h : FoundIs K n H kvs g) {s v : Nat} (hs : s < 2) (hv : v < n) : key v s ∈ kvs.map (·.1) ↔ g s v ≠ none := by
  have := h.2 s v hs hv
  cases hg : g s v with
  | none =>
    rw [hg] at this
    have hn := val_none (show valV kvs (key v s) = none from this)
    exact ⟨fun h => absurd h hn, fun h => absurd rfl h⟩
  | some p =>
    obtain ⟨w, j⟩ := p
    rw [hg] at this
    obtain ⟨t, h1, _⟩ := this
    exact ⟨fun _ => by simp, fun _ => valV_in h1⟩
theorem in_N (x : Nat) (ds : List Nat) : inV (N x) (ds.map N) = decide (x ∈ ds) := by
  have e : ds.map N = (ds.map fun n : Nat => (n : Int)).map V.int := by
    rw [List.map_map]
    rfl
  rw [e, int_in]
  by_cases c : x ∈ ds
  · rw [decide_eq_true c, decide_eq_true]
    exact List.mem_map.mpr ⟨x, c, rfl⟩
  · rw [decide_eq_false c, decide_eq_false]
    intro h
    obtain ⟨y, hy, e⟩ := List.mem_map.mp h
    have : y = x := by omega
    exact c (this ▸ hy)
theorem flat_N (ds : List Nat) : (ds.map N).all flatV = true := by
  have e : ds.map N = (ds.map fun n : Nat => (n : Int)).map V.int := by
    rw [List.map_map]
    rfl
  rw [e]
  exact ints_flat _
def spEnds (K : PySem.W.Frag) : Sp := fun vs H Q _ => ∃ (v : V) (L R : List (List Nat)) (n : Nat), vs = [v] ∧ Dp K H v (grD L R) ∧ (L.length = n ∧ R.length = n ∧ n ≤ 144) ∧ (∀ r ∈ L, OkRow n r) ∧ (∀ r ∈ R, OkRow n r) ∧
  ∀ (p : Addr) H', Same H H' → H p = none → SolAt K H' p L R n → Q (.ref p) H'
theorem ok_ends {k : Nat} (T : Txt K mg) : FnOk P w K mg base CX0 (k + 1) T.a_law_ends T.d_law_ends ["_law_graph_here"] (spEnds K) := by
  refine T.F_law_ends.ok sc_law_ends (fun vs H Q E h => ?_) (fun cdv A outer s H vs Q E hr h => ?_)
  · obtain ⟨v, L, R, n, rfl, _⟩ := h
    rfl
  obtain ⟨v, L, R, n, rfl, h1, ⟨lL, lR, n60⟩, okL, okR, q⟩ := h
  have hu : (A.deeper (PyProof.Rows.envOfC (Str.ofString "_law_ends") (defScope s_law_ends) s.heap.objs.size T.a_law_ends cdv)).units + 1 < cLine := by have := hr.un; omega
  refine ⟨_, (pss_cons (ps_set (i := 1) sc_law_ends.nd rfl (Or.inr rfl) pe_dnewT)
  (pss_cons (ps_for PassesOwn.never rfl (pi_range1 rfl T.m_range (pa_cons (pe_op op_add (pe_op op_mul pe_int (pe_callB (call_lenK (K := K) rfl) rfl T.m_len PySem.boot_len (pa_cons (pe_ix (ix_tupK (K := K) rfl) (pv 0) pe_int (fun _ _ => rfl)) pa_nil))) pe_int) pa_nil)) (pg_name (i := 2) sc_law_ends.nd rfl (Or.inl rfl))
  (pss_cons (ps_set (i := 3) sc_law_ends.nd rfl (Or.inl rfl) pe_dnewT)
  (pss_cons (ps_for PassesOwn.never rfl (pi_listK (K := K) rfl (pe_lst (pa_cons pe_int (pa_cons pe_int pa_nil)))) (pg_name (i := 4) sc_law_ends.nd rfl (Or.inr rfl))
  (pss_one (ps_for PassesOwn.never rfl (pi_range1 rfl T.m_range (pa_cons (pe_callB (call_lenK (K := K) rfl) rfl T.m_len PySem.boot_len (pa_cons (pe_ix (ix_tupK (K := K) rfl) (pv 0) pe_int (fun _ _ => rfl)) pa_nil)) pa_nil)) (pg_name (i := 5) sc_law_ends.nd rfl (Or.inl rfl))
  (pss_one (ps_if (pt_cmp (pc_dnotin hu (pe_tup (pa_cons (pv 5) (pa_cons (pv 4) pa_nil))) (pv 1)))
  (pss_cons (ps_setLc (i := 6) (own := [("_law_goal", 8)]) rfl sc_law_ends.nd rfl rfl (sw_true rfl rfl rfl (by decide +kernel)) (pi_tupK (K := K) rfl (pe_ix (ix_tupK (K := K) rfl) (pe_ix (ix_tupK (K := K) rfl) (pv 0) (pv 4) (fun _ _ => rfl)) (pv 5) (fun _ _ => rfl))) (blkOk_by (N := ["_law_graph_here", "_law_found", "_law_length", "_law_more", "_law_side", "_law_node", "_law_told_here", "_law_place", "_law_goal", "_law_one"]) (sc := defScope s_law_ends) (by decide +kernel)) (fun _ _ _ _ _ => (pg_name (i := 8) sc_law_ends.nd rfl (Or.inl rfl))) (fun _ _ _ _ _ => pts_nil) (fun _ _ _ _ _ => (pe_ix (ix_tupK (K := K) rfl) (pe_dget2 hu (pv 1) (pe_tup (pa_cons (pv 8) (pa_cons (pe_op op_sub pe_int (pv 4)) pa_nil))) (pe_tup (pa_cons pe_int (pa_cons pe_int pa_nil))) ⟨rfl, rfl, rfl, rfl⟩) pe_int (fun _ _ => rfl))))
  (pss_one (ps_if (pt_cmpR (op_in_seqK (K := K) rfl) (pv 4) (pv 6) (by rfl))
  (pss_one (ps_dput hu (pv 3) (pe_tup (pa_cons (pv 5) (pa_cons (pv 4) pa_nil))) (pe_tup (pa_cons (pv 4) (pa_cons (pv 2) pa_nil))) rfl))
  (pss_one (ps_if (pt_cmpR (op_eqDK (K := K) rfl hr.units) (pe_lc (own := [("_law_one", 9)]) rfl sc_law_ends.nd (pi_listK (K := K) rfl (pv 6)) (blkOk_by (N := ["_law_graph_here", "_law_found", "_law_length", "_law_more", "_law_side", "_law_node", "_law_told_here", "_law_place", "_law_goal", "_law_one"]) (sc := defScope s_law_ends) (by decide +kernel)) (fun _ _ _ _ _ => (pg_name (i := 9) sc_law_ends.nd rfl (Or.inl rfl))) (fun _ _ _ _ _ => (pts_one (pt_cmpR op_ne (pv 9) (pe_op op_sub pe_int (pv 4)) (nomark _)))) (fun _ _ _ _ _ => (pv 9))) (pe_lst pa_nil) (nomark _))
  (pss_one (ps_dput hu (pv 3) (pe_tup (pa_cons (pv 5) (pa_cons (pv 4) pa_nil))) (pe_tup (pa_cons (pe_op op_sub pe_int (pv 4)) (pa_cons (pv 2) pa_nil))) rfl))
  pss_nil)))))
  pss_nil)))))
  (pss_one (ps_lock (ps_for PassesOwn.never rfl (pi_keys (pv 3)) (pg_name (i := 7) sc_law_ends.nd rfl (Or.inl rfl))
  (pss_one (ps_dput hu (pv 1) (pv 7) (pe_dget hu (pv 3) (pv 7) (fun _ _ => rfl)) rfl))))))))
  (pss_one (ps_ret (pv 1))))), ?_⟩
  -- found = {}
  refine fun Df hDf => ?_
  have s1 := same_new hDf (.dT [])
  have hEf : upd H Df (.dT []) Df = some (.dT []) := upd_same
  generalize upd H Df (.dT []) = H1 at s1 hEf
  dsimp only [gName]
  obtain ⟨ag, x1, x2, rfl, hSg, hLg, hRg⟩ := gr_at h1
  obtain ⟨aL, xL, rfl, hSL, hlL, hAL⟩ := rows_at hLg
  have hlen : ((xL.length : Nat) : Int) = (n : Int) := by rw [hlL, lL]
  have okS : ∀ s v, OkRow n (op L R s v) := fun s v => by
    unfold op side
    split
    · exact row_ok okL v
    · exact row_ok okR v
  have hoM : ∀ s v, ∀ q ∈ op L R s v, q < n := fun s v q hq => (okS s v).2.1 q hq
  -- for length in range(2 * n + 1)
  refine ⟨_, rfl, ag, _, 0, _, rfl, rfl, sqT s1 hSg, rfl, aL, _, rfl, .inr (sqT s1 hSL), _, _, rfl, rfl, .inl ⟨by decide, by decide⟩, _, _, rfl, rfl, _, rfl, ?_⟩
  rw [hlen]
  refine ⟨by omega, by omega, ?_⟩
  have e2 : (2 * (n : Int) + 1).toNat = 2 * n + 1 := by omega
  rw [e2]
  refine for_range (lo := 0) (n := 2 * n + 1) (fun l σ' H' => ∃ (z2 z3 z4 z5 z6 z7 : Option V), σ' = [some (.ref ag), some (.ref Df), z2, z3, z4, z5, z6, z7, none, none] ∧ (∃ kf, H' Df = some (.dT kf) ∧ FoundIs K n H' kf (gB (op L R) l)) ∧ Same H H') ?_ ?_ ?_
  · refine ⟨none, none, none, none, none, none, rfl, ⟨[], hEf, ⟨List.nodup_nil, fun k h => (List.not_mem_nil h).elim⟩, fun s v hs hv => ?_⟩, s1⟩
    rw [gB_none rfl]
    rfl
  · rintro l σ' H' hl ⟨z2, z3, z4, z5, z6, z7, rfl, ⟨kf, hf, hFI⟩, sm⟩
    rw [Int.zero_add]
    dsimp only [gName]
    -- more = {}
    refine fun Dm hDm => ?_
    have t1 := same_new hDm (.dT [])
    have hEm : upd H' Dm (.dT []) Dm = some (.dT []) := upd_same
    have hfm : Df ≠ Dm := ne_of_none hf hDm
    have hDmn : H Dm = none := by
      cases hq : H Dm with
      | none => rfl
      | some u => rw [sm _ _ hq] at hDm; cases hDm
    generalize upd H' Dm (.dT []) = H2 at t1 hEm
    have M2 : T2 K n H Df Dm H2 (gB (op L R) l) (gM (op L R) l 0 0) := by
      refine ⟨sm.trans t1, ⟨kf, t1 _ _ hf, hFI.keep (.same t1)⟩, ⟨[], hEm, ⟨List.nodup_nil, fun k h => (List.not_mem_nil h).elim⟩, fun s v hs hv => ?_⟩, hDf, hDmn, hfm⟩
      have : gM (op L R) l 0 0 s v = none := if_neg (fun h => by omega)
      rw [this]
      rfl
    -- for side in [0, 1]
    refine ⟨by show 2 ≤ sizeLine; decide, fun L0 hL0 => ⟨L0, rfl, ⟨_, SqL.of upd_same⟩, ?_⟩⟩
    have t2 := same_new hL0 (.lst [V.int 0, V.int 1])
    have hEL : upd H2 L0 (.lst [V.int 0, V.int 1]) L0 = some (.lst [V.int 0, V.int 1]) := upd_same
    generalize upd H2 L0 (.lst [V.int 0, V.int 1]) = H3 at t2 hEL
    have sides : ∀ i, i < 2 → ∃ (aF : Addr) (xF : List V), atI [V.ref aL, x2] ((i : Nat) : Int) = some (.ref aF) ∧ SqT K H aF xF ∧ DpAll K H xF ((side L R i).map rowD) ∧ (side L R i).length = n := by
      intro i hi
      have : i = 0 ∨ i = 1 := by omega
      rcases this with rfl | rfl
      · exact ⟨aL, xL, rfl, hSL, hAL, lL⟩
      · obtain ⟨b, ys, rfl, h2, h3, h4⟩ := rows_at hRg
        exact ⟨b, ys, rfl, h2, h4, lR⟩
    refine for_list (K := K) (a := L0) (xs := [V.int 0, V.int 1]) (fun i σ2 H4 => ∃ (y4 y5 y6 y7 : Option V), σ2 = [some (.ref ag), some (.ref Df), some (N l), some (.ref Dm), y4, y5, y6, y7, none, none] ∧ T2 K n H Df Dm H4 (gB (op L R) l) (gM (op L R) l i 0) ∧ H4 L0 = some (.lst [V.int 0, V.int 1])) ?_ ?_ ?_ ?_
    · exact ⟨_, _, _, _, rfl, M2.more t2, hEL⟩
    · rintro i σ2 H4 _ ⟨y4, y5, y6, y7, rfl, _, h⟩
      exact SqL.of h
    · rintro i x σ2 H4 hx ⟨y4, y5, y6, y7, rfl, M4, hL4⟩
      have hi2 : i < 2 := (List.getElem?_eq_some_iff.mp hx).1
      obtain rfl : x = N i := by
        have : i = 0 ∨ i = 1 := by omega
        rcases this with rfl | rfl
        · cases hx; rfl
        · cases hx; rfl
      obtain ⟨aF, xF, hat, hSF, hAF, lF⟩ := sides i hi2
      dsimp only [gName]
      -- for node in range(n)
      refine ⟨_, rfl, ag, _, 0, _, rfl, rfl, sqT M4.same hSg, rfl, aL, _, rfl, .inr (sqT M4.same hSL), _, rfl, ?_⟩
      rw [hlen]
      refine ⟨by omega, by omega, ?_⟩
      refine for_range (lo := 0) (n := n) (fun t σ3 H5 => ∃ (y5 y6 y7 : Option V), σ3 = [some (.ref ag), some (.ref Df), some (N l), some (.ref Dm), some (N i), y5, y6, y7, none, none] ∧ T2 K n H Df Dm H5 (gB (op L R) l) (gM (op L R) l i t) ∧ H5 L0 = some (.lst [V.int 0, V.int 1])) ?_ ?_ ?_
      · exact ⟨_, _, _, rfl, M4, hL4⟩
      · rintro t σ3 H5 ht ⟨y5', y6', y7', rfl, M5, hL5⟩
        rw [Int.zero_add]
        dsimp only [gName]
        -- if (node, side) not in found
        refine ⟨_, rfl, _, rfl, by show 2 ≤ sizeLine; decide, fun kb hkb => ?_⟩
        have s6 := same_new hkb (.tup [N t, N i])
        have hkb6 : upd H5 kb (.tup [N t, N i]) kb = some (.tup ((key t i).map kV)) := upd_same
        refine ⟨_, rfl, ?_⟩
        show ∃ a o, _ ∧ DGet (upd H5 kb (.tup [N t, N i])) _ _ _ ∧ _
        generalize upd H5 kb (.tup [N t, N i]) = H6 at s6 hkb6
        have M6 := M5.more s6
        have hL6 := s6 _ _ hL5
        obtain ⟨kf6, hf6, hFI6⟩ := M6.ef
        refine ⟨Df, _, rfl, DGet.t hf6 hkb6, _, rfl, ?_⟩
        have hfi := hFI6.2 i t hi2 ht
        cases hD : D (op L R) l i t with
        | some w0 =>
          have hgb : ∃ p, gB (op L R) l i t = some p := by
            obtain ⟨j, _, hA⟩ := D_at hD
            exact ⟨_, by rw [gB_some hD, gS_some hA]⟩
          obtain ⟨⟨w', j'⟩, hgb⟩ := hgb
          rw [hgb] at hfi
          obtain ⟨t', hv', _⟩ := hfi
          rw [hv']
          refine iteF' rfl ⟨_, _, _, rfl, M6.congr fun s v hs hv => ?_, hL6⟩
          by_cases c : s = i ∧ v = t
          · rw [c.1, c.2, gM_old hD, gM_not]
          · exact (gM_step c).symm
        | none =>
          rw [gB_none hD] at hfi
          rw [show valV kf6 (key t i) = none from hfi]
          refine iteT' rfl ?_
          obtain ⟨bF, atF, hTF⟩ := at_row' hAF (i := t) (by omega)
          have hTF6 : SqT K H6 bF ((op L R i t).map N) := sqT M6.same hTF
          have okd := okS i t
          have hi1 : 1 - ((i : Nat) : Int) = ((1 - i : Nat) : Int) := by omega
          have hs1 : 1 - i < 2 := by omega
          refine go_seq (go_asg ?_)
          refine el_lcT (K := K) (a := bF) (xs := (op L R i t).map N) (fun _ => true) (fun q => N (wn (op L R) l (1 - i) (im (op L R i t) q))) ?_ hTF6 ?_ ?_ ?_ ?_ H6 (Evl.Ex.refl H6) _ ?_
          · intro H7 e7 Q7 q7
            exact ⟨_, rfl, _, rfl, ag, _, _, _, rfl, rfl, sqT (M6.same.trans e7) hSg, hat, _, rfl, aF, _, _, _, rfl, rfl, sqT (M6.same.trans e7) hSF, atI_nat atF, q7 H7 (Evl.Ex.refl H7)⟩
          · rw [List.length_map]
            have := okd.2.2
            omega
          · intro x
            rfl
          · intro j x H7 e7 hx H8 e8 Q8 q8
            exact q8 H8 (Evl.Ex.refl H8)
          · intro j x H7 e7 hx _ H8 e8 Q8 q8
            rw [List.getElem?_map] at hx
            cases hq : (op L R i t)[j]? with
            | none => rw [hq] at hx; cases hx
            | some qn =>
              rw [hq] at hx
              obtain rfl := Option.some.inj hx
              have hqn := hoM i t qn (List.mem_of_getElem? hq)
              have ed : im (op L R i t) j = qn := by
                unfold im
                rw [List.getD_eq_getElem?_getD, hq]
                rfl
              rw [ed] at q8
              have hf8 := e8 _ _ (e7 _ _ hf6)
              refine ⟨_, rfl, Df, rfl, .inr ⟨kf6, .inl hf8⟩, _, rfl, _, rfl, _, _, rfl, rfl, by show 2 ≤ sizeLine; decide, fun k1 hk1 => ⟨by show 2 ≤ sizeLine; decide, fun k2 hk2 => ?_⟩⟩
              have u1 := same_new hk1 (.tup [N qn, V.int (1 - ((i : Nat) : Int))])
              have hk1' : upd H8 k1 (.tup [N qn, V.int (1 - ((i : Nat) : Int))]) k1 = some (.tup ((key qn (1 - i)).map kV)) := by
                rw [upd_same, hi1]
                rfl
              have u2 := same_new hk2 (.tup [V.int 2, V.int 0])
              have hk2' : upd (upd H8 k1 (.tup [N qn, V.int (1 - ((i : Nat) : Int))])) k2 (.tup [V.int 2, V.int 0]) k2 = some (.tup [V.int 2, V.int 0]) := upd_same
              have hk1'' := u2 _ _ hk1'
              show ∃ o, DGet (upd (upd H8 k1 (.tup [N qn, V.int (1 - ((i : Nat) : Int))])) k2 (.tup [V.int 2, V.int 0])) _ _ _ ∧ _
              have u12 := u1.trans u2
              generalize upd (upd H8 k1 (.tup [N qn, V.int (1 - ((i : Nat) : Int))])) k2 (.tup [V.int 2, V.int 0]) = H9 at u12 hk2' hk1''
              refine ⟨_, DGet.t (u12 _ _ hf8) hk1'', ?_⟩
              have hfi9 := (hFI6.keep (.same ((e7.trans e8).trans u12))).2 (1 - i) qn hs1 hqn
              cases hD9 : D (op L R) l (1 - i) qn with
              | none =>
                rw [gB_none hD9] at hfi9
                rw [show valV kf6 (key qn (1 - i)) = none from hfi9]
                have ew : wn (op L R) l (1 - i) qn = 2 := by unfold wn; rw [hD9]; rfl
                rw [ew] at q8
                exact ⟨k2, _, 0, V.int 2, rfl, rfl, SqT.of hk2', rfl, q8 H9 u12⟩
              | some w9 =>
                obtain ⟨j9, _, hA9⟩ := D_at hD9
                rw [gB_some hD9, gS_some hA9] at hfi9
                obtain ⟨t9, hv9, ht9⟩ := hfi9
                rw [hv9]
                have ew : wn (op L R) l (1 - i) qn = w9 := by unfold wn; rw [hD9]; rfl
                rw [ew] at q8
                exact ⟨t9, _, 0, N w9, rfl, rfl, ht9, rfl, q8 H9 u12⟩
          · intro D7 H7 hD7 e7 h7
            have hws : Evl.given ((op L R i t).map N).length (fun _ => true) (fun q => N (wn (op L R) l (1 - i) (im (op L R i t) q))) = ((op L R i t).map fun q => wn (op L R) l (1 - i) q).map N := by
              rw [given_all, List.length_map]
              have e := range_im (op L R i t)
              conv => rhs; rw [← e]
              rw [List.map_map, List.map_map]
              rfl
            rw [hws] at h7
            have hmemw : ∀ w, w < 2 → (w ∈ ((op L R i t).map fun q => wn (op L R) l (1 - i) q) ↔ ∃ q ∈ op L R i t, D (op L R) l (1 - i) q = some w) := fun w hw => by
              rw [List.mem_map]
              constructor
              · rintro ⟨q, hq, e⟩
                exact ⟨q, hq, (wn_eq hw).mp e⟩
              · rintro ⟨q, hq, e⟩
                exact ⟨q, hq, (wn_eq hw).mpr e⟩
            have hall : (∀ w ∈ ((op L R i t).map fun q => wn (op L R) l (1 - i) q), w = 1 - i) ↔ ∀ q ∈ op L R i t, D (op L R) l (1 - i) q = some (1 - i) := by
              constructor
              · intro h q hq
                exact (wn_eq hs1).mp (h _ (List.mem_map.mpr ⟨q, hq, rfl⟩))
              · intro h w hw
                obtain ⟨q, hq, rfl⟩ := List.mem_map.mp hw
                exact (wn_eq hs1).mpr (h q hq)
            have hwl : ((op L R i t).map fun q => wn (op L R) l (1 - i) q).length ≤ 60 := by rw [List.length_map]; exact okd.2.2
            generalize ((op L R i t).map fun q => wn (op L R) l (1 - i) q) = ws at h7 hmemw hall hwl
            have M7 := M6.more e7
            have hL7 := e7 _ _ hL6
            dsimp only [gName]
            -- if side in told
            refine ⟨_, rfl, _, rfl, D7, _, rfl, .inl (SqL.of h7), rfl, flat_N _, _, rfl, ?_⟩
            rw [if_neg (by decide : ¬ false = true), in_N]
            by_cases c1 : i ∈ ws
            · rw [decide_eq_true c1]
              refine iteT ?_
              have hA := at_won hD ((hmemw i hi2).mp c1)
              refine ⟨_, rfl, _, rfl, by show 2 ≤ sizeLine; decide, fun tv htv => ?_⟩
              have s9 := same_new htv (.tup [N i, N l])
              have htv9 : upd H7 tv (.tup [N i, N l]) tv = some (.tup [N i, N l]) := by
                rw [upd_same]
              generalize upd H7 tv (.tup [N i, N l]) = H9 at s9 htv9
              refine ⟨_, rfl, _, rfl, _, rfl, by show 2 ≤ sizeLine; decide, fun kc hkc => ?_⟩
              have s10 := same_new hkc (.tup [N t, N i])
              have hkc10 : upd H9 kc (.tup [N t, N i]) kc = some (.tup ((key t i).map kV)) := upd_same
              show ∃ a H5, _ ∧ DPut (upd H9 kc (.tup [N t, N i])) _ _ _ _ ∧ _
              generalize upd H9 kc (.tup [N t, N i]) = H10 at s10 hkc10
              have M10 := (M7.more s9).more s10
              obtain ⟨km, hm, hFM⟩ := M10.em
              have hL10 := s10 _ _ (s9 _ _ hL7)
              refine ⟨Dm, _, rfl, DPut.t hm hkc10 (hFM.1.small n60), _, _, _, rfl, M10.put hm hFM ht hi2 (SqT.of (s10 _ _ htv9)) fun a b ha hb => ?_, ?_⟩
              · by_cases c : a = i ∧ b = t
                · rw [if_pos c, c.1, c.2, gM_here hD, gB_some hA.2, gS_some hA]
                · rw [if_neg c]
                  exact (gM_step c).symm
              · rw [upd_ne (fun c => by rw [c, hm] at hL10; cases hL10)]
                exact hL10
            · rw [decide_eq_false c1]
              refine iteF ?_
              refine go_ifS (go_test (go_op ?_))
              refine Evl.el_lcL (K := K) (a := D7) (xs := ws.map N) (fun j => decide (im ws j ≠ 1 - i)) (fun j => N (im ws j)) ?_ (SqL.of h7) ?_ ?_ ?_ ?_ H7 (Evl.Ex.refl H7) _ ?_
              · exact Evl.ev_var rfl
              · rw [List.length_map]
                omega
              · intro x
                rfl
              · intro j x H8 e8 hx H9 e9 Q9 q9
                rw [List.getElem?_map] at hx
                cases hdd : ws[j]? with
                | none => rw [hdd] at hx; cases hx
                | some z =>
                  rw [hdd] at hx
                  obtain rfl := Option.some.inj hx
                  have ez : im ws j = z := by
                    unfold im
                    rw [List.getD_eq_getElem?_getD, hdd]
                    rfl
                  refine ⟨_, rfl, _, rfl, _, _, rfl, rfl, rfl, _, rfl, ?_⟩
                  rw [ez] at q9
                  have e12 : (!decide (N z = V.int (1 - ((i : Nat) : Int)))) = decide (z ≠ 1 - i) := by
                    rw [hi1]
                    by_cases e : z = 1 - i
                    · subst e
                      simp
                    · have : N z ≠ N (1 - i) := fun h => e (by have := V.int.inj h; omega)
                      simp [e, this]
                  show Q9 (!decide (N z = V.int (1 - ((i : Nat) : Int)))) H9
                  rw [e12]
                  exact q9 H9 (Evl.Ex.refl H9)
              · intro j x H8 e8 hx hf H9 e9 Q9 q9
                rw [List.getElem?_map] at hx
                cases hdd : ws[j]? with
                | none => rw [hdd] at hx; cases hx
                | some z =>
                  rw [hdd] at hx
                  obtain rfl := Option.some.inj hx
                  have ez : im ws j = z := by
                    unfold im
                    rw [List.getD_eq_getElem?_getD, hdd]
                    rfl
                  rw [ez] at q9
                  exact ⟨_, rfl, q9 H9 (Evl.Ex.refl H9)⟩
              · intro D8 H8' hD8 e8 h8
                rw [List.length_map, given_filter ws fun z => decide (z ≠ 1 - i)] at h8
                refine ⟨by show 0 ≤ sizeLine; decide, fun De hDe => ?_⟩
                have sE := same_new hDe (.lst [])
                refine ⟨.list ((ws.filter fun z => decide (z ≠ 1 - i)).map fun m : Nat => PyData.int (m : Int)), .list [], .lst (SqL.of (sE _ _ h8)) (ints_all _), .lst (SqL.of upd_same) .nil, ?_, rfl, ?_⟩
                · exact (Small.list (m := 0) fun d hd => by
                    obtain ⟨z, _, rfl⟩ := List.mem_map.mp hd
                    exact .int _).ok (by decide)
                have M8 := (M7.more e8).more sE
                have hL8 := sE _ _ (e8 _ _ hL7)
                generalize upd H8' De (.lst []) = H8 at M8 hL8
                refine ⟨_, rfl, ?_⟩
                have hno : ¬ ∃ q ∈ op L R i t, D (op L R) l (1 - i) q = some i := fun h => c1 ((hmemw i hi2).mpr h)
                by_cases c2 : ∀ w ∈ ws, w = 1 - i
                · have e0 : (ws.filter fun z => decide (z ≠ 1 - i)) = [] := List.filter_eq_nil_iff.mpr fun w hw => by simp [c2 w hw]
                  rw [e0]
                  have e1 : PyData.eqv (.list (([] : List Nat).map fun m : Nat => PyData.int (m : Int))) (.list []) = true := by simp [PyData.eqv, PyData.eqvAll]
                  rw [e1]
                  refine iteT ?_
                  have hA := at_lost hi2 hD hno fun q hq => by rw [hall.mp c2 q hq]; simp
                  refine ⟨_, rfl, _, _, rfl, rfl, _, rfl, by show 2 ≤ sizeLine; decide, fun tv htv => ?_⟩
                  have s9 := same_new htv (.tup [V.int (1 - ((i : Nat) : Int)), N l])
                  have htv9 : upd H8 tv (.tup [V.int (1 - ((i : Nat) : Int)), N l]) tv = some (.tup [N (1 - i), N l]) := by
                    rw [upd_same]
                    rw [hi1]
                  generalize upd H8 tv (.tup [V.int (1 - ((i : Nat) : Int)), N l]) = H9 at s9 htv9
                  refine ⟨_, rfl, _, rfl, _, rfl, by show 2 ≤ sizeLine; decide, fun kc hkc => ?_⟩
                  have s10 := same_new hkc (.tup [N t, N i])
                  have hkc10 : upd H9 kc (.tup [N t, N i]) kc = some (.tup ((key t i).map kV)) := upd_same
                  show ∃ a H5, _ ∧ DPut (upd H9 kc (.tup [N t, N i])) _ _ _ _ ∧ _
                  generalize upd H9 kc (.tup [N t, N i]) = H10 at s10 hkc10
                  have M10 := (M8.more s9).more s10
                  obtain ⟨km, hm, hFM⟩ := M10.em
                  have hL10 := s10 _ _ (s9 _ _ hL8)
                  refine ⟨Dm, _, rfl, DPut.t hm hkc10 (hFM.1.small n60), _, _, _, rfl, M10.put hm hFM ht hi2 (SqT.of (s10 _ _ htv9)) fun a b ha hb => ?_, ?_⟩
                  · by_cases c : a = i ∧ b = t
                    · rw [if_pos c, c.1, c.2, gM_here hD, gB_some hA.2, gS_some hA]
                    · rw [if_neg c]
                      exact (gM_step c).symm
                  · rw [upd_ne (fun c => by rw [c, hm] at hL10; cases hL10)]
                    exact hL10
                · have e1 : PyData.eqv (.list ((ws.filter fun z => decide (z ≠ 1 - i)).map fun m : Nat => PyData.int (m : Int))) (.list []) = false := by
                    cases hff : (ws.filter fun z => decide (z ≠ 1 - i)) with
                    | nil =>
                      refine absurd (fun w hw => ?_) c2
                      have := List.filter_eq_nil_iff.mp hff w hw
                      simpa using this
                    | cons x y => simp [PyData.eqv, PyData.eqvAll]
                  rw [e1]
                  refine iteF ⟨_, _, _, rfl, M8.congr fun s v hs hv => ?_, hL8⟩
                  by_cases c : s = i ∧ v = t
                  · have hD1 : D (op L R) (l + 1) i t = none := by
                      rw [D_none hD, if_neg hno, if_neg (fun h => c2 (hall.mpr h))]
                    rw [c.1, c.2, gM_not, gM_here hD, gB_none hD1]
                  · exact (gM_step c).symm
      · rintro σ3 H5 ⟨y5', y6', y7', rfl, M5, hL5⟩
        refine ⟨_, _, _, _, rfl, M5.congr fun s v hs hv => ?_, hL5⟩
        unfold gM
        by_cases c : s < i + 1
        · rw [if_pos (by omega), if_pos (by omega)]
        · rw [if_neg (by omega), if_neg (by omega)]
    · rintro σ2 H4 ⟨y4, y5, y6, y7, rfl, M4, hL4⟩
      -- for place in more
      have M4 : T2 K n H Df Dm H4 (gB (op L R) l) (gM (op L R) l 2 0) := M4
      obtain ⟨km, hm, hFM⟩ := M4.em
      obtain ⟨kf4, hf4, hFI4⟩ := M4.ef
      have hgM : ∀ s v, s < 2 → v < n → (gM (op L R) l 2 0 s v = if D (op L R) l s v = none then gB (op L R) (l + 1) s v else none) := fun s v hs hv => by
        unfold gM
        rw [if_pos (.inl hs)]
        cases D (op L R) l s v <;> simp
      refine ⟨Dm, .dT km, hm, trivial, fun od => ?_⟩
      have hEm5 : upd H4 Dm (.frz od (.dT km)) Dm = some (.frz od (.dT km)) := upd_same
      have k5 : KpT H4 (upd H4 Dm (.frz od (.dT km))) := KpT.updD hm
      have hf5 : upd H4 Dm (.frz od (.dT km)) Df = some (.dT kf4) := by rw [upd_ne hfm]; exact hf4
      have sH5 : Same H (upd H4 Dm (.frz od (.dT km))) := fun b u e => by
        rw [upd_ne (fun c => by rw [c, hDmn] at e; cases e)]
        exact M4.same _ _ e
      have hFI5 := hFI4.keep k5
      have hFM5 := hFM.keep k5
      generalize upd H4 Dm (.frz od (.dT km)) = H5 at hEm5 k5 hf5 sH5 hFI5 hFM5
      refine ⟨_, rfl, Dm, od, rfl, .inr ⟨km, hEm5, ?_⟩⟩
      refine for_it walk_keysT (fun i σ3 H6 => ∃ (y7' : Option V), σ3 = [some (.ref ag), some (.ref Df), some (N l), some (.ref Dm), y4, y5, y6, y7', none, none] ∧ H6 Dm = some (.frz od (.dT km)) ∧ KpT H5 H6 ∧
        (∃ kf, H6 Df = some (.dT kf) ∧ FoundIs K n H6 kf (fun s v => sel ((km.take i).map (·.1)) (key v s) (gM (op L R) l 2 0 s v) (gB (op L R) l s v))) ∧ Same H H6) ?_ ?_ ?_ ?_
      · exact ⟨_, rfl, hEm5, .refl, ⟨kf4, hf5, hFI5.congr fun s v _ _ => (sel_neg (by simp)).symm⟩, sH5⟩
      · rintro i σ3 H6 _ ⟨_, _, h, _⟩
        exact h
      · rintro i x σ3 H6 H7 hi ⟨y7', rfl, hEm6, k6, ⟨kf6, hf6, hFI6⟩, s6⟩ ⟨rfl, kk, vv, qq, hkm, rfl, hq⟩
        obtain ⟨v, s, hv, hs, rfl⟩ := hFM.1.2 kk (List.mem_map.mpr ⟨_, List.mem_of_getElem? hkm, rfl⟩)
        have hval : valV km (key v s) = some vv := val_of hFM.1.1 hkm
        have hfm' := (hFM5.keep k6).2 s v hs hv
        obtain ⟨w, j, hgw⟩ : ∃ w j, gM (op L R) l 2 0 s v = some (w, j) := by
          cases hg : gM (op L R) l 2 0 s v with
          | none =>
            rw [hg] at hfm'
            rw [show valV km (key v s) = none from hfm'] at hval
            cases hval
          | some p => exact ⟨p.1, p.2, rfl⟩
        rw [hgw] at hfm'
        obtain ⟨tw, htv, htw⟩ := hfm'
        rw [hval] at htv
        obtain rfl := Option.some.inj htv
        dsimp only [gName]
        refine ⟨_, rfl, _, rfl, Dm, .ref tw, rfl, .inr ⟨km, key v s, qq, .inr ⟨od, hEm6⟩, rfl, hq, hval.symm⟩, _, rfl, _, rfl, Df, _, rfl, DPut.t hf6 hq (hFI6.1.small n60), ?_⟩
        have kD : KpT H7 (upd H7 Df (.dT (putK kf6 (key v s) (.ref tw)))) := KpT.updD hf6
        have hlt := (List.getElem?_eq_some_iff.mp hkm).1
        have htk : km.take (i + 1) = km.take i ++ [(key v s, V.ref tw)] := by rw [List.take_succ_eq_append_getElem hlt, (List.getElem?_eq_some_iff.mp hkm).2]
        refine ⟨_, rfl, ?_, k6.trans kD, ⟨_, upd_same, ((hFI6.put hv hs htw).keep kD).congr fun a b ha hb => ?_⟩, fun b u e => ?_⟩
        · rw [upd_ne (Ne.symm hfm)]
          exact hEm6
        · rw [htk, List.map_append]
          by_cases c : a = s ∧ b = v
          · obtain ⟨rfl, rfl⟩ := c
            simp only [and_self, if_true]
            refine (?_ : some (w, j) = sel _ _ _ _)
            refine Eq.symm ((sel_pos (List.mem_append.mpr (.inr (List.mem_map.mpr ⟨_, List.mem_singleton.mpr rfl, rfl⟩)))).trans hgw)
          · have hk : key b a ≠ key v s := fun e => c ⟨(key_inj e).2, (key_inj e).1⟩
            simp only [if_neg c]
            by_cases c2 : key b a ∈ (km.take i).map (·.1)
            · rw [sel_pos c2, sel_pos (List.mem_append.mpr (.inl c2))]
            · rw [sel_neg c2, sel_neg (fun h => ?_)]
              rcases List.mem_append.mp h with h | h
              · exact c2 h
              · exact hk (List.mem_singleton.mp h)
        · rw [upd_ne (fun c => by rw [c, hDf] at e; cases e)]
          exact s6 _ _ e
      · rintro σ3 H6 ⟨y7', rfl, hEm6, k6, ⟨kf6, hf6, hFI6⟩, s6⟩
        refine ⟨hEm6, _, _, _, _, _, _, rfl, ⟨kf6, ?_, ?_⟩, ?_⟩
        · rw [upd_ne hfm]
          exact hf6
        · have kE : KpT H6 (upd H6 Dm (.dT km)) := fun K' p xs h => by
            have key' : ∀ u, H6 p = some u → (∀ o z, u ≠ .frz o (.dT z)) → upd H6 Dm (.dT km) p = some u := fun u e hu => by
              rw [upd_ne (fun c => by rw [c, hEm6] at e; exact hu _ _ (Option.some.inj e).symm)]
              exact e
            rcases h with (h | ⟨x, h⟩) | h
            · exact .inl (.inl (key' _ h (fun _ _ z => by cases z)))
            · exact .inl (.inr ⟨x, key' _ h (fun _ _ z => by cases z)⟩)
            · exact .inr h
          refine (hFI6.keep kE).congr fun s v hs hv => ?_
          rw [List.take_length]
          have hin := key_in hFM hs hv
          have hgm := hgM s v hs hv
          cases hD : D (op L R) l s v with
          | some w =>
            rw [hD] at hgm
            have : gM (op L R) l 2 0 s v = none := by rw [hgm]; simp
            rw [sel_neg (fun h => (hin.mp h) this), gB_some hD, gB_some (D_succ hD)]
          | none =>
            rw [hD, if_pos rfl] at hgm
            by_cases c : key v s ∈ km.map (·.1)
            · rw [sel_pos c, hgm]
            · rw [sel_neg c, gB_none hD]
              have : gM (op L R) l 2 0 s v = none := Classical.byContradiction fun h => c (hin.mpr h)
              rw [← hgm, this]
        · intro b u e
          rw [upd_ne (fun c => by rw [c, hDmn] at e; cases e)]
          exact s6 _ _ e
  · rintro σ' H' ⟨z2, z3, z4, z5, z6, z7, rfl, ⟨kf, hf, hFI⟩, sm⟩
    refine ⟨_, rfl, q Df H' sm hDf ⟨kf, gB (op L R) (2 * n + 1), hf, hFI, ?_, fun s v hs hv h => gB_none (h _)⟩⟩
    intro s v w j hs hv hA
    have hj := at_lt (o := op L R) (n := n) (fun s v _ _ q hq => hoM s v q hq) hs hv hA
    rw [gB_some (D_mono hA.2 (by omega : j + 1 ≤ 2 * n + 1)), gS_some hA]
end
end K74


set_option Elab.async false
set_option linter.all false
set_option maxRecDepth 100000
set_option maxHeartbeats 4000000
namespace K74
open PySem L2 TG GM SV
section
variable {P : Program} {w : World} {K : PySem.W.Frag} {mg : Str → Option Value} {base : Heap}
theorem ok_told {k : Nat} (T : Txt K mg) (G_law_ends : FnOk P w K mg base CX0 k T.a_law_ends T.d_law_ends ["_law_graph_here"] (spEnds K)) : FnOk P w K mg base CX0 (k + 1) T.a_law_told T.d_law_told ["_law_graph_here"] (spSolOf K) := by
  refine T.F_law_told.ok sc_law_told (fun vs H Q E h => ?_) (fun cdv A outer s H vs Q E hr h => ?_)
  · obtain ⟨v, L, R, n, rfl, _⟩ := h
    rfl
  obtain ⟨v, L, R, n, rfl, h1, ⟨lL, lR, n60⟩, okL, okR, q⟩ := h
  have hu : (A.deeper (PyProof.Rows.envOfC (Str.ofString "_law_told") (defScope s_law_told) s.heap.objs.size T.a_law_told cdv)).units + 1 < cLine := by have := hr.un; omega
  refine ⟨_, (pss_cons (ps_par (i := 1) (j := 2) rfl sc_law_told.nd rfl rfl (by decide) rfl rfl (pa_cons (pe_call G_law_ends hr rfl T.g_law_ends T.F_law_ends.kp T.b_law_ends .nil pass0 (pa_cons (pv 0) pa_nil)) (pa_cons (pe_lst pa_nil) pa_nil)) rfl)
  (pss_cons (ps_for PassesOwn.never rfl (pi_range1 rfl T.m_range (pa_cons (pe_callB (call_lenK (K := K) rfl) rfl T.m_len PySem.boot_len (pa_cons (pe_ix (ix_tupK (K := K) rfl) (pv 0) pe_int (fun _ _ => rfl)) pa_nil)) pa_nil)) (pg_name (i := 3) sc_law_told.nd rfl (Or.inl rfl))
  (pss_cons (ps_set (i := 4) sc_law_told.nd rfl (Or.inl rfl) (pe_lst pa_nil))
  (pss_cons (ps_for PassesOwn.never rfl (pi_listK (K := K) rfl (pe_lst (pa_cons pe_int (pa_cons pe_int pa_nil)))) (pg_name (i := 5) sc_law_told.nd rfl (Or.inl rfl))
  (pss_cons (ps_set (i := 6) sc_law_told.nd rfl (Or.inl rfl) (pe_dget2 hu (pv 1) (pe_tup (pa_cons (pv 3) (pa_cons (pv 5) pa_nil))) (pe_tup (pa_cons pe_int (pa_cons pe_int pa_nil))) ⟨rfl, rfl, rfl, rfl⟩))
  (pss_one (ps_expr (pe_bmK (K := K) rfl PySem.F.plainAttrs_list PySem.F.slot_list_append PySem.F.type_list_append mt_append (pv 4) (pa_cons (pe_tup (pa_cons (pe_ix (ix_listK (K := K) rfl) (pe_lst (pa_cons pe_str (pa_cons pe_str (pa_cons pe_str pa_nil)))) (pe_ix (ix_tupK (K := K) rfl) (pv 6) pe_int (fun _ _ => rfl)) (fun _ _ => rfl)) (pa_cons (pe_ifExp (pt_cmpR op_lt (pe_ix (ix_tupK (K := K) rfl) (pv 6) pe_int (fun _ _ => rfl)) pe_int (nomark _)) (pe_ix (ix_tupK (K := K) rfl) (pv 6) pe_int (fun _ _ => rfl)) pe_non) pa_nil))) pa_nil))))))
  (pss_one (ps_expr (pe_bmK (K := K) rfl PySem.F.plainAttrs_list PySem.F.slot_list_append PySem.F.type_list_append mt_append (pv 2) (pa_cons (pe_callTy (call_tuple_ofK (K := K) rfl) rfl T.m_tuple (by decide +kernel) (pa_cons (pv 4) pa_nil)) pa_nil)))))))
  (pss_one (ps_ret (pe_callTy (call_tuple_ofK (K := K) rfl) rfl T.m_tuple (by decide +kernel) (pa_cons (pv 2) pa_nil)))))), ?_⟩
  refine ⟨_, rfl, v, L, R, n, rfl, h1, ⟨lL, lR, n60⟩, okL, okR, fun pS H1 s1 _ hSol => ⟨by show 0 ≤ sizeLine; decide, fun Dr hDr => ⟨_, _, rfl, ?_⟩⟩⟩
  have s2 := same_new hDr (.lst [])
  have h1_1 := dp_keep (.same s1) _ _ (pT_gr L R) h1
  obtain ⟨ag, x1, x2, rfl, hSg, hLg, hRg⟩ := gr_at h1_1
  obtain ⟨aL, xL, rfl, hSL, hlL, hAL⟩ := rows_at hLg
  -- for node in range(len(graph[0]))
  refine ⟨_, rfl, ag, _, 0, _, rfl, rfl, sqT s2 hSg, rfl, aL, _, rfl, .inr (sqT s2 hSL), _, rfl, ?_⟩
  rw [hlL, lL]
  refine ⟨by omega, by omega, ?_⟩
  have hSolV := fun (H' : Hp) (s : Same H1 H') => (hSol.more s).val
  generalize hgg : gS (op L R) = g at q hSolV
  have hDrn : H1 Dr = none := hDr
  refine for_range (lo := 0) (n := n) (fun v σ' H' => ∃ (z3 z4 z5 z6 : Option V) (us : List V), σ' = [some (.ref ag), some (.ref pS), some (.ref Dr), z3, z4, z5, z6] ∧ H' Dr = some (.lst us) ∧ DpAll K H' us ((List.range v).map (pairD g)) ∧ Same H1 H') ?_ ?_ ?_
  · exact ⟨none, none, none, none, [], rfl, upd_same, .nil, s2⟩
  · rintro v σ' H' hv ⟨z3, z4, z5, z6, us, rfl, hE, hA, sm⟩
    rw [Int.zero_add]
    dsimp only [gName]
    -- pair = []
    refine ⟨by show 0 ≤ sizeLine; decide, fun Dp' hDp => ?_⟩
    have sp := same_new hDp (.lst [])
    have hEp : upd H' Dp' (.lst []) Dp' = some (.lst []) := upd_same
    have hrp : Dr ≠ Dp' := ne_of_none hE hDp
    generalize upd H' Dp' (.lst []) = H2 at sp hEp
    -- for side in (0, 1)
    refine ⟨by show 2 ≤ sizeLine; decide, fun t0 ht0 => ⟨t0, rfl, ⟨_, SqL.of upd_same⟩, ?_⟩⟩
    have st := same_new ht0 (.lst [V.int 0, V.int 1])
    have hT0 : upd H2 t0 (.lst [V.int 0, V.int 1]) t0 = some (.lst [V.int 0, V.int 1]) := upd_same
    generalize upd H2 t0 (.lst [V.int 0, V.int 1]) = H3 at st hT0
    have h0p : t0 ≠ Dp' := fun c => by rw [c, hEp] at ht0; cases ht0
    refine for_list (K := K) (a := t0) (xs := [V.int 0, V.int 1]) (fun i σ2 H4 => ∃ (y5 y6 : Option V) (ps : List V), σ2 = [some (.ref ag), some (.ref pS), some (.ref Dr), some (N v), some (.ref Dp'), y5, y6] ∧ H4 Dp' = some (.lst ps) ∧ DpAll K H4 ps ([wD (g 0 v), wD (g 1 v)].take i) ∧ Same H' H4 ∧ H4 t0 = some (.lst [V.int 0, V.int 1])) ?_ ?_ ?_ ?_
    · exact ⟨_, _, [], rfl, st _ _ hEp, .nil, sp.trans st, hT0⟩
    · rintro i σ2 H4 _ ⟨y5, y6, ps, rfl, _, _, _, h⟩
      exact SqL.of h
    · rintro i x σ2 H4 hx ⟨y5, y6, ps, rfl, hE4, hA4, s4, hT4⟩
      have hi2 : i < 2 := (List.getElem?_eq_some_iff.mp hx).1
      obtain ⟨rfl, htk⟩ : x = N i ∧ [wD (g 0 v), wD (g 1 v)].take (i + 1) = [wD (g 0 v), wD (g 1 v)].take i ++ [wD (g i v)] := by
        have : i = 0 ∨ i = 1 := by omega
        rcases this with rfl | rfl
        · cases hx
          exact ⟨rfl, rfl⟩
        · cases hx
          exact ⟨rfl, rfl⟩
      dsimp only [gName]
      obtain ⟨kvs, hp, hF⟩ := hSolV H4 (sm.trans s4)
      -- told = found.get((node, side))
      refine ⟨_, rfl, pS, rfl, .inr ⟨kvs, .inl hp⟩, _, rfl, _, rfl, by show 2 ≤ sizeLine; decide, fun kb hkb => ⟨by show 2 ≤ sizeLine; decide, fun k2 hk2 => ?_⟩⟩
      have u1 := same_new hkb (.tup [N v, N i])
      have hkb1 : upd H4 kb (.tup [N v, N i]) kb = some (.tup ((key v i).map kV)) := upd_same
      have u2 := same_new hk2 (.tup [V.int 2, V.int 0])
      have hk25 : upd (upd H4 kb (.tup [N v, N i])) k2 (.tup [V.int 2, V.int 0]) k2 = some (.tup [V.int 2, V.int 0]) := upd_same
      have hkb5 := u2 _ _ hkb1
      have s5 := u1.trans u2
      show ∃ o, DGet (upd (upd H4 kb (.tup [N v, N i])) k2 (.tup [V.int 2, V.int 0])) _ _ _ ∧ _
      generalize upd (upd H4 kb (.tup [N v, N i])) k2 (.tup [V.int 2, V.int 0]) = H5 at s5 hkb5 hk25
      refine ⟨_, DGet.t (s5 _ _ hp) hkb5, ?_⟩
      have hfi := (hF.keep (.same s5)).2 i v hi2 hv
      have hE5 := s5 _ _ hE4
      have hpl := dps_len hA4
      have hpl2 : ps.length ≤ 2 := by
        rw [hpl, List.length_take]
        show min i 2 ≤ 2
        omega
      cases hg : g i v with
      | none =>
        rw [hg] at hfi
        rw [show valV kvs (key v i) = none from hfi]
        refine ⟨_, rfl, .inl ⟨rfl, _, SqL.of hE5⟩, by show 3 ≤ sizeLine; decide, fun Lw hLw => ?_⟩
        have u3 := same_new hLw (.lst [V.str (Str.ofString "L"), V.str (Str.ofString "R"), V.str (Str.ofString "draw")])
        have hLw7 : upd H5 Lw (.lst [V.str (Str.ofString "L"), V.str (Str.ofString "R"), V.str (Str.ofString "draw")]) Lw = some (.lst [V.str (Str.ofString "L"), V.str (Str.ofString "R"), V.str (Str.ofString "draw")]) := upd_same
        refine ⟨_, rfl, ?_⟩
        generalize upd H5 Lw (.lst [V.str (Str.ofString "L"), V.str (Str.ofString "R"), V.str (Str.ofString "draw")]) = H7 at u3 hLw7
        have s57 := s5.trans u3
        have hE7 := u3 _ _ hE5
        have hk27 := u3 _ _ hk25
        refine ⟨k2, _, 0, V.int 2, rfl, rfl, SqT.of hk27, rfl, Lw, _, 2, .str (Str.ofString "draw"), rfl, rfl, SqL.of hLw7, rfl, _, rfl, k2, _, 0, V.int 2, rfl, rfl, SqT.of hk27, rfl, _, _, rfl, rfl, _, rfl, iteF ⟨by show 2 ≤ sizeLine; decide, fun t ht => ?_⟩⟩
        have s6 := same_new ht (.tup [V.str (Str.ofString "draw"), V.non])
        have ht6 : upd H7 t (.tup [V.str (Str.ofString "draw"), V.non]) t = some (.tup [V.str (Str.ofString "draw"), V.non]) := upd_same
        generalize upd H7 t (.tup [V.str (Str.ofString "draw"), V.non]) = H6 at s6 ht6
        have hE6 := s6 _ _ hE7
        have k1 : KpT H6 (upd H6 Dp' (.lst (ps ++ [.ref t]))) := .upd hE6
        have s56 := s57.trans s6
        refine ⟨Dp', _, _, rfl, rfl, hE6, Nat.lt_of_le_of_lt hpl2 (by decide), _, _, ps ++ [.ref t], rfl, upd_same, ?_, ?_, ?_⟩
        · rw [htk]
          refine dps_snoc (dps_keep ((KpT.same s56).trans k1) _ _ (pTs_all _ fun d hd => ?_) hA4) ?_
          · have hd' := List.mem_of_mem_take hd
            simp only [List.mem_cons, List.not_mem_nil, or_false] at hd'
            rcases hd' with rfl | rfl <;> exact pT_w _
          · rw [hg]
            exact .tup (k1 K _ _ (SqT.of ht6)) (.cons (.str _) (.cons .non .nil))
        · intro b' u' hu'
          rw [upd_ne (fun c => by rw [c, hDp] at hu'; cases hu')]
          exact s56 _ _ (s4 _ _ hu')
        · rw [upd_ne h0p]
          exact s56 _ _ hT4
      | some pp =>
        obtain ⟨w, j⟩ := pp
        rw [hg] at hfi
        obtain ⟨tw, hval, htw⟩ := hfi
        rw [hval]
        have hw2 : w = 0 ∨ w = 1 := by
          rw [← hgg] at hg
          rcases gS_cases (op L R) i v with ⟨w', j', hA', e⟩ | ⟨_, e⟩
          · rw [e] at hg
            cases hg
            have := D_two hi2 hA'.2
            omega
          · rw [e] at hg
            cases hg
        refine ⟨_, rfl, .inl ⟨rfl, _, SqL.of hE5⟩, by show 3 ≤ sizeLine; decide, fun Lw hLw => ?_⟩
        have u3 := same_new hLw (.lst [V.str (Str.ofString "L"), V.str (Str.ofString "R"), V.str (Str.ofString "draw")])
        have hLw7 : upd H5 Lw (.lst [V.str (Str.ofString "L"), V.str (Str.ofString "R"), V.str (Str.ofString "draw")]) Lw = some (.lst [V.str (Str.ofString "L"), V.str (Str.ofString "R"), V.str (Str.ofString "draw")]) := upd_same
        refine ⟨_, rfl, ?_⟩
        generalize upd H5 Lw (.lst [V.str (Str.ofString "L"), V.str (Str.ofString "R"), V.str (Str.ofString "draw")]) = H7 at u3 hLw7
        have s57 := s5.trans u3
        have hE7 := u3 _ _ hE5
        have htw7 := sqT u3 htw
        have hat : atI [V.str (Str.ofString "L"), V.str (Str.ofString "R"), V.str (Str.ofString "draw")] ((w : Nat) : Int) = some (.str (wordS w)) := by
          rcases hw2 with rfl | rfl <;> rfl
        refine ⟨tw, _, 0, N w, rfl, rfl, htw7, rfl, Lw, _, _, .str (wordS w), rfl, rfl, SqL.of hLw7, hat, _, rfl, tw, _, 0, N w, rfl, rfl, htw7, rfl, _, _, rfl, rfl, _, rfl, iteT' (decide_eq_true (by omega)) ⟨_, rfl, tw, _, 1, N j, rfl, rfl, htw7, rfl, by show 2 ≤ sizeLine; decide, fun t ht => ?_⟩⟩
        have s6 := same_new ht (.tup [V.str (wordS w), N j])
        have ht6 : upd H7 t (.tup [V.str (wordS w), N j]) t = some (.tup [V.str (wordS w), N j]) := upd_same
        generalize upd H7 t (.tup [V.str (wordS w), N j]) = H6 at s6 ht6
        have hE6 := s6 _ _ hE7
        have k1 : KpT H6 (upd H6 Dp' (.lst (ps ++ [.ref t]))) := .upd hE6
        have s56 := s57.trans s6
        refine ⟨Dp', _, _, rfl, rfl, hE6, Nat.lt_of_le_of_lt hpl2 (by decide), _, _, ps ++ [.ref t], rfl, upd_same, ?_, ?_, ?_⟩
        · rw [htk]
          refine dps_snoc (dps_keep ((KpT.same s56).trans k1) _ _ (pTs_all _ fun d hd => ?_) hA4) ?_
          · have hd' := List.mem_of_mem_take hd
            simp only [List.mem_cons, List.not_mem_nil, or_false] at hd'
            rcases hd' with rfl | rfl <;> exact pT_w _
          · rw [hg]
            exact .tup (k1 K _ _ (SqT.of ht6)) (.cons (.str _) (.cons (.int _) .nil))
        · intro b' u' hu'
          rw [upd_ne (fun c => by rw [c, hDp] at hu'; cases hu')]
          exact s56 _ _ (s4 _ _ hu')
        · rw [upd_ne h0p]
          exact s56 _ _ hT4
    · rintro σ2 H4 ⟨y5, y6, ps, rfl, hE4, hA4, s4, hT4⟩
      -- rows.append(tuple(pair))
      have hr4 := s4 _ _ hE
      refine ⟨_, rfl, .inl ⟨rfl, _, SqL.of hr4⟩, _, rfl, Dp', _, rfl, .inl ⟨SqL.of hE4, fun t ht => ?_⟩⟩
      have s5 := same_new ht (.tup ps)
      have ht5 : upd H4 t (.tup ps) t = some (.tup ps) := upd_same
      generalize upd H4 t (.tup ps) = H5 at s5 ht5
      have hr5 := s5 _ _ hr4
      have hul := dps_len hA
      rw [List.length_map, List.length_range] at hul
      have k1 : KpT H5 (upd H5 Dr (.lst (us ++ [.ref t]))) := .upd hr5
      refine ⟨Dr, _, _, rfl, rfl, hr5, Nat.lt_of_le_of_lt (by omega : us.length ≤ 144) (by decide), _, _, _, _, us ++ [.ref t], rfl, upd_same, ?_, ?_⟩
      · rw [List.range_succ, List.map_append]
        refine dps_snoc (dps_keep (((KpT.same s4).trans (.same s5)).trans k1) _ _ (pTs_all _ fun d hd => by
          obtain ⟨z, _, rfl⟩ := List.mem_map.mp hd
          exact pT_pair g z) hA) ?_
        exact .tup (k1 K _ _ (SqT.of ht5)) (dps_keep ((KpT.same s5).trans k1) _ _ (pTs_all _ fun d hd => by
          simp only [List.mem_cons, List.not_mem_nil, or_false] at hd
          rcases hd with rfl | rfl <;> exact pT_w _) hA4)
      · intro b' u' hu'
        rw [upd_ne (fun c => by rw [c, hDrn] at hu'; cases hu')]
        exact s5 _ _ (s4 _ _ (sm _ _ hu'))
  · rintro σ' H' ⟨z3, z4, z5, z6, us, rfl, hE, hA, sm⟩
    refine ⟨_, rfl, Dr, _, rfl, .inl ⟨SqL.of hE, fun t ht => ?_⟩⟩
    have s3 := same_new ht (.tup us)
    exact q _ _ ((s1.trans sm).trans s3) (.tup (SqT.of upd_same) (dps_keep (.same s3) _ _ (pTs_all _ fun d hd => by
      obtain ⟨z, _, rfl⟩ := List.mem_map.mp hd
      exact pT_pair g z) hA))
end
end K74


set_option Elab.async false
set_option linter.all false
set_option maxRecDepth 100000
set_option maxHeartbeats 4000000
namespace K74
open PySem L2 TG
section
variable {P : Program} {w : World} {K : PySem.W.Frag} {mg : Str → Option Value} {base : Heap}
/-! ### is_int, is_in of ints -/
def spIsInt : Sp := fun vs H Q _ => ∃ n : Int, vs = [.int n] ∧ Q (.bl true) H
theorem ok_is_int {k : Nat} (T : Txt K mg) : FnOk P w K mg base CX0 (k + 1) T.a_is_int T.d_is_int ["value"] spIsInt := by
  refine T.F_is_int.ok sc_is_int (fun vs H Q E h => ?_) (fun cdv A outer s H vs Q E hr h => ?_)
  · obtain ⟨n, rfl, _⟩ := h
    rfl
  obtain ⟨n, rfl, q⟩ := h
  refine ⟨_, (pss_one (ps_ret (pe_and (pe_callB (call_isiG (K := K) rfl) rfl T.m_isinstance (by decide +kernel) (pa_cons (pv 0) (pa_cons (pe_bltn (v := .ty "int") (u := .type "int") rfl T.m_int (by decide +kernel) rfl) pa_nil))) (pe_one (pe_not (pe_callB (call_isiG (K := K) rfl) rfl T.m_isinstance (by decide +kernel) (pa_cons (pv 0) (pa_cons (pe_bltn (v := .ty "bool") (u := .type "bool") rfl T.m_bool (by decide +kernel) rfl) pa_nil)))))))), ?_⟩
  exact ⟨_, rfl, _, _, _, _, rfl, TyN.int, kit_int_int, _, rfl, _, rfl, _, _, _, _, rfl, TyN.int, kit_int_bool, _, rfl, q⟩
def spIsIn : Sp := fun vs H Q _ => ∃ n a b : Int, vs = [.int n, .int a, .int b] ∧ Q (.bl (decide (a ≤ n) && decide (n ≤ b))) H
theorem ok_is_in {k : Nat} (T : Txt K mg) (G_is_int : FnOk P w K mg base CX0 k T.a_is_int T.d_is_int ["value"] spIsInt) : FnOk P w K mg base CX0 (k + 1) T.a_is_in T.d_is_in ["value", "least", "most"] spIsIn := by
  refine T.F_is_in.ok sc_is_in (fun vs H Q E h => ?_) (fun cdv A outer s H vs Q E hr h => ?_)
  · obtain ⟨n, a, b, rfl, _⟩ := h
    rfl
  obtain ⟨n, a, b, rfl, q⟩ := h
  refine ⟨_, (pss_one (ps_ret (pe_and (pe_call G_is_int hr rfl T.g_is_int T.F_is_int.kp T.b_is_int .nil pass0 (pa_cons (pv 0) pa_nil)) (pe_one (pe_chain op_le op_le (pv 1) (pv 0) (pv 2)))))), ?_⟩
  simp only [tRet, tAndV, tOrV, tNotV, tAnd, tOr, tNot, tB, tTest, tCB, tCons, tNil, tVar, tC, L2.start, tOp, tUn, tIf, tIfS, tSeq, tAsg, gName, tNext, tNever, tPar, tDrop, tCall, tChain, rI, rI0, rU, rEq, rNe, scal, List.map, List.length, List.replicate, List.append, List.set, List.cons_append, List.nil_append, List.append_nil,
  List.getElem?_cons_zero, List.getElem?_cons_succ, List.set_cons_zero, List.set_cons_succ, Option.some.injEq, exists_eq_left', exists_eq_left, exists_eq_right, exists_eq_right', exists_and_left, V.int.injEq, V.bl.injEq, V.str.injEq, V.ref.injEq, List.cons.injEq, and_true, true_and, and_self, Nat.reduceAdd, Nat.reduceSub, Nat.sub_self, decide_eq_true_eq, Bool.not_eq_true', decide_eq_false_iff_not, ↓reduceIte, Bool.false_eq_true, TG.ex2_eq, TG.ex3_eq, TG.ex4_eq]
  refine ⟨n, rfl, true, rfl, ?_⟩
  rw [if_pos rfl]
  by_cases h : a ≤ n
  · rw [if_pos h]
    rw [decide_eq_true h] at q
    exact q
  · rw [if_neg h]
    rw [decide_eq_false h] at q
    exact q
end
end K74


set_option Elab.async false
set_option linter.all false
set_option maxRecDepth 100000
set_option maxHeartbeats 4000000
namespace K74
open PySem L2 TG
section
variable {P : Program} {w : World} {K : PySem.W.Frag} {mg : Str → Option Value} {base : Heap}
/-! ### a draw -/
theorem ok_taken {k : Nat} (T : Txt K mg) : FnOk P w K mg base CX0 (k + 1) T.a_law_taken T.d_law_taken ["_law_row", "_law_many"] (spTk K) := by
  refine T.F_law_taken.ok sc_law_taken (fun vs H Q E h => ?_) (fun cdv A outer s H vs Q E hr h => ?_)
  · obtain ⟨r, a, ns, m, rfl, _⟩ := h
    rfl
  obtain ⟨r, a, ns, m, rfl, ⟨i, z, t, h1, h2, h3, h4⟩, ⟨m0, m1⟩, q⟩ := h
  refine ⟨_, (pss_cons (ps_if (pt_cmpR op_gt (pe_ix (ix_listK (K := K) rfl) (pv 0) pe_int (fun _ _ => rfl)) pe_int (nomark _))
  (pss_cons (ps_set (i := 2) sc_law_taken.nd rfl (Or.inl rfl) (pe_op op_mod (pe_callTy call_int1 rfl T.m_int (by decide +kernel) (pa_cons (pe_ix (ix_listK (K := K) rfl) (pv 0) pe_int (fun _ _ => rfl)) pa_nil)) (pv 1)))
  (pss_cons (ps_asg (pe_op op_fdiv (pe_ix (ix_listK (K := K) rfl) (pv 0) pe_int (fun _ _ => rfl)) (pv 1)) (pg_sub (pv 0) pe_int set_list))
  (pss_one (ps_ret (pv 2)))))
  pss_nil)
  (pss_cons (ps_asg (pe_op op_add (pe_ix (ix_listK (K := K) rfl) (pv 0) pe_int (fun _ _ => rfl)) pe_int) (pg_sub (pv 0) pe_int set_list))
  (pss_cons (ps_if (pt_cmpR op_gt (pe_ix (ix_listK (K := K) rfl) (pv 0) pe_int (fun _ _ => rfl)) (pe_callB (call_lenK (K := K) rfl) rfl T.m_len PySem.boot_len (pa_cons (pe_ix (ix_listK (K := K) rfl) (pv 0) pe_int (fun _ _ => rfl)) pa_nil)) (nomark _))
  (pss_cons (ps_asg (pe_op op_mod (pe_callTy call_int1 rfl T.m_int (by decide +kernel) (pa_cons (pe_op op_add (pe_op op_mul (pe_ix (ix_listK (K := K) rfl) (pv 0) pe_int (fun _ _ => rfl)) pe_int) pe_int) pa_nil)) pe_int) (pg_sub (pv 0) pe_int set_list))
  (pss_one (ps_ret (pe_op op_mod (pe_callTy call_int1 rfl T.m_int (by decide +kernel) (pa_cons (pe_op op_fdiv (pe_ix (ix_listK (K := K) rfl) (pv 0) pe_int (fun _ _ => rfl)) pe_int) pa_nil)) (pv 1)))))
  pss_nil)
  (pss_cons (ps_set (i := 3) sc_law_taken.nd rfl (Or.inl rfl) (pe_ix (ix_listK (K := K) rfl) (pe_ix (ix_listK (K := K) rfl) (pv 0) pe_int (fun _ _ => rfl)) (pe_op op_sub (pe_ix (ix_listK (K := K) rfl) (pv 0) pe_int (fun _ _ => rfl)) pe_int) (fun _ _ => rfl)))
  (pss_cons (ps_asg (pe_op op_mod (pe_callTy call_int1 rfl T.m_int (by decide +kernel) (pa_cons (pe_op op_add (pe_op op_add (pe_op op_mul (pe_ix (ix_listK (K := K) rfl) (pv 0) pe_int (fun _ _ => rfl)) pe_int) (pv 3)) pe_int) pa_nil)) pe_int) (pg_sub (pv 0) pe_int set_list))
  (pss_cons (ps_if (pt_cmpR op_ge (pv 3) (pe_op op_pow pe_int pe_int) (nomark _))
  (pss_one (ps_asg (pe_op op_fdiv (pv 3) (pv 1)) (pg_sub (pv 0) pe_int set_list)))
  pss_nil)
  (pss_one (ps_ret (pe_op op_mod (pe_callTy call_int1 rfl T.m_int (by decide +kernel) (pa_cons (pv 3) pa_nil)) (pv 1)))))))))), ?_⟩
  have md : ∀ x : Int, CDiv x m := fun x => ⟨m0, m1⟩
  have fin : ∀ (x i' z' t' : Int), 0 ≤ i' → Q (.int (x % m)) (upd H r (.lst [.ref a, .int i', .int z', .int t'])) := fun x i' z' t' hi =>
    q _ _ (Int.emod_nonneg _ (by omega)) (Int.emod_lt_of_pos _ m0) ⟨i', z', t', upd_same, by rw [hide_upd]; exact h2, h3, hi⟩ fun b hb => upd_ne hb
  have sc : ∀ o, SqL K (upd H r o) a (ns.map V.int) := fun o => hide_same.seq (by rw [hide_upd]; exact h2)
  -- if _law_row[3] > 0
  refine ⟨_, rfl, ⟨_, _, _, _, rfl, rfl, SqL.of h1, at3, ?_⟩⟩
  refine ⟨_, _, rfl, rfl, _, rfl, ite2 (fun c => ?_) (fun c => ?_)⟩
  · refine ⟨_, rfl, ⟨_, _, _, _, rfl, rfl, SqL.of h1, at3, (.inl ⟨_, rfl, _, rfl, _, _, rfl, rfl, m0, ?_⟩)⟩⟩
    refine ⟨_, rfl, ⟨_, _, _, _, rfl, rfl, SqL.of h1, at3, ⟨_, rfl, _, _, rfl, rfl, md _, ?_⟩⟩⟩
    refine ⟨_, rfl, r, _, 3, 3, rfl, rfl, h1, rfl, _, rfl, ?_⟩
    exact fin _ _ _ _ h4
  · -- _law_row[1] = _law_row[1] + 1
    refine ⟨_, rfl, ⟨_, _, _, _, rfl, rfl, SqL.of h1, at1, ⟨_, _, rfl, rfl, _, rfl, r, _, 1, 1, rfl, rfl, h1, rfl, ?_⟩⟩⟩
    -- if _law_row[1] > len(_law_row[0])
    refine ⟨_, rfl, ⟨_, _, _, _, rfl, rfl, SqL.of upd_same, at1, ⟨_, rfl, ⟨_, _, _, _, rfl, rfl, SqL.of upd_same, at0, ⟨a, _, rfl, .inl (sc _), _, _, rfl, rfl, _, rfl, ite2 (fun c2 => ?_) (fun c2 => ?_)⟩⟩⟩⟩⟩
    · refine ⟨_, rfl, ⟨_, _, _, _, rfl, rfl, SqL.of upd_same, at2, ⟨_, _, rfl, rfl, mul_small, _, _, rfl, rfl, .inl ⟨_, rfl, _, _, rfl, rfl, (by show (0 : Int) < 2147483647; decide), ?_⟩⟩⟩⟩
      refine ⟨_, rfl, r, _, 2, 2, rfl, rfl, upd_same, rfl, ?_⟩
      refine ⟨_, rfl, ⟨_, _, _, _, rfl, rfl, SqL.of upd_same, at2, ⟨_, _, rfl, rfl, ⟨by decide, by decide⟩, .inl ⟨_, rfl, _, rfl, _, _, rfl, rfl, m0, ?_⟩⟩⟩⟩
      rw [upd_upd]
      exact fin _ _ _ _ (by omega)
    · have c3 : ¬ ((((ns.map V.int).length : Nat) : Int) < i + 1) := of_decide_eq_false (Bool.eq_false_iff.mpr c2)
      rw [List.length_map] at c3
      have hi : i.toNat < ns.length := by omega
      have hv : atI (ns.map V.int) (i + 1 - 1) = some (.int (ns[i.toNat])) := by
        have e : i + 1 - 1 = ((i.toNat : Nat) : Int) := by omega
        rw [e]
        exact atI_nat (by rw [List.getElem?_map, List.getElem?_eq_getElem hi]; rfl)
      -- _law_cell = _law_row[0][_law_row[1] - 1]
      refine ⟨_, rfl, ⟨_, _, _, _, rfl, rfl, SqL.of upd_same, at0, ⟨_, rfl, ⟨_, _, _, _, rfl, rfl, SqL.of upd_same, at1, ⟨_, _, rfl, rfl, a, _, _, _, rfl, rfl, sc _, hv, ?_⟩⟩⟩⟩⟩
      refine ⟨_, rfl, ⟨_, _, _, _, rfl, rfl, SqL.of upd_same, at2, ⟨_, _, rfl, rfl, mul_small, _, rfl, _, _, rfl, rfl, _, _, rfl, rfl, .inl ⟨_, rfl, _, _, rfl, rfl, (by show (0 : Int) < 2147483647; decide), ?_⟩⟩⟩⟩
      refine ⟨_, rfl, r, _, 2, 2, rfl, rfl, upd_same, rfl, ?_⟩
      rw [upd_upd]
      refine ⟨_, rfl, _, _, rfl, rfl, ⟨by decide, by decide, by decide⟩, _, _, rfl, rfl, _, rfl, ite2 (fun c4 => ?_) (fun c4 => ?_)⟩
      · refine ⟨_, rfl, _, rfl, _, _, rfl, rfl, md _, _, rfl, r, _, 3, 3, rfl, rfl, upd_same, rfl, ?_⟩
        rw [upd_upd]
        refine ⟨_, rfl, .inl ⟨_, rfl, _, rfl, _, _, rfl, rfl, m0, ?_⟩⟩
        exact fin _ _ _ _ (by omega)
      · refine ⟨_, rfl, .inl ⟨_, rfl, _, rfl, _, _, rfl, rfl, m0, ?_⟩⟩
        exact fin _ _ _ _ (by omega)
end
end K74


set_option Elab.async false
set_option linter.all false
set_option maxRecDepth 100000
set_option maxHeartbeats 4000000
namespace K74
open PySem L2 TG
section
variable {P : Program} {w : World} {K : PySem.W.Frag} {mg : Str → Option Value} {base : Heap}
theorem given_true (n : Nat) : Evl.given n (fun _ => true) (fun _ => V.bl true) = (List.replicate n true).map V.bl := by
  rw [given_all, List.map_replicate, List.map_const', List.length_range]
theorem all_true (n : Nat) : (List.replicate n true).all id = true := by simp
/-! ### is_edges, need_graph: a good graph is let through -/
def spEdges (K : PySem.W.Frag) : Sp := fun vs H Q _ => ∃ (v : V) (rs : List (List Nat)) (n : Nat), vs = [N n, v] ∧ Dp K H v (rowsD rs) ∧ rs.length = n ∧ (∀ r ∈ rs, OkRow n r) ∧ n ≤ 60 ∧ ∀ H', Same H H' → Q (.bl true) H'
theorem ok_is_edges {k : Nat} (T : Txt K mg) (G_is_in : FnOk P w K mg base CX0 k T.a_is_in T.d_is_in ["value", "least", "most"] spIsIn) : FnOk P w K mg base CX0 (k + 1) T.a_is_edges T.d_is_edges ["many", "value"] (spEdges K) := by
  refine T.F_is_edges.ok sc_is_edges (fun vs H Q E h => ?_) (fun cdv A outer s H vs Q E hr h => ?_)
  · obtain ⟨v, rs, n, rfl, _⟩ := h
    rfl
  obtain ⟨v, rs, n, rfl, hD, hn, hok, h60, q⟩ := h
  refine ⟨_, (pss_cons (ps_if (PW.pt (pw_or (pt_not (pt_val (pe_callB (call_isiG (K := K) rfl) rfl T.m_isinstance (by decide +kernel) (pa_cons (pv 1) (pa_cons (pe_bltn (v := .ty "tuple") (u := .type "tuple") rfl T.m_tuple (by decide +kernel) rfl) pa_nil))))) (pw_or1 (pt_cmpR op_ne (pe_callB (call_lenK (K := K) rfl) rfl T.m_len PySem.boot_len (pa_cons (pv 1) pa_nil)) (pv 0) (nomark _)))))
  (pss_one (ps_ret pe_bl))
  pss_nil)
  (pss_cons (ps_for PassesOwn.never rfl (pi_tupK (K := K) rfl (pv 1)) (pg_name (i := 2) sc_is_edges.nd rfl (Or.inr rfl))
  (pss_cons (ps_if (PW.pt (pw_or (pt_not (pt_val (pe_callB (call_isiG (K := K) rfl) rfl T.m_isinstance (by decide +kernel) (pa_cons (pv 2) (pa_cons (pe_bltn (v := .ty "tuple") (u := .type "tuple") rfl T.m_tuple (by decide +kernel) rfl) pa_nil))))) (pw_or1 (pt_not (pt_val (pe_callB (cr_allK (K := K) rfl rfl) rfl T.m_all (by decide +kernel) (pa_cons (pe_lc (own := [("node", 4)]) rfl sc_is_edges.nd (pi_tupK (K := K) rfl (pv 2)) (blkOk_by (N := ["many", "value", "told", "at", "node"]) (sc := defScope s_is_edges) (by decide +kernel)) (fun _ _ _ _ _ => (pg_name (i := 4) sc_is_edges.nd rfl (Or.inl rfl))) (fun _ _ _ _ _ => pts_nil) (fun _ _ _ _ _ => (pe_call G_is_in hr rfl T.g_is_in T.F_is_in.kp T.b_is_in .nil pass0 (pa_cons (pv 4) (pa_cons pe_int (pa_cons (pe_op op_sub (pv 0) pe_int) pa_nil)))))) pa_nil)))))))
  (pss_one (ps_ret pe_bl))
  pss_nil)
  (pss_one (ps_if (pt_not (pt_val (pe_callB (cr_allK (K := K) rfl rfl) rfl T.m_all (by decide +kernel) (pa_cons (pe_lc (own := [("at", 3)]) rfl sc_is_edges.nd (pi_range1 rfl T.m_range (pa_cons (pe_op op_sub (pe_callB (call_lenK (K := K) rfl) rfl T.m_len PySem.boot_len (pa_cons (pv 2) pa_nil)) pe_int) pa_nil)) (blkOk_by (N := ["many", "value", "told", "at", "node"]) (sc := defScope s_is_edges) (by decide +kernel)) (fun _ _ _ _ _ => (pg_name (i := 3) sc_is_edges.nd rfl (Or.inl rfl))) (fun _ _ _ _ _ => pts_nil) (fun _ _ _ _ _ => (pe_cmpR op_lt (pe_ix (ix_tupK (K := K) rfl) (pv 2) (pv 3) (fun _ _ => rfl)) (pe_ix (ix_tupK (K := K) rfl) (pv 2) (pe_op op_add (pv 3) pe_int) (fun _ _ => rfl)) (nomark _)))) pa_nil))))
  (pss_one (ps_ret pe_bl))
  pss_nil))))
  (pss_one (ps_ret pe_bl)))), ?_⟩
  obtain ⟨a, xs, rfl, hS, hl, hA⟩ := rows_at hD
  refine ⟨_, rfl, _, _, _, _, rfl, TyN.tup hS, kit_tuple_tuple, _, rfl, iteF ?_⟩
  refine ⟨_, rfl, a, _, rfl, .inr hS, _, rfl, rfl, _, rfl, ?_⟩
  have e1 : decide (V.int ((xs.length : Nat) : Int) = N n) = true := decide_eq_true (by rw [hl, hn])
  rw [e1]
  refine iteF ?_
  dsimp only [tNext]
  -- for told in value
  refine ⟨_, rfl, a, rfl, ⟨_, hS⟩, ?_⟩
  refine for_tup (xs := xs) (fun i σ' H' => ∃ x2, σ' = [some (N n), some (.ref a), x2, none, none] ∧ Same H H') ?_ ?_ ?_ ?_
  · exact ⟨none, rfl, fun _ _ e => e⟩
  · rintro i σ' H' _ ⟨x2, rfl, s⟩
    exact sqT s hS
  · rintro i x σ' H' hx ⟨x2, rfl, s⟩
    have hi : i < rs.length := by rw [← hl]; exact (List.getElem?_eq_some_iff.mp hx).1
    obtain ⟨b, hb, hT⟩ := rows_get hA (List.getElem?_eq_getElem hi)
    rw [hx] at hb
    obtain rfl := Option.some.inj hb
    have ok := hok _ (List.getElem_mem hi)
    generalize rs[i] = ds at hT ok
    have hT' := sqT s hT
    dsimp only [gName]
    refine ⟨_, rfl, _, _, _, _, rfl, TyN.tup hT', kit_tuple_tuple, _, rfl, iteF ?_⟩
    refine go_not (go_B (go_cb (go_cons ?_)))
    refine el_lcT (K := K) (a := b) (xs := ds.map N) (fun _ => true) (fun _ => .bl true) ?_ hT' ?_ ?_ ?_ ?_ H' (Evl.Ex.refl H') _ ?_
    · exact Evl.ev_var rfl
    · rw [List.length_map]
      have := ok.2.2
      omega
    · intro x
      rfl
    · intro i x H1 e1 hx H2 e2 Q2 q2
      exact q2 H2 (Evl.Ex.refl H2)
    · intro i x H1 e1 hx _ H2 e2 Q2 q2
      rw [List.getElem?_map] at hx
      cases hd : ds[i]? with
      | none => rw [hd] at hx; cases hx
      | some d =>
        rw [hd] at hx
        obtain rfl := Option.some.inj hx
        have d7 := ok.2.1 d (List.mem_of_getElem? hd)
        refine ⟨_, rfl, _, rfl, _, _, rfl, rfl, _, _, _, rfl, ?_⟩
        rw [decide_eq_true (by omega), decide_eq_true (by omega)]
        exact q2 H2 (Evl.Ex.refl H2)
    · intro D1 H1 hD1 e1 h1
      rw [given_true] at h1
      refine ⟨D1, _, rfl, SqL.of h1, _, rfl, ?_⟩
      rw [all_true]
      refine iteF ?_
      dsimp only [tNext]
      have hT1 := sqT e1 hT'
      refine go_ifS (go_not (go_B (go_cb (go_cons ?_))))
      refine el_lcR1n (n := ((ds.length : Nat) : Int) - 1) (fun _ => true) (fun _ => .bl true) ?_ ?_ ?_ ?_ ?_ H1 (Evl.Ex.refl H1) _ ?_
      · intro H2 e2 Q2 q2
        refine ⟨_, rfl, b, _, rfl, .inr (sqT e2 hT1), _, _, rfl, rfl, ?_⟩
        rw [List.length_map]
        exact q2 H2 (Evl.Ex.refl H2)
      · have := ok.2.2
        omega
      · intro x
        rfl
      · intro i H2 e2 hi H3 e3 Q3 q3
        exact q3 H3 (Evl.Ex.refl H3)
      · intro i H2 e2 hi _ H3 e3 Q3 q3
        have h1 : i < ds.length := by omega
        have h2 : i + 1 < ds.length := by omega
        have hlt := List.pairwise_iff_getElem.mp ok.1 i (i + 1) h1 h2 (Nat.lt_succ_self i)
        have hT3 := sqT e3 (sqT e2 hT1)
        refine ⟨_, rfl, _, rfl, b, _, _, N ds[i], rfl, rfl, hT3, ?_, _, rfl, _, rfl, _, _, rfl, rfl, b, _, _, N ds[i + 1], rfl, rfl, hT3, ?_, _, _, rfl, rfl, ?_⟩
        · exact atI_nat (by rw [List.getElem?_map, List.getElem?_eq_getElem h1]; rfl)
        · have : ((i : Nat) : Int) + 1 = ((i + 1 : Nat) : Int) := by omega
          rw [this]
          exact atI_nat (by rw [List.getElem?_map, List.getElem?_eq_getElem h2]; rfl)
        · have e5 : decide (((ds[i] : Nat) : Int) < ((ds[i + 1] : Nat) : Int)) = true := decide_eq_true (by omega)
          show Q3 (V.bl (decide (((ds[i] : Nat) : Int) < ((ds[i + 1] : Nat) : Int)))) H3
          rw [e5]
          exact q3 H3 (Evl.Ex.refl H3)
      · intro D2 H2 hD2 e2 h2
        rw [given_true] at h2
        refine ⟨D2, _, rfl, SqL.of h2, _, rfl, ?_⟩
        rw [all_true]
        exact iteF ⟨_, rfl, (s.trans e1).trans e2⟩
  · rintro σ' H' ⟨x2, rfl, s⟩
    exact q H' s
def GrOk (L R : List (List Nat)) : Prop := L.length = R.length ∧ 1 ≤ L.length ∧ L.length ≤ 60 ∧ (∀ r ∈ L, OkRow L.length r) ∧ ∀ r ∈ R, OkRow L.length r
def spNeedG (K : PySem.W.Frag) : Sp := fun vs H Q _ => ∃ (v : V) (L R : List (List Nat)), vs = [v] ∧ Dp K H v (grD L R) ∧ GrOk L R ∧ ∀ H', Same H H' → Q .non H'
theorem ok_need_graph {k : Nat} (T : Txt K mg) (G_is_edges : FnOk P w K mg base CX0 k T.a_is_edges T.d_is_edges ["many", "value"] (spEdges K)) : FnOk P w K mg base CX0 (k + 1) T.a_need_graph T.d_need_graph ["value"] (spNeedG K) := by
  refine T.F_need_graph.ok sc_need_graph (fun vs H Q E h => ?_) (fun cdv A outer s H vs Q E hr h => ?_)
  · obtain ⟨v, L, R, rfl, _⟩ := h
    rfl
  obtain ⟨v, L, R, rfl, hD, ⟨hlr, h1, h60, hL, hRr⟩, q⟩ := h
  refine ⟨_, (pss_cons (ps_if (PW.pt (pw_or (pt_not (pt_val (pe_callB (call_isiG (K := K) rfl) rfl T.m_isinstance (by decide +kernel) (pa_cons (pv 0) (pa_cons (pe_bltn (v := .ty "tuple") (u := .type "tuple") rfl T.m_tuple (by decide +kernel) rfl) pa_nil))))) (pw_or (pt_cmpR op_ne (pe_callB (call_lenK (K := K) rfl) rfl T.m_len PySem.boot_len (pa_cons (pv 0) pa_nil)) pe_int (nomark _)) (pw_or1 (pt_not (pt_val (pe_callB (call_isiG (K := K) rfl) rfl T.m_isinstance (by decide +kernel) (pa_cons (pe_ix (ix_tupK (K := K) rfl) (pv 0) pe_int (fun _ _ => rfl)) (pa_cons (pe_bltn (v := .ty "tuple") (u := .type "tuple") rfl T.m_tuple (by decide +kernel) rfl) pa_nil)))))))))
  (pss_one ps_never)
  pss_nil)
  (pss_cons (ps_set (i := 1) sc_need_graph.nd rfl (Or.inl rfl) (pe_callB (call_lenK (K := K) rfl) rfl T.m_len PySem.boot_len (pa_cons (pe_ix (ix_tupK (K := K) rfl) (pv 0) pe_int (fun _ _ => rfl)) pa_nil)))
  (pss_one (ps_if (PW.pt (pw_or (pt_not (pt_chain op_le op_le pe_int (pv 1) (pe_glob (v := .int 60) rfl T.c_MOST_GRAPH ⟨_, rfl⟩))) (pw_or (pt_not (pt_val (pe_call G_is_edges hr rfl T.g_is_edges T.F_is_edges.kp T.b_is_edges .nil pass0 (pa_cons (pv 1) (pa_cons (pe_ix (ix_tupK (K := K) rfl) (pv 0) pe_int (fun _ _ => rfl)) pa_nil))))) (pw_or1 (pt_not (pt_val (pe_call G_is_edges hr rfl T.g_is_edges T.F_is_edges.kp T.b_is_edges .nil pass0 (pa_cons (pv 1) (pa_cons (pe_ix (ix_tupK (K := K) rfl) (pv 0) pe_int (fun _ _ => rfl)) pa_nil)))))))))
  (pss_one ps_never)
  pss_nil)))), ?_⟩
  obtain ⟨a, l, r, rfl, hS, hl, hrr⟩ := gr_at hD
  obtain ⟨b, xs, rfl, hSl, hll, hAl⟩ := rows_at hl
  refine ⟨_, rfl, _, _, _, _, rfl, TyN.tup hS, kit_tuple_tuple, _, rfl, iteF ?_⟩
  refine ⟨_, rfl, a, _, rfl, .inr hS, rfl, _, rfl, iteF ?_⟩
  refine ⟨_, rfl, a, _, 0, _, rfl, rfl, hS, rfl, _, _, _, _, rfl, TyN.tup hSl, kit_tuple_tuple, _, rfl, iteF ?_⟩
  dsimp only [tNext]
  -- many = len(value[0])
  refine ⟨_, rfl, a, _, 0, _, rfl, rfl, hS, rfl, b, _, rfl, .inr hSl, ?_⟩
  rw [hll]
  dsimp only [gName]
  refine ⟨_, rfl, _, _, rfl, rfl, _, rfl, ?_⟩
  rw [decide_eq_true (by omega)]
  refine iteT ⟨_, _, rfl, rfl, _, rfl, ?_⟩
  rw [decide_eq_true (by omega)]
  refine iteF ?_
  refine ⟨_, rfl, _, rfl, a, _, 0, _, rfl, rfl, hS, rfl, _, L, L.length, rfl, hl, rfl, hL, h60, fun H1 s1 => ?_⟩
  refine ⟨_, rfl, iteF ?_⟩
  refine ⟨_, rfl, _, rfl, a, _, 1, _, rfl, rfl, sqT s1 hS, rfl, _, R, L.length, rfl, dp_keep (.same s1) _ _ (pT_rows R) hrr, hlr.symm, hRr, h60, fun H2 s2 => ?_⟩
  exact ⟨_, rfl, iteF (q H2 (s1.trans s2))⟩
/-! ### a drawn graph -/
def spGraph (K : PySem.W.Frag) : Sp := fun vs H Q _ => ∃ (r a : Addr) (ns : List Int) (m : Nat), vs = [.ref r, N m] ∧ RowA K a ns H r ∧ (1 ≤ m ∧ m ≤ 8) ∧
  ∀ (v : V) (L R : List (List Nat)) (H' : Hp), Dp K H' v (grD L R) → GrOk L R → L.length ≤ m → RowA K a ns H' r → Off r H H' → Q v H'
theorem ok_graph {k : Nat} (T : Txt K mg) (G_law_taken : FnOk P w K mg base CX0 k T.a_law_taken T.d_law_taken ["_law_row", "_law_many"] (spTk K)) : FnOk P w K mg base CX0 (k + 1) T.a_law_graph T.d_law_graph ["_law_row", "_law_most"] (spGraph K) := by
  refine T.F_law_graph.ok sc_law_graph (fun vs H Q E h => ?_) (fun cdv A outer s H vs Q E hr h => ?_)
  · obtain ⟨r, a, ns, m, rfl, _⟩ := h
    rfl
  obtain ⟨r, a, ns, m, rfl, hR, ⟨m1, m8⟩, q⟩ := h
  refine ⟨_, (pss_cons (ps_set (i := 2) sc_law_graph.nd rfl (Or.inr rfl) (pe_op op_add pe_int (pe_call G_law_taken hr rfl T.g_law_taken T.F_law_taken.kp T.b_law_taken .nil pass0 (pa_cons (pv 0) (pa_cons (pv 1) pa_nil)))))
  (pss_cons (ps_set (i := 3) sc_law_graph.nd rfl (Or.inl rfl) (pe_lst pa_nil))
  (pss_cons (ps_for PassesOwn.never rfl (pi_listK (K := K) rfl (pe_lst (pa_cons pe_int (pa_cons pe_int pa_nil)))) (pg_name (i := 4) sc_law_graph.nd rfl (Or.inl rfl))
  (pss_cons (ps_set (i := 5) sc_law_graph.nd rfl (Or.inl rfl) (pe_lst pa_nil))
  (pss_cons (ps_for PassesOwn.never rfl (pi_range1 rfl T.m_range (pa_cons (pv 2) pa_nil)) (pg_name (i := 6) sc_law_graph.nd rfl (Or.inl rfl))
  (pss_cons (ps_setLc (i := 7) (own := [("_law_at", 8)]) rfl sc_law_graph.nd rfl rfl (sw_true rfl rfl rfl (by decide +kernel)) (pi_range1 rfl T.m_range (pa_cons (pe_call G_law_taken hr rfl T.g_law_taken T.F_law_taken.kp T.b_law_taken .nil pass0 (pa_cons (pv 0) (pa_cons pe_int pa_nil))) pa_nil)) (blkOk_by (N := ["_law_row", "_law_most", "_law_many", "_law_sides", "_law_side", "_law_rows", "_law_node", "_law_some", "_law_at"]) (sc := defScope s_law_graph) (by decide +kernel)) (fun _ _ _ _ _ => (pg_name (i := 8) sc_law_graph.nd rfl (Or.inl rfl))) (fun _ _ _ _ _ => pts_nil) (fun _ _ _ _ _ => (pe_call G_law_taken hr rfl T.g_law_taken T.F_law_taken.kp T.b_law_taken .nil pass0 (pa_cons (pv 0) (pa_cons (pv 2) pa_nil)))))
  (pss_one (ps_expr (pe_bmK (K := K) rfl PySem.F.plainAttrs_list PySem.F.slot_list_append PySem.F.type_list_append mt_append (pv 5) (pa_cons (pe_callTy (call_tuple_ofK (K := K) rfl) rfl T.m_tuple (by decide +kernel) (pa_cons (pe_callB (cr_sortedSetK (w := w) rfl rfl) rfl T.m_sorted (by decide +kernel) (pa_cons (pe_callTy (cr_setIK (K := K) (w := w) rfl rfl rfl) rfl T.m_set (by decide +kernel) (pa_cons (pv 7) pa_nil)) pa_nil)) pa_nil)) pa_nil))))))
  (pss_one (ps_expr (pe_bmK (K := K) rfl PySem.F.plainAttrs_list PySem.F.slot_list_append PySem.F.type_list_append mt_append (pv 3) (pa_cons (pe_callTy (call_tuple_ofK (K := K) rfl) rfl T.m_tuple (by decide +kernel) (pa_cons (pv 5) pa_nil)) pa_nil)))))))
  (pss_one (ps_ret (pe_tup (pa_cons (pe_ix (ix_listK (K := K) rfl) (pv 3) pe_int (fun _ _ => rfl)) (pa_cons (pe_ix (ix_listK (K := K) rfl) (pv 3) pe_int (fun _ _ => rfl)) pa_nil)))))))), ?_⟩
  refine ⟨_, rfl, _, rfl, r, a, ns, _, rfl, hR, ⟨by omega, by omega⟩, fun d H1 d0 d1 hR1 ho1 => ⟨_, _, rfl, rfl, ?_⟩⟩
  obtain ⟨n, hn⟩ : ∃ n : Nat, 1 + d = (n : Int) := ⟨(1 + d).toNat, by omega⟩
  have n1 : 1 ≤ n := by omega
  have nm : n ≤ m := by omega
  dsimp only [gName]
  rw [hn]
  have o1 : Off r H H1 := .eq ho1
  -- sides = []
  refine ⟨by show 0 ≤ sizeLine; decide, fun D1 hD1 => ?_⟩
  have hrD1 : r ≠ D1 := by
    obtain ⟨xs, hx⟩ := hR1.there
    exact ne_of_none hx hD1
  have sD1 := hR1.safe hD1
  have hR2 := hR1.upd (o := .lst []) hrD1 sD1
  have o2 : Off r H (upd H1 D1 (.lst [])) := o1.trans (.of (same_new hD1 _))
  have hE2 : upd H1 D1 (.lst []) D1 = some (.lst []) := upd_same
  generalize upd H1 D1 (.lst []) = H2 at hR2 o2 hE2
  -- for side in [0, 1]
  refine ⟨by show 2 ≤ sizeLine; decide, fun L0 hL0 => ⟨L0, rfl, ⟨_, SqL.of upd_same⟩, ?_⟩⟩
  have hDL : D1 ≠ L0 := ne_of_none hE2 hL0
  have hrL : r ≠ L0 := by
    obtain ⟨xs, hx⟩ := hR2.there
    exact ne_of_none hx hL0
  refine for_list (K := K) (a := L0) (xs := [V.int 0, V.int 1]) (fun i σ' H' => ∃ (x4 x5 x6 x7 : Option V) (ss : List V) (rss : List (List (List Nat))), σ' = [some (.ref r), some (N m), some (N n), some (.ref D1), x4, x5, x6, x7, none] ∧
    H' D1 = some (.lst ss) ∧ rss.length = i ∧ DpAll K H' ss (rss.map rowsD) ∧ (∀ rs ∈ rss, rs.length = n ∧ ∀ row ∈ rs, OkRow n row) ∧ H' L0 = some (.lst [V.int 0, V.int 1]) ∧ RowA K a ns H' r ∧ Off r H H') ?_ ?_ ?_ ?_
  · refine ⟨none, none, none, none, [], [], rfl, ?_, rfl, .nil, fun rs h => (List.not_mem_nil h).elim, upd_same, hR2.more (same_new hL0 _), o2.trans (.of (same_new hL0 _))⟩
    rw [upd_ne hDL]
    exact hE2
  · rintro i σ' H' _ ⟨x4, x5, x6, x7, ss, rss, rfl, _, _, _, _, h, _⟩
    exact SqL.of h
  · rintro i x σ' H' hx ⟨x4, x5, x6, x7, ss, rss, rfl, hS1, hl1, hA1, hok1, hL1, hR3, o3⟩
    dsimp only [gName]
    -- rows = []
    refine ⟨by show 0 ≤ sizeLine; decide, fun D2 hD2 => ?_⟩
    have h21 : D1 ≠ D2 := ne_of_none hS1 hD2
    have h2L : L0 ≠ D2 := ne_of_none hL1 hD2
    have hrD2 : r ≠ D2 := by
      obtain ⟨xs, hx⟩ := hR3.there
      exact ne_of_none hx hD2
    have sD2 := hR3.safe hD2
    have kA := KpT.new (o := .lst []) hD2
    -- for node in range(many)
    refine ⟨_, rfl, _, rfl, by omega, by omega, ?_⟩
    refine for_range (lo := 0) (n := n) (fun j σ'' H'' => ∃ (x6 x7 : Option V) (rs : List V) (rows : List (List Nat)), σ'' = [some (.ref r), some (N m), some (N n), some (.ref D1), some x, some (.ref D2), x6, x7, none] ∧
      H'' D2 = some (.lst rs) ∧ rows.length = j ∧ DpAll K H'' rs (rows.map rowD) ∧ (∀ row ∈ rows, OkRow n row) ∧ H'' D1 = some (.lst ss) ∧ DpAll K H'' ss (rss.map rowsD) ∧ H'' L0 = some (.lst [V.int 0, V.int 1]) ∧ RowA K a ns H'' r ∧ Off r H H'') ?_ ?_ ?_
    · refine ⟨_, _, [], [], rfl, upd_same, rfl, .nil, fun row h => (List.not_mem_nil h).elim, ?_, ?_, ?_, hR3.upd hrD2 sD2, o3.trans (.of (same_new hD2 _))⟩
      · rw [upd_ne h21]
        exact hS1
      · exact dps_keep kA _ _ (pTs_all _ fun d hd => by
          obtain ⟨z, _, rfl⟩ := List.mem_map.mp hd
          exact pT_rows z) hA1
      · rw [upd_ne h2L]
        exact hL1
    · rintro j σ'' H'' hj ⟨y6, y7, rs, rows, rfl, hE, hlr, hAr, hokr, hS2, hA2, hL2, hR4, o4⟩
      dsimp only [gName]
      -- some = [..]
      refine ⟨_, rfl, r, a, ns, 3, rfl, hR4, ⟨by decide, by decide⟩, fun c H3 c0 c1 hR5 ho5 => ⟨c, rfl, by omega, by omega, fun D3 hD3 => ?_⟩⟩
      have hrD3 : r ≠ D3 := by
        obtain ⟨xs, hx⟩ := hR5.there
        exact ne_of_none hx hD3
      have sD3 := hR5.safe hD3
      have o5 : Off r H'' H3 := .eq ho5
      refine lc_range (lo := 0) (n := c.toNat) (fun i H4 => ∃ acc : List Int, acc.length = i ∧ (∀ z ∈ acc, 0 ≤ z ∧ z < (n : Int)) ∧ H4 D3 = some (.lst (acc.map V.int)) ∧ RowA K a ns H4 r ∧ Off r H'' H4) ?_ ?_ ?_
      · refine ⟨[], rfl, fun z h => (List.not_mem_nil h).elim, upd_same, hR5.upd hrD3 sD3, o5.trans (.of (same_new hD3 _))⟩
      · rintro i H4 hi ⟨acc, hac, hz, hD4, hR6, o6⟩
        refine ⟨rfl, ?_⟩
        dsimp only [tYes]
        rw [if_pos rfl]
        refine ⟨_, rfl, _, rfl, r, a, ns, _, rfl, hR6, ⟨by omega, by omega⟩, fun e H5 e0 e1 hR7 ho7 => ?_⟩
        have hD5 : H5 D3 = some (.lst (acc.map V.int)) := by rw [ho7 D3 (Ne.symm hrD3)]; exact hD4
        refine ⟨acc.map V.int, hD5, ?_, acc ++ [e], ?_, ?_, ?_, hR7.upd hrD3 sD3, ?_⟩
        · rw [List.length_map]
          exact Nat.lt_of_le_of_lt (by omega : acc.length ≤ 10) (by decide)
        · rw [List.length_append, hac]
          rfl
        · intro z hz'
          rcases List.mem_append.mp hz' with h | h
          · exact hz z h
          · rw [List.mem_singleton] at h
            omega
        · rw [upd_same, List.map_append]
          rfl
        · intro b u hb e
          have hbD : b ≠ D3 := fun c => by
            have : H3 b = some u := o5 b u hb e
            rw [c, hD3] at this
            cases this
          rw [upd_ne hbD, ho7 b hb]
          exact o6 b u hb e
      · rintro H4 ⟨acc, hac, hz, hD4, hR6, o6⟩
        -- rows.append(tuple(sorted(set(some))))
        dsimp only [gName]
        have hE4 : H4 D2 = some (.lst rs) := o6 D2 _ (Ne.symm hrD2) hE
        refine ⟨_, rfl, .inl ⟨rfl, _, SqL.of hE4⟩, _, rfl, D3, acc, rfl, SqL.of hD4, by omega, fun p1 cnt hp1 hcnt => ?_⟩
        refine ⟨p1, _, cnt, rfl, upd_same, by omega, fun zs p2 hzs hmem hzl hp2 => ⟨p2, _, rfl, .inl ⟨SqL.of upd_same, fun p3 hp3 => ?_⟩⟩⟩
        obtain ⟨ds, eds, hpd, hdl, hdm⟩ := nat_list (ns := zs) (fun x hx => by
          have := (hmem x).mp hx
          exact (hz x (of_decide_eq_true this)).1) hzs
        have s1 := same_new hp1 (SetO w p1 (fun j => decide (j ∈ acc)) cnt)
        have s2 := same_new hp2 (.lst (zs.map V.int))
        have s3 := same_new hp3 (.tup (zs.map V.int))
        have s13 := (s1.trans s2).trans s3
        generalize hH5 : upd (upd (upd H4 p1 (SetO w p1 (fun j => decide (j ∈ acc)) cnt)) p2 (.lst (zs.map V.int))) p3 (.tup (zs.map V.int)) = H5 at s13
        have hp5 : H5 p3 = some (.tup (ds.map N)) := by rw [← hH5, upd_same, eds]
        have hE5 : H5 D2 = some (.lst rs) := s13 _ _ hE4
        have k45 : KpT H'' H5 := by
          obtain ⟨xs, hx⟩ := hR4.there
          exact (KpT.off hx o6).trans (.same s13)
        have k56 : KpT H5 (upd H5 D2 (.lst (rs ++ [.ref p3]))) := .upd hE5
        have okd : OkRow n ds := by
          refine ⟨hpd, fun d hd => ?_, by omega⟩
          have := hz _ (of_decide_eq_true ((hmem _).mp ((hdm d).mp hd)))
          omega
        refine ⟨D2, _, _, rfl, rfl, hE5, ?_, ?_⟩
        · have := dps_len hAr
          rw [List.length_map] at this
          exact Nat.lt_of_le_of_lt (by omega : rs.length ≤ 10) (by decide)
        refine ⟨_, _, rs ++ [.ref p3], rows ++ [ds], rfl, upd_same, ?_, ?_, ?_, ?_, ?_, ?_, (hR6.more s13).upd hrD2 sD2, ?_⟩
        · rw [List.length_append, hlr]
          rfl
        · rw [List.map_append]
          refine dps_snoc (dps_keep (k45.trans k56) _ _ (pTs_all _ fun d hd => by
            obtain ⟨z, _, rfl⟩ := List.mem_map.mp hd
            exact pT_row z) hAr) (row_of (k56 K _ _ (SqT.of hp5)))
        · intro row hrow
          rcases List.mem_append.mp hrow with h | h
          · exact hokr row h
          · rw [List.mem_singleton] at h
            rw [h]
            exact okd
        · rw [upd_ne h21]
          exact s13 _ _ (o6 _ _ (Ne.symm hrD1) hS2)
        · exact dps_keep (k45.trans k56) _ _ (pTs_all _ fun d hd => by
            obtain ⟨z, _, rfl⟩ := List.mem_map.mp hd
            exact pT_rows z) hA2
        · rw [upd_ne h2L]
          exact s13 _ _ (o6 _ _ (Ne.symm hrL) hL2)
        · intro b u hb e
          have hbD : b ≠ D2 := fun c => by
            have : H' b = some u := o3 b u hb e
            rw [c, hD2] at this
            cases this
          rw [upd_ne hbD]
          exact s13 _ _ (o6 _ _ hb (o4 b u hb e))
    · rintro σ'' H'' ⟨y6, y7, rs, rows, rfl, hE, hlr, hAr, hokr, hS2, hA2, hL2, hR4, o4⟩
      -- sides.append(tuple(rows))
      refine ⟨_, rfl, .inl ⟨rfl, _, SqL.of hS2⟩, _, rfl, D2, _, rfl, .inl ⟨SqL.of hE, fun p hp => ?_⟩⟩
      have s1 := same_new hp (.tup rs)
      have hp1 : upd H'' p (.tup rs) p = some (.tup rs) := upd_same
      generalize upd H'' p (.tup rs) = H3 at s1 hp1
      have hS3 := s1 _ _ hS2
      have k2 : KpT H3 (upd H3 D1 (.lst (ss ++ [.ref p]))) := .upd hS3
      have hl2 := dps_len hA2
      rw [List.length_map] at hl2
      have hi2 : i < 2 := (List.getElem?_eq_some_iff.mp hx).1
      refine ⟨D1, _, _, rfl, rfl, hS3, Nat.lt_of_le_of_lt (by omega : ss.length ≤ 10) (by decide), _, _, _, _, ss ++ [.ref p], rss ++ [rows], rfl, upd_same, ?_, ?_, ?_, ?_, (hR4.more s1).upd hrD1 sD1, ?_⟩
      · rw [List.length_append, hl1]
        rfl
      · rw [List.map_append]
        refine dps_snoc (dps_keep ((KpT.same s1).trans k2) _ _ (pTs_all _ fun d hd => by
          obtain ⟨z, _, rfl⟩ := List.mem_map.mp hd
          exact pT_rows z) hA2) ?_
        exact .tup (k2 K _ _ (SqT.of hp1)) (dps_keep ((KpT.same s1).trans k2) _ _ (pTs_all _ fun d hd => by
          obtain ⟨z, _, rfl⟩ := List.mem_map.mp hd
          exact pT_row z) hAr)
      · intro rs' h
        rcases List.mem_append.mp h with h | h
        · exact hok1 rs' h
        · rw [List.mem_singleton] at h
          rw [h]
          exact ⟨hlr, hokr⟩
      · rw [upd_ne (Ne.symm hDL)]
        exact s1 _ _ hL2
      · intro b u hb e
        have hbD : b ≠ D1 := fun c => by
          have : H1 b = some u := o1 b u hb e
          rw [c, hD1] at this
          cases this
        rw [upd_ne hbD]
        exact s1 _ _ (o4 b u hb e)
  · rintro σ' H' ⟨x4, x5, x6, x7, ss, rss, rfl, hS1, hl1, hA1, hok1, hL1, hR3, o3⟩
    match rss, ss, hl1, hA1 with
    | [L, R], [l, r'], _, .cons h1 (.cons h2 .nil) =>
      refine ⟨_, rfl, D1, _, 0, l, rfl, rfl, SqL.of hS1, rfl, _, rfl, D1, _, 1, r', rfl, rfl, SqL.of hS1, rfl, by show 2 ≤ sizeLine; decide, fun p hp => ?_⟩
      have s1 := same_new hp (.tup [l, r'])
      obtain ⟨hL, hLo⟩ := hok1 L (by simp)
      obtain ⟨hRl, hRo⟩ := hok1 R (by simp)
      refine q _ L R _ (gr_of (SqT.of upd_same) (dp_keep (.same s1) _ _ (pT_rows L) h1) (dp_keep (.same s1) _ _ (pT_rows R) h2)) ⟨by omega, by omega, by omega, by rw [hL]; exact hLo, by rw [hL]; exact hRo⟩ (by omega) (hR3.more s1) (o3.trans (.of s1))
end
end K74


set_option Elab.async false
set_option linter.all false
set_option maxRecDepth 100000
set_option maxHeartbeats 4000000
namespace K74
open PySem L2 TG GM SV
section
variable {P : Program} {w : World} {K : PySem.W.Frag} {mg : Str → Option Value} {base : Heap}
def spSolution (K : PySem.W.Frag) : Sp := fun vs H Q _ => ∃ (v : V) (L R : List (List Nat)), vs = [v] ∧ Dp K H v (grD L R) ∧ GrOk L R ∧ ∀ (v' : V) H', Same H H' → Dp K H' v' (solD L.length (gS (op L R))) → Q v' H'
theorem ok_solution {k : Nat} (T : Txt K mg) (G_need_graph : FnOk P w K mg base CX0 k T.a_need_graph T.d_need_graph ["value"] (spNeedG K)) (G_solution_of : FnOk P w K mg base CX0 k T.a_solution_of T.d_solution_of ["graph"] (spSolOf K)) : FnOk P w K mg base CX0 (k + 1) T.a_solution T.d_solution ["graph"] (spSolution K) := by
  refine T.F_solution.ok sc_solution (fun vs H Q E h => ?_) (fun cdv A outer s H vs Q E hr h => ?_)
  · obtain ⟨v, L, R, rfl, _⟩ := h
    rfl
  obtain ⟨v, L, R, rfl, h1, hok, q⟩ := h
  refine ⟨_, (pss_cons (ps_expr (pe_call G_need_graph hr rfl T.g_need_graph T.F_need_graph.kp T.b_need_graph .nil pass0 (pa_cons (pv 0) pa_nil)))
  (pss_one (ps_ret (pe_call G_solution_of hr rfl T.g_solution_of T.F_solution_of.kp T.b_solution_of .nil pass0 (pa_cons (pv 0) pa_nil))))), ?_⟩
  obtain ⟨e1, n1, n60, okL, okR⟩ := id hok
  refine ⟨_, rfl, v, L, R, rfl, h1, hok, fun H1 s1 => ?_⟩
  exact ⟨_, rfl, v, L, R, L.length, rfl, dp_keep (.same s1) _ _ (pT_gr L R) h1, ⟨rfl, e1.symm, Nat.le_trans n60 (by decide)⟩, okL, okR, fun v' H' s' h' => q v' H' (s1.trans s') h'⟩
def wordO : Option (Nat × Nat) → Str
  | none => Str.ofString "draw"
  | some (w, _) => wordS w
def resP (g : Nat → Nat → Option (Nat × Nat)) (v : Nat) : PyData := .tuple [.str (wordO (g 0 v)), .str (wordO (g 1 v))]
end
end K74


set_option Elab.async false
set_option linter.all false
set_option maxRecDepth 100000
set_option maxHeartbeats 4000000
/-! Data of the layer: as the hand layer's, and pointers to objects (ptr a), and dicts that are only known to be dicts. -/
namespace DL
open PySem L2 TG
/-- a pointer to the object at a, as data -/
def ptr (a : Addr) : PyData := .dict [(.none, .int (a : Int))]
theorem ptr_inj {a b : Addr} (h : ptr a = ptr b) : a = b := by
  unfold ptr at h
  injection h with h
  injection h with h _
  injection h with _ h
  injection h with h
  exact Int.ofNat.inj h
mutual
inductive Dp (K : PySem.W.Frag) (H : Hp) : V → PyData → Prop
  | non : Dp K H .non .none
  | bl (b : Bool) : Dp K H (.bl b) (.bool b)
  | int (i : Int) : Dp K H (.int i) (.int i)
  | str (x : Str) : Dp K H (.str x) (.str x)
  | lst {a : Addr} {xs : List V} {ds : List PyData} : SqL K H a xs → DpAll K H xs ds → Dp K H (.ref a) (.list ds)
  | tup {a : Addr} {xs : List V} {ds : List PyData} : SqT K H a xs → DpAll K H xs ds → Dp K H (.ref a) (.tuple ds)
  | ptr (a : Addr) : Dp K H (.ref a) (ptr a)
  | dic {a : Addr} {kvs : List (Key × V)} : H a = some (.dK kvs) → Dp K H (.ref a) (.dict [])
inductive DpAll (K : PySem.W.Frag) (H : Hp) : List V → List PyData → Prop
  | nil : DpAll K H [] []
  | cons {v : V} {vs : List V} {d : PyData} {ds : List PyData} : Dp K H v d → DpAll K H vs ds → DpAll K H (v :: vs) (d :: ds)
end
section
variable {K : PySem.W.Frag} {H H' : Hp}
mutual
theorem dp_mono (k : Same H H') : ∀ (d : PyData) (v : V), Dp K H v d → Dp K H' v d
  | .none, _, h => by cases h; exact .non
  | .bool b, _, h => by cases h; exact .bl b
  | .int i, _, h => by cases h; exact .int i
  | .str x, _, h => by cases h; exact .str x
  | .list ds, _, h => by
    cases h with
    | lst hs ha => exact .lst (sqL k hs) (dps_mono k ds _ ha)
  | .dict kvs, _, h => by
    generalize e : PyData.dict kvs = d at h
    cases h with
    | ptr a => exact .ptr a
    | dic q => exact .dic (k _ _ q)
    | _ => cases e
  | .tuple ds, _, h => by
    cases h with
    | tup hs ha => exact .tup (sqT k hs) (dps_mono k ds _ ha)
theorem dps_mono (k : Same H H') : ∀ (ds : List PyData) (vs : List V), DpAll K H vs ds → DpAll K H' vs ds
  | [], _, h => by cases h; exact .nil
  | d :: ds, _, h => by
    cases h with
    | cons h1 h2 => exact .cons (dp_mono k d _ h1) (dps_mono k ds _ h2)
end
mutual
/-- the hand layer's data are such -/
theorem dp_of : ∀ (d : PyData) (v : V), L2.Dp K H v d → Dp K H v d
  | .none, _, h => by cases h; exact .non
  | .bool b, _, h => by cases h; exact .bl b
  | .int i, _, h => by cases h; exact .int i
  | .str x, _, h => by cases h; exact .str x
  | .list ds, _, h => by
    cases h with
    | lst hs ha => exact .lst hs (dps_of ds _ ha)
  | .dict kvs, _, h => by cases h
  | .tuple ds, _, h => by
    cases h with
    | tup hs ha => exact .tup hs (dps_of ds _ ha)
theorem dps_of : ∀ (ds : List PyData) (vs : List V), L2.DpAll K H vs ds → DpAll K H vs ds
  | [], _, h => by cases h; exact .nil
  | d :: ds, _, h => by
    cases h with
    | cons h1 h2 => exact .cons (dp_of d _ h1) (dps_of ds _ h2)
end
mutual
/-- such data without pointers are the hand layer's -/
theorem dp_to : ∀ (d : PyData) (v : V), d.canLay0 = true → Dp K H v d → L2.Dp K H v d
  | .none, _, _, h => by cases h; exact .non
  | .bool b, _, _, h => by cases h; exact .bl b
  | .int i, _, _, h => by cases h; exact .int i
  | .str x, _, _, h => by cases h; exact .str x
  | .list ds, _, p, h => by
    cases h with
    | lst hs ha => exact .lst hs (dps_to ds _ (by rw [PyData.canLay0] at p; exact p) ha)
  | .dict kvs, _, p, h => by rw [PyData.canLay0] at p; cases p
  | .tuple ds, _, p, h => by
    cases h with
    | tup hs ha => exact .tup hs (dps_to ds _ (by rw [PyData.canLay0] at p; exact p) ha)
theorem dps_to : ∀ (ds : List PyData) (vs : List V), PyData.canLayAll0 ds = true → DpAll K H vs ds → L2.DpAll K H vs ds
  | [], _, _, h => by cases h; exact .nil
  | d :: ds, _, p, h => by
    rw [PyData.canLayAll0, Bool.and_eq_true] at p
    cases h with
    | cons h1 h2 => exact .cons (dp_to d _ p.1 h1) (dps_to ds _ p.2 h2)
end
theorem dp_shaped {d : PyData} {v : V} (h : Dp K H v d) (s : SeqAt.shaped d = true) : L2.Dp K H v d := dp_to d v (SeqAt.canLay_of_shaped s) h
mutual
theorem dp_keep (k : KpT H H') : ∀ (d : PyData) (v : V), pT d = true → Dp K H v d → Dp K H' v d
  | .none, _, _, h => by cases h; exact .non
  | .bool b, _, _, h => by cases h; exact .bl b
  | .int i, _, _, h => by cases h; exact .int i
  | .str x, _, _, h => by cases h; exact .str x
  | .list _, _, p, _ => by unfold pT at p; cases p
  | .dict _, _, p, _ => by unfold pT at p; cases p
  | .tuple ds, _, p, h => by
    cases h with
    | tup hs ha =>
      unfold pT at p
      exact .tup (k K _ _ hs) (dps_keep k ds _ p ha)
theorem dps_keep (k : KpT H H') : ∀ (ds : List PyData) (vs : List V), pTs ds = true → DpAll K H vs ds → DpAll K H' vs ds
  | [], _, _, h => by cases h; exact .nil
  | d :: ds, _, p, h => by
    cases h with
    | cons h1 h2 =>
      unfold pTs at p
      have p' := Bool.and_eq_true_iff.mp p
      exact .cons (dp_keep k d _ p'.1 h1) (dps_keep k ds _ p'.2 h2)
end
theorem dp_tup {v : V} {ds : List PyData} (h : Dp K H v (.tuple ds)) : ∃ a xs, v = .ref a ∧ SqT K H a xs ∧ DpAll K H xs ds := by
  cases h with
  | tup hs ha => exact ⟨_, _, rfl, hs, ha⟩
theorem dps_len : ∀ {ds : List PyData} {xs : List V}, DpAll K H xs ds → xs.length = ds.length
  | [], _, h => by cases h; rfl
  | d :: ds, _, h => by
    cases h with
    | cons h1 h2 => simp [dps_len h2]
theorem dps_get : ∀ {ds : List PyData} {xs : List V}, DpAll K H xs ds → ∀ (i : Nat) (d : PyData), ds[i]? = some d → ∃ x, xs[i]? = some x ∧ Dp K H x d
  | [], _, _, i, d, h => by cases h
  | _ :: ds, _, .cons h1 h2, 0, d, h => by
    cases h
    exact ⟨_, rfl, h1⟩
  | _ :: ds, _, .cons h1 h2, i + 1, d, h => by
    obtain ⟨x, hx, h'⟩ := dps_get h2 i d (by simpa using h)
    exact ⟨x, by simpa using hx, h'⟩
theorem dps_at : ∀ {ds : List PyData} {xs : List V}, DpAll K H xs ds → ∀ (i : Nat) (x : V), xs[i]? = some x → ∃ d, ds[i]? = some d ∧ Dp K H x d
  | [], _, .nil, i, x, h => by cases h
  | _ :: ds, _, .cons h1 h2, 0, d, h => by
    cases h
    exact ⟨_, rfl, h1⟩
  | _ :: ds, _, .cons h1 h2, i + 1, x, h => by
    obtain ⟨d, hd, h'⟩ := dps_at h2 i x (by simpa using h)
    exact ⟨d, by simpa using hd, h'⟩
theorem dps_set : ∀ {ds : List PyData} {xs : List V} {d : PyData} {x : V} (i : Nat), DpAll K H xs ds → Dp K H x d → DpAll K H (xs.set i x) (ds.set i d)
  | [], _, d, x, i, .nil, h => .nil
  | _ :: ds, _, d, x, 0, .cons h1 h2, h => .cons h h2
  | _ :: ds, _, d, x, i + 1, .cons h1 h2, h => .cons h1 (dps_set i h2 h)
theorem dps_rep {d : PyData} {x : V} (h : Dp K H x d) : ∀ n : Nat, DpAll K H (List.replicate n x) (List.replicate n d)
  | 0 => .nil
  | n + 1 => .cons h (dps_rep h n)
theorem dps_app : ∀ {ds es : List PyData} {xs ys : List V}, DpAll K H xs ds → DpAll K H ys es → DpAll K H (xs ++ ys) (ds ++ es)
  | [], _, _, _, .nil, h => h
  | _ :: ds, _, _, _, .cons h1 h2, h => .cons h1 (dps_app h2 h)
theorem dps_take : ∀ {ds : List PyData} {xs : List V} (k : Nat), DpAll K H xs ds → DpAll K H (xs.take k) (ds.take k)
  | [], _, k, .nil => by simp; exact .nil
  | _ :: ds, _, 0, .cons h1 h2 => .nil
  | _ :: ds, _, k + 1, .cons h1 h2 => .cons h1 (dps_take k h2)
theorem dps_drop : ∀ {ds : List PyData} {xs : List V} (k : Nat), DpAll K H xs ds → DpAll K H (xs.drop k) (ds.drop k)
  | [], _, k, .nil => by simp; exact .nil
  | _ :: ds, _, 0, .cons h1 h2 => .cons h1 h2
  | _ :: ds, _, k + 1, .cons h1 h2 => dps_drop k h2
theorem dps_snoc : ∀ {ds : List PyData} {xs : List V} {d : PyData} {x : V}, DpAll K H xs ds → Dp K H x d → DpAll K H (xs ++ [x]) (ds ++ [d])
  | [], _, d, x, .nil, h => .cons h .nil
  | _ :: ds, _, d, x, .cons h1 h2, h => .cons h1 (dps_snoc h2 h)
end
end DL


set_option Elab.async false
set_option linter.all false
set_option maxRecDepth 100000
set_option maxHeartbeats 4000000
/-! Dicts whose keys are tuples (of ints, texts, None, bools and such tuples, at most 8 deep): rules of the hand layer's form. -/
namespace DL
open PySem PySem.Spec PyProof.Rows L2 TG
abbrev NEs := List (NestedKey × Addr × V)
def NR (ks : NEs) (xs : List (NestedKey × Addr × Value)) : Prop := Paired (fun (p : NestedKey × Addr × V) (q : NestedKey × Addr × Value) => p.1 = q.1 ∧ p.2.1 = q.2.1 ∧ RelV p.2.2 q.2.2) ks xs
def dnφ (P : Program) (w : World) (a : Addr) (ks : NEs) : Heap → Prop := fun h => ks.length ≤ sizeLine ∧ (a == sysModules) = false ∧ ∃ xs, NR ks xs ∧
  ∃ o es ep, h.get? a = some o ∧ o.ExactDict ∧ o.data = .dict es ep ∧ es.toList = xs.map (entryOfKey (nestedKind P w)) ∧ (xs.map (·.1)).Nodup
def dnO (P : Program) (w : World) (a : Addr) (ks : NEs) : HO := .ext (dnφ P w a ks)
theorem dn_ok {P : Program} {w : World} {H : Hp} {h : Heap} {a : Addr} {ks : NEs} (x : dnφ P w a ks h) : ObjOk P w H h a (dnO P w a ks) := by
  refine ⟨x, ?_, fun h1 h2 y k => ?_⟩
  · obtain ⟨_, _, xs, _, o, es, ep, h1, _⟩ := x
    exact ⟨o, h1⟩
  · obtain ⟨z, y, xs, r, o, es, ep, h1, h2⟩ := y
    exact ⟨z, y, xs, r, o, es, ep, k o h1, h2⟩
mutual
/-- a key as data -/
def keyN : PyData → Option NestedKey
  | .none => some .none
  | .bool b => some (.num (if b = true then 1 else 0))
  | .int i => some (.num i)
  | .str x => some (.text x)
  | .tuple ds => (keysN ds).map NestedKey.tup
  | .list _ => none
  | .dict _ => none
def keysN : List PyData → Option (List NestedKey)
  | [] => some []
  | d :: ds => match keyN d, keysN ds with
    | some k, some ks => some (k :: ks)
    | _, _ => none
end
section
variable {X : Cx} {pins : List (Addr × Obj)} {σ : L2.St} {H : Hp} {s : Shared}
mutual
theorem dp_nested (I : Inv X pins σ H s) : ∀ (d : PyData) (k : NestedKey) (v : V) (u : Value), keyN d = some k → Dp X.K H v d → RelV v u → NestedIs s.heap k u
  | .none, _, _, _, e, h, r => by
    unfold keyN at e
    cases e
    cases h
    cases r
    exact .none
  | .bool b, _, _, _, e, h, r => by
    unfold keyN at e
    cases e
    cases h
    cases r
    exact .bool rfl
  | .int i, _, _, _, e, h, r => by
    unfold keyN at e
    cases e
    cases h
    obtain ⟨t, rfl⟩ := r
    exact .int i t
  | .str x, _, _, _, e, h, r => by
    unfold keyN at e
    cases e
    cases h
    obtain ⟨t, rfl⟩ := r
    exact .text x t
  | .tuple ds, k, _, _, e, h, r => by
    unfold keyN at e
    cases c : keysN ds with
    | none => rw [c] at e; cases e
    | some ks =>
      rw [c] at e
      cases e
      cases h with
      | tup hs ha =>
        cases r
        obtain ⟨its, rv, ⟨o, ho, hc, n, hd⟩, _⟩ := I.tuple hs
        exact .tup ho hc hd (by simpa using dps_nested I ds ks _ its c ha rv)
  | .list _, _, _, _, e, _, _ => by unfold keyN at e; cases e
  | .dict _, _, _, _, e, _, _ => by unfold keyN at e; cases e
theorem dps_nested (I : Inv X pins σ H s) : ∀ (ds : List PyData) (ks : List NestedKey) (vs : List V) (us : List Value), keysN ds = some ks → DpAll X.K H vs ds → Vals vs us → NestedAll s.heap ks us
  | [], _, _, _, e, h, r => by
    unfold keysN at e
    cases e
    cases h
    cases r
    exact .nil
  | d :: ds, ks, _, _, e, h, r => by
    unfold keysN at e
    cases c : keyN d with
    | none => rw [c] at e; simp at e
    | some k =>
      cases c2 : keysN ds with
      | none => rw [c, c2] at e; simp at e
      | some ks' =>
        rw [c, c2] at e
        cases e
        cases h with
        | cons h1 h2 =>
          cases r with
          | cons r1 r2 => exact .cons (dp_nested I d k _ _ c h1 r1) (dps_nested I ds ks' _ _ c2 h2 r2)
end
/-- a key's tuple -/
def KeyAt (K : PySem.W.Frag) (H : Hp) (b : Addr) (k : NestedKey) : Prop := ∃ d, keyN d = some k ∧ Dp K H (.ref b) d ∧ k.depth ≤ 8
def KeysAt (K : PySem.W.Frag) (H : Hp) (ks : NEs) : Prop := ∀ e ∈ ks, KeyAt K H e.2.1 e.1
theorem KeyAt.is {b : Addr} {k : NestedKey} (I : Inv X pins σ H s) (h : KeyAt X.K H b k) : (nestedKind X.prog X.w).is s.heap k b := by
  obtain ⟨d, h1, h2, h3⟩ := h
  exact ⟨dp_nested I d k _ _ h1 h2 rfl, h3⟩
theorem KeyAt.mono {K : PySem.W.Frag} {H H' : Hp} {b : Addr} {k : NestedKey} (h : KeyAt K H b k) (s : Same H H') : KeyAt K H' b k := by
  obtain ⟨d, h1, h2, h3⟩ := h
  exact ⟨d, h1, dp_mono s _ _ h2, h3⟩
theorem nr_is {ks : NEs} {xs : List (NestedKey × Addr × Value)} (r : NR ks xs) (hk : ∀ e ∈ ks, (nestedKind X.prog X.w).is s.heap e.1 e.2.1) : ∀ x ∈ xs, (nestedKind X.prog X.w).is s.heap x.1 x.2.1 := by
  unfold NR at r
  induction r with
  | nil => intro x hx; cases hx
  | cons h t ih =>
    intro x hx
    rcases List.mem_cons.mp hx with rfl | hx
    · rw [← h.1, ← h.2.1]
      exact hk _ List.mem_cons_self
    · exact ih (fun e he => hk e (List.mem_cons_of_mem _ he)) x hx
theorem dn_at {a : Addr} {ks : NEs} (I : Inv X pins σ H s) (e : H a = some (dnO X.prog X.w a ks)) (hk : KeysAt X.K H ks) : ks.length ≤ sizeLine ∧ (a == sysModules) = false ∧ ∃ xs, NR ks xs ∧ s.heap.DictOfH (nestedKind X.prog X.w) a xs := by
  obtain ⟨⟨z, y, xs, r, o, es, ep, h1, h2, h3, h4, h5⟩, _⟩ := (show ObjOk X.prog X.w H s.heap a (dnO X.prog X.w a ks) from I.hok a _ e)
  exact ⟨z, y, xs, r, o, es, ep, h1, h2, h3, h4, nr_is r (fun e he => (hk e he).is I), h5⟩
def valN (ks : NEs) (k : NestedKey) : Option V := (ks.find? fun e => decide (e.1 = k)).map (·.2.2)
def putN (ks : NEs) (k : NestedKey) (b : Addr) (v : V) : NEs := if (ks.any fun e => decide (e.1 = k)) = true then ks.map (fun e => if e.1 = k then (e.1, e.2.1, v) else e) else ks ++ [(k, b, v)]
theorem NR.val {ks : NEs} {xs : List (NestedKey × Addr × Value)} (r : NR ks xs) (k : NestedKey) : (valN ks k = none ∧ atKey xs k = none) ∨ ∃ v p, valN ks k = some v ∧ atKey xs k = some p ∧ RelV v p.2 := by
  unfold NR at r
  induction r with
  | nil => exact .inl ⟨rfl, rfl⟩
  | @cons p q ps qs h t ih =>
    by_cases c : p.1 = k
    · refine .inr ⟨p.2.2, q.2, ?_, ?_, h.2.2⟩
      · unfold valN
        rw [List.find?_cons_of_pos (by simpa using c)]
        rfl
      · unfold atKey
        rw [List.find?_cons_of_pos (by simpa using (h.1 ▸ c))]
        rfl
    · have e1 : valN (p :: ps) k = valN ps k := by unfold valN; rw [List.find?_cons_of_neg (by simpa using c)]
      have e2 : atKey (q :: qs) k = atKey qs k := by unfold atKey; rw [List.find?_cons_of_neg (by simpa using (h.1 ▸ c))]
      rw [e1, e2]
      exact ih
theorem nr_any {ks : NEs} {xs : List (NestedKey × Addr × Value)} (r : NR ks xs) (k : NestedKey) : (ks.any fun e => decide (e.1 = k)) = (atKey xs k).isSome := by
  unfold NR at r
  induction r with
  | nil => rfl
  | @cons p q ps qs h t ih =>
    rw [List.any_cons, ih]
    by_cases c : p.1 = k
    · have : atKey (q :: qs) k = some q.2 := by
        unfold atKey
        rw [List.find?_cons_of_pos (by simpa using (h.1 ▸ c))]
        rfl
      rw [this, decide_eq_true c]
      rfl
    · have e2 : atKey (q :: qs) k = atKey qs k := by unfold atKey; rw [List.find?_cons_of_neg (by simpa using (h.1 ▸ c))]
      rw [e2, decide_eq_false c]
      rfl
theorem NR.put {ks : NEs} {xs : List (NestedKey × Addr × Value)} (r : NR ks xs) (k : NestedKey) (b : Addr) {v : V} {u : Value} (rv : RelV v u) : NR (putN ks k b v) (storedH xs k b u) := by
  unfold putN storedH
  rw [nr_any r k]
  split
  · rename_i hany
    clear hany
    unfold NR at r ⊢
    induction r with
    | nil => exact .nil
    | @cons p q ps qs h t ih =>
      rw [List.map_cons, List.map_cons]
      refine .cons ?_ ih
      unfold putAt
      by_cases c : p.1 = k
      · rw [if_pos c, if_pos (h.1 ▸ c)]
        exact ⟨h.1, h.2.1, rv⟩
      · rw [if_neg c, if_neg (h.1 ▸ c)]
        exact h
  · rename_i hany
    clear hany
    unfold NR at r ⊢
    induction r with
    | nil => exact .cons ⟨rfl, rfl, rv⟩ .nil
    | cons h t ih => exact .cons h ih
theorem putN_len (ks : NEs) (k : NestedKey) (b : Addr) (v : V) : (putN ks k b v).length ≤ ks.length + 1 := by
  unfold putN
  split
  · rw [List.length_map]; omega
  · rw [List.length_append, List.length_singleton]; omega
end
/-! ### readings and rules -/
def tNNew (P : Program) (w : World) : TE := fun _ H Q => ∀ p, H p = none → Q (.ref p) (upd H p (dnO P w p []))
def NAt (K : PySem.W.Frag) (P : Program) (w : World) (H : Hp) (a : Addr) (y : V) (ks : NEs) (b : Addr) (k : NestedKey) : Prop := y = .ref b ∧ H a = some (dnO P w a ks) ∧ KeysAt K H ks ∧ KeyAt K H b k
def tNGet (K : PySem.W.Frag) (P : Program) (w : World) (td ty : TE) : TE := fun σ H Q => td σ H fun x H1 => ty σ H1 fun y H2 => ∃ a ks b k v, x = .ref a ∧ NAt K P w H2 a y ks b k ∧ valN ks k = some v ∧ Q v H2
def tNIn (K : PySem.W.Frag) (P : Program) (w : World) (ty td : TE) : TE := fun σ H Q => ty σ H fun y H1 => td σ H1 fun x H2 => ∃ a ks b k, x = .ref a ∧ NAt K P w H2 a y ks b k ∧ Q (.bl (valN ks k).isSome) H2
def tNNotIn (K : PySem.W.Frag) (P : Program) (w : World) (ty td : TE) : TE := fun σ H Q => ty σ H fun y H1 => td σ H1 fun x H2 => ∃ a ks b k, x = .ref a ∧ NAt K P w H2 a y ks b k ∧ Q (.bl (!(valN ks k).isSome)) H2
def sNPut (K : PySem.W.Frag) (P : Program) (w : World) (td ty tv : TE) : TS := fun D σ H => tv σ H fun v H1 => td σ H1 fun x H2 => ty σ H2 fun y H3 => ∃ a ks b k, x = .ref a ∧ NAt K P w H3 a y ks b k ∧ ks.length < sizeLine ∧ D.nx σ (upd H3 a (dnO P w a (putN ks k b v)))
def tNGet2 (K : PySem.W.Frag) (P : Program) (w : World) (td ty tx : TE) : TE := fun σ H Q => td σ H fun x H1 => ∃ a ks0, x = .ref a ∧ (H1 a = some (dnO P w a ks0) ∧ KeysAt K H1 ks0) ∧ ty σ H1 fun y H2 => tx σ H2 fun z H3 => ∃ ks b k, NAt K P w H3 a y ks b k ∧ Q ((valN ks k).getD z) H3
section
variable {X : Cx} {K : PySem.W.Frag} {P : Program} {w : World} {o i e f value : Expr} {pos pos' tpos apos cpos : Pos} {td ty tv tx : TE}
theorem pe_nnew (hP : X.prog = P) (hw : X.w = w) : PE X (.Dict [] [] pos) (tNNew P w) := by
  subst hP hw
  exact ⟨fun pins s σ H Q I h => wpAny_Dict_empty ⟨.ref s.heap.objs.size, _, I.laid (a := s.heap.objs.size) (o := dnO X.prog X.w s.heap.objs.size []) (t' := s.toks) (fun _ _ q => Heap.get?_push_of_some _ q) (Nat.le_refl _)
    (dn_ok ⟨Nat.zero_le _, beq_eq_false_iff_ne.mpr (Ne.symm (Nat.ne_of_lt I.big)), [], .nil, _, #[], 0, Heap.get?_push_size _ rfl, ⟨rfl, rfl, rfl⟩, rfl, rfl, List.nodup_nil⟩), rfl, h _ (I.hok.fresh (Nat.le_refl _))⟩⟩
theorem room_n {A : Around} (hu : A.units + 64 < cLine) : (nestedKind X.prog X.w).room A.in1 := by
  show A.units + 1 + 8 < cLine
  omega
theorem pe_nget (hK : X.K = K) (hP : X.prog = P) (hw : X.w = w) (hu : X.A.units + 64 < cLine) (ho : PE X o td) (hi : PE X i ty) (hs : NoSl i) : PE X (.Subscript o i pos) (tNGet K P w td ty) := by
  subst hK hP hw
  refine ⟨fun pins s σ H Q I h => ?_⟩
  refine subD_of PySem.F.slot_dict_getitem.lookup hs (thn (ho.run pins s σ H _ I h) fun u s1 ⟨x, H1, I1, rx, q1⟩ => thn (hi.run pins s1 σ H1 _ I1 q1) fun iv s2 ⟨y, H2, I2, ry, a, ks, b, k, v, ex, ⟨ey, ha, hks, hk⟩, hv, q2⟩ => ?_)
  subst ex ey
  obtain rfl : u = Value.ref a := rx
  obtain rfl : iv = Value.ref b := ry
  obtain ⟨z, y, xs, r, dd⟩ := dn_at I2 ha hks
  refine ⟨dd.typeIs, ?_⟩
  rcases r.val k with ⟨q3, _⟩ | ⟨v', p, q3, q4, q5⟩
  · rw [q3] at hv; cases hv
  · rw [q3] at hv
    cases hv
    exact wpAny_getItem_heap (room_n hu) (hk.is I2) dd q4 ⟨v, H2, I2.tok _, q5, q2⟩
theorem pc_nin (hK : X.K = K) (hP : X.prog = P) (hw : X.w = w) (hu : X.A.units + 64 < cLine) (hi : PE X i ty) (ho : PE X o td) : PC X .In i o (tNIn K P w ty td) := by
  subst hK hP hw
  refine ⟨fun pins s σ H Q I h => ?_⟩
  refine thn (hi.run pins s σ H _ I h) fun iv s1 ⟨y, H1, I1, ry, q1⟩ => thn (ho.run pins s1 σ H1 _ I1 q1) fun u s2 ⟨x, H2, I2, rx, a, ks, b, k, ex, ⟨ey, ha, hks, hk⟩, q2⟩ => ?_
  subst ex ey
  obtain rfl : u = Value.ref a := rx
  obtain rfl : iv = Value.ref b := ry
  obtain ⟨z, y, xs, r, dd⟩ := dn_at I2 ha hks
  refine wpAny_in_heap (room_n hu) (hk.is I2) y dd ⟨.bl (atKey xs k).isSome, H2, I2.tok _, rfl, ?_⟩
  rcases r.val k with ⟨q3, q4⟩ | ⟨v', p, q3, q4, q5⟩
  · rw [q3] at q2; rw [q4]; exact q2
  · rw [q3] at q2; rw [q4]; exact q2
theorem pc_nnotin (hK : X.K = K) (hP : X.prog = P) (hw : X.w = w) (hu : X.A.units + 64 < cLine) (hi : PE X i ty) (ho : PE X o td) : PC X .NotIn i o (tNNotIn K P w ty td) := by
  subst hK hP hw
  refine ⟨fun pins s σ H Q I h => ?_⟩
  refine thn (hi.run pins s σ H _ I h) fun iv s1 ⟨y, H1, I1, ry, q1⟩ => thn (ho.run pins s1 σ H1 _ I1 q1) fun u s2 ⟨x, H2, I2, rx, a, ks, b, k, ex, ⟨ey, ha, hks, hk⟩, q2⟩ => ?_
  subst ex ey
  obtain rfl : u = Value.ref a := rx
  obtain rfl : iv = Value.ref b := ry
  obtain ⟨z, y, xs, r, dd⟩ := dn_at I2 ha hks
  refine wpAny_notIn_heap (room_n hu) (hk.is I2) y dd ⟨.bl (!(atKey xs k).isSome), H2, I2.tok _, rfl, ?_⟩
  rcases r.val k with ⟨q3, q4⟩ | ⟨v', p, q3, q4, q5⟩
  · rw [q3] at q2; rw [q4]; exact q2
  · rw [q3] at q2; rw [q4]; exact q2
theorem ps_nput (hK : X.K = K) (hP : X.prog = P) (hw : X.w = w) (hu : X.A.units + 64 < cLine) (ho : PE X o td) (hi : PE X i ty) (hv : PE X value tv) (hs : swapsWith value (some (.Subscript o i pos')) pos.line X.env = pure false) :
    PS X (.Assign [.Subscript o i pos'] value pos) (sNPut K P w td ty tv) := by
  subst hK hP hw
  refine ⟨fun pins s σ H D I h => ?_⟩
  refine wpAny_Assign_Subscript (thn (hv.run pins s σ H _ I h) fun r s1 ⟨v, H1, I1, rv, q1⟩ => thn (ho.run pins s1 σ H1 _ I1 q1) fun u s2 ⟨x, H2, I2, rx, q2⟩ => thn (hi.run pins s2 σ H2 _ I2 q2) fun iv s3 ⟨y, H3, I3, ry, a, ks, b, k, ex, ⟨ey, ha, hks, hk⟩, hl, q3⟩ => ?_) hs
  subst ex ey
  obtain rfl : u = Value.ref a := rx
  obtain rfl : iv = Value.ref b := ry
  obtain ⟨z, y, xs, rr, dd⟩ := dn_at I3 ha hks
  have hz : xs.length ≤ sizeLine := by rw [← Paired.length rr]; exact z
  refine wpAny_setItem_heap (hsz := hz) (room_n hu) (hk.is I3) dd fun h' dd' hs' => ⟨σ, _, ?_, q3⟩
  obtain ⟨q, es, ep, hq, h2, h3, h4, _, h5⟩ := dd'
  have hn := putN_len ks k b v
  exact d_write I3 (by rw [ha]; exact True.intro) hs' ⟨q, hq⟩ (dn_ok ⟨by omega, y, _, rr.put k b rv, q, es, ep, hq, h2, h3, h4, h5⟩)
theorem pe_nget2 (hK : X.K = K) (hP : X.prog = P) (hw : X.w = w) (hu : X.A.units + 64 < cLine) (ho : PE X o td) (he : PE X e ty) (hf : PE X f tx) (m : M2 X o "get" apos e f cpos) : PE X (.Call (.Attribute o "get" apos) [e, f] [] cpos) (tNGet2 K P w td ty tx) := by
  subst hK hP hw
  refine ⟨fun pins s σ H Q I h => ?_⟩
  refine wpAny_Call_method m.base m.few m.line PySem.F.plainAttrs_dict PySem.F.slot_dict_get PySem.F.type_dict_get (thn (ho.run pins s σ H _ I h) fun u s1 ⟨x, H1, I1, rx, a, ks0, ex, ⟨d1, d2⟩, q1⟩ => ?_)
  subst ex
  obtain rfl : u = Value.ref a := rx
  obtain ⟨_, _, xs0, _, dd0⟩ := dn_at I1 d1 d2
  refine ⟨dd0.typeIs, fun b hb => ?_, ?_⟩
  · cases hb
    obtain ⟨o, es, ep, h1, h2, _⟩ := dd0
    exact ⟨o, h1, h2.2.1⟩
  rw [m.trees]
  refine Calls.callWith_builtin rfl (Calls.evalArgs_plain (Calls.spliced_cons (thn (he.run pins s1 σ H1 _ I1 q1) fun iv s2 ⟨y, H2, I2, ry, q2⟩ =>
    Calls.spliced_cons (thn (hf.run pins s2 σ H2 _ I2 q2) fun fv s3 ⟨z, H3, I3, rz, ks, b, k, ⟨ey, ha, hks, hk⟩, q3⟩ => Calls.spliced_nil ?_))))
  subst ey
  obtain rfl : iv = Value.ref b := ry
  obtain ⟨_, hd, xs, r, dd⟩ := dn_at I3 ha hks
  refine call_meetsIn PySem.F.slot_dict_get dd.typeIs PySem.F.entry_dict_get (PySem.F.args_dict_get_3 _ _ _) (meetsH_dict_get_default (nestedKind X.prog X.w) a b hd fv) ⟨room_n hu, k, xs, hk.is I3, dd, ?_⟩
  rcases r.val k with ⟨e3, e4⟩ | ⟨v', p, e3, e4, e5⟩
  · rw [e4]
    rw [e3] at q3
    exact ⟨z, H3, I3.tok _, rz, q3⟩
  · rw [e4]
    rw [e3] at q3
    exact ⟨v', H3, I3.tok _, e5, q3⟩
end
end DL


set_option Elab.async false
set_option linter.all false
set_option maxRecDepth 100000
set_option maxHeartbeats 4000000
/-! A layer of values over the hand layer: slots hold data or objects of their own; the heap is out of sight. -/
namespace DL
open PySem L2 TG
/-- a tuple's thing -/
def tupO : HO → Bool
  | .tup _ => true
  | .frz _ (.tup _) => true
  | _ => false
/-- an object of its own -/
inductive Ob where
  | lst (ds : List PyData)
  | dT (kvs : List (List Key × PyData))
  | dK (kvs : List (Key × PyData))
  | dN (P : Program) (w : World) (kvs : List (NestedKey × PyData))
  | ext (φ : PySem.W.Frag → Hp → Option HO → Prop)
/-- a shared object: one as above, or an instance with its attributes (data, pointers among them) -/
inductive Cell where
  | ob (o : Ob)
  | ins (C : Addr) (fs : List (String × PyData))
/-- the shared objects, by their places -/
abbrev Gh := Addr → Option Cell
def upG (G : Gh) (a : Addr) (c : Cell) : Gh := fun b => if b = a then some c else G b
theorem upG_same {G : Gh} {a : Addr} {c : Cell} : upG G a c a = some c := if_pos rfl
theorem upG_ne {G : Gh} {a b : Addr} {c : Cell} (h : b ≠ a) : upG G a c b = G b := if_neg h
theorem upG_at {G : Gh} {a b : Addr} {c : Cell} : upG G a c b = if b = a then some c else G b := rfl
theorem upG_upG {G : Gh} {a : Addr} {c c' : Cell} : upG (upG G a c) a c' = upG G a c' := by
  funext b
  unfold upG
  split <;> rfl
/-- what a slot holds; an object with the number of the argument that it is; behind the slots: the shared objects -/
inductive B where
  | dat (d : PyData)
  | ob (t : Option Nat) (o : Ob)
  | gs (G : Gh)
/-- what an expression gives: data, a new object, the object of slot i, the shared object at a (n: the slots' number) -/
inductive Vl where
  | dat (d : PyData)
  | ob (o : Ob)
  | own (i : Nat)
  | gob (n : Nat) (a : Addr)
abbrev En := List (Option B)
def KvR {κ : Type} (K : PySem.W.Frag) (Hz : Hp) (ks : List (κ × V)) (kvs : List (κ × PyData)) : Prop := ks.map (·.1) = kvs.map (·.1) ∧ DpAll K Hz (ks.map (·.2)) (kvs.map (·.2))
def OkOb (K : PySem.W.Frag) (Hz H : Hp) (a : Addr) : Ob → Prop
  | .lst ds => ∃ xs, H a = some (.lst xs) ∧ DpAll K Hz xs ds
  | .dT kvs => ∃ ks, H a = some (.dT ks) ∧ KvR K Hz ks kvs
  | .dK kvs => ∃ ks, H a = some (.dK ks) ∧ KvR K Hz ks kvs
  | .dN P w kvs => ∃ ks : NEs, H a = some (dnO P w a ks) ∧ KeysAt K Hz ks ∧ KvR K Hz (ks.map fun e => (e.1, e.2.2)) kvs
  | .ext φ => H a ≠ none ∧ (∀ u, H a = some u → tupO u = false) ∧ φ K Hz (H a) ∧ ∀ Hz', Same Hz Hz' → φ K Hz' (H a)
theorem OkOb.there {K : PySem.W.Frag} {Hz H : Hp} {a : Addr} {o : Ob} (h : OkOb K Hz H a o) : H a ≠ none := by
  cases o with
  | lst ds => obtain ⟨xs, e, _⟩ := h; rw [e]; exact Option.some_ne_none _
  | dT ds => obtain ⟨xs, e, _⟩ := h; rw [e]; exact Option.some_ne_none _
  | dK ds => obtain ⟨xs, e, _⟩ := h; rw [e]; exact Option.some_ne_none _
  | dN P w ds => obtain ⟨xs, e, _⟩ := h; rw [e]; exact Option.some_ne_none _
  | ext φ => exact h.1
theorem OkOb.ntup {K : PySem.W.Frag} {Hz H : Hp} {a : Addr} {o : Ob} (h : OkOb K Hz H a o) : ∀ u, H a = some u → tupO u = false := by
  cases o with
  | lst ds => obtain ⟨xs, e, _⟩ := h; intro u q; rw [e] at q; cases q; rfl
  | dT ds => obtain ⟨xs, e, _⟩ := h; intro u q; rw [e] at q; cases q; rfl
  | dK ds => obtain ⟨xs, e, _⟩ := h; intro u q; rw [e] at q; cases q; rfl
  | dN P w ds => obtain ⟨xs, e, _⟩ := h; intro u q; rw [e] at q; cases q; rfl
  | ext φ => exact h.2.1
theorem OkOb.keep {K : PySem.W.Frag} {Hz Hz' H H' : Hp} {a : Addr} {o : Ob} (h : OkOb K Hz H a o) (s : Same Hz Hz') (e : H' a = H a) : OkOb K Hz' H' a o := by
  cases o with
  | lst ds => obtain ⟨xs, q, d⟩ := h; exact ⟨xs, by rw [e]; exact q, dps_mono s _ _ d⟩
  | dT ds => obtain ⟨xs, q, d1, d2⟩ := h; exact ⟨xs, by rw [e]; exact q, d1, dps_mono s _ _ d2⟩
  | dK ds => obtain ⟨xs, q, d1, d2⟩ := h; exact ⟨xs, by rw [e]; exact q, d1, dps_mono s _ _ d2⟩
  | dN P w ds => obtain ⟨xs, q, d0, d1, d2⟩ := h; exact ⟨xs, by rw [e]; exact q, fun x hx => (d0 x hx).mono s, d1, dps_mono s _ _ d2⟩
  | ext φ =>
    obtain ⟨h1, h2, h3, h4⟩ := h
    refine ⟨by rw [e]; exact h1, by rw [e]; exact h2, by rw [e]; exact h4 _ s, fun Hz2 s2 => by rw [e]; exact h4 _ (fun b o q => s2 b o (s b o q))⟩
/-- a def's frame: the written part, the objects that it was given, the heap at its start (what is fixed of it, and all) -/
structure Fr where
  K : PySem.W.Frag
  A : List Addr
  Z0 : Hp
  H0 : Hp
  n : Nat
/-- an instance's attributes -/
inductive PF (K : PySem.W.Frag) (Hz : Hp) : List (String × PyData) → List (Str × V) → Prop
  | nil : PF K Hz [] []
  | cons {s : String} {v : V} {d : PyData} {fs : List (String × PyData)} {vs : List (Str × V)} : Dp K Hz v d → PF K Hz fs vs → PF K Hz ((s, d) :: fs) ((Str.ofString s, v) :: vs)
theorem PF.mono {K : PySem.W.Frag} {Hz Hz' : Hp} (s : Same Hz Hz') {fs : List (String × PyData)} {vs : List (Str × V)} (h : PF K Hz fs vs) : PF K Hz' fs vs := by
  induction h with
  | nil => exact .nil
  | cons d _ ih => exact .cons (dp_mono s _ _ d) ih
def OkC (K : PySem.W.Frag) (Hz H : Hp) (a : Addr) : Cell → Prop
  | .ob o => OkOb K Hz H a o
  | .ins C fs => ∃ dx vs, H a = some (.ins C dx vs) ∧ PF K Hz fs vs
theorem OkC.there {K : PySem.W.Frag} {Hz H : Hp} {a : Addr} {c : Cell} (h : OkC K Hz H a c) : H a ≠ none := by
  cases c with
  | ob o => exact OkOb.there h
  | ins C fs => obtain ⟨dx, vs, e, _⟩ := h; rw [e]; exact Option.some_ne_none _
theorem OkC.ntup {K : PySem.W.Frag} {Hz H : Hp} {a : Addr} {c : Cell} (h : OkC K Hz H a c) : ∀ u, H a = some u → tupO u = false := by
  cases c with
  | ob o => exact OkOb.ntup h
  | ins C fs => obtain ⟨dx, vs, e, _⟩ := h; intro u q; rw [e] at q; cases q; rfl
theorem OkC.keep {K : PySem.W.Frag} {Hz Hz' H H' : Hp} {a : Addr} {c : Cell} (h : OkC K Hz H a c) (s : Same Hz Hz') (e : H' a = H a) : OkC K Hz' H' a c := by
  cases c with
  | ob o => exact OkOb.keep h s e
  | ins C fs => obtain ⟨dx, vs, q, p⟩ := h; exact ⟨dx, vs, by rw [e]; exact q, p.mono s⟩
/-- the shared objects, told by a list -/
def lkp : List (Addr × Cell) → Gh
  | [] => fun _ => none
  | (a, c) :: l => fun b => if b = a then some c else lkp l b
structure PG (f : Fr) (Hz H : Hp) (l : List (Addr × Cell)) : Prop where
  ok : ∀ p ∈ l, OkC f.K Hz H p.1 p.2
  own : ∀ p ∈ l, p.1 ∈ f.A ∨ f.H0 p.1 = none
theorem lkp_mem : ∀ {l : List (Addr × Cell)} {a : Addr} {c : Cell}, lkp l a = some c → (a, c) ∈ l
  | [], _, _, h => by cases h
  | (b, d) :: l, a, c, h => by
    unfold lkp at h
    by_cases e : a = b
    · rw [if_pos e] at h
      cases h
      rw [e]
      exact List.mem_cons_self
    · rw [if_neg e] at h
      exact List.mem_cons_of_mem _ (lkp_mem h)
theorem lkp_some : ∀ {l : List (Addr × Cell)} {a : Addr}, a ∈ l.map (·.1) → ∃ c, lkp l a = some c
  | [], _, h => by cases h
  | (b, d) :: l, a, h => by
    unfold lkp
    by_cases e : a = b
    · exact ⟨d, if_pos e⟩
    · rw [if_neg e]
      rw [List.map_cons, List.mem_cons] at h
      exact lkp_some (h.resolve_left e)
/-- one of them changed -/
def setL (l : List (Addr × Cell)) (a : Addr) (c : Cell) : List (Addr × Cell) := l.map fun p => if p.1 = a then (a, c) else p
theorem setL_keys (l : List (Addr × Cell)) (a : Addr) (c : Cell) : (setL l a c).map (·.1) = l.map (·.1) := by
  unfold setL
  rw [List.map_map]
  apply List.map_congr_left
  intro p _
  simp only [Function.comp]
  split
  · rename_i e
    exact e.symm
  · rfl
theorem lkp_cons {b : Addr} {d : Cell} {l : List (Addr × Cell)} {x : Addr} : lkp ((b, d) :: l) x = if x = b then some d else lkp l x := rfl
theorem setL_cons {b : Addr} {d : Cell} {l : List (Addr × Cell)} {a : Addr} {c : Cell} : setL ((b, d) :: l) a c = (if b = a then (a, c) else (b, d)) :: setL l a c := rfl
theorem setL_not {l : List (Addr × Cell)} {a : Addr} {c : Cell} (h : a ∉ l.map (·.1)) : setL l a c = l := by
  unfold setL
  have : ∀ p ∈ l, (if p.1 = a then (a, c) else p) = p := fun p hp => if_neg fun z => h (List.mem_map.mpr ⟨p, hp, z⟩)
  rw [List.map_congr_left this, List.map_id']
theorem lkp_setL : ∀ {l : List (Addr × Cell)} {a : Addr} {c : Cell}, a ∈ l.map (·.1) → lkp (setL l a c) = upG (lkp l) a c
  | [], _, _, h => by cases h
  | (b, d) :: l, a, c, h => by
    funext x
    rw [List.map_cons, List.mem_cons] at h
    rw [setL_cons]
    by_cases e : b = a
    · subst e
      rw [if_pos rfl, lkp_cons]
      by_cases q : x = b
      · rw [if_pos q, q, upG_same]
      · rw [if_neg q, upG_ne q, lkp_cons, if_neg q]
        by_cases hm : b ∈ l.map (·.1)
        · rw [lkp_setL hm, upG_ne q]
        · rw [setL_not hm]
    · rw [if_neg e, lkp_cons]
      have hm : a ∈ l.map (·.1) := h.resolve_left fun z => e z.symm
      by_cases q : x = b
      · rw [if_pos q, upG_ne (by rw [q]; exact e), lkp_cons, if_pos q]
      · rw [if_neg q, lkp_setL hm]
        unfold upG
        rw [lkp_cons, if_neg q]
inductive Pr (f : Fr) (Hz H : Hp) : En → St → List Addr → Prop
  | nil : Pr f Hz H [] [] []
  | gs {G : Gh} (l : List (Addr × Cell)) : G = lkp l → PG f Hz H l → Pr f Hz H [some (.gs G)] [] (l.map (·.1))
  | skip {x : Option V} {L : En} {W : St} {O : List Addr} : Pr f Hz H L W O → Pr f Hz H (none :: L) (x :: W) O
  | dat {v : V} {d : PyData} {L : En} {W : St} {O : List Addr} : Dp f.K Hz v d → Pr f Hz H L W O → Pr f Hz H (some (.dat d) :: L) (some v :: W) O
  | ob {a : Addr} {t : Option Nat} {o : Ob} {L : En} {W : St} {O : List Addr} : OkOb f.K Hz H a o → (t = none → f.H0 a = none) → (∀ j, t = some j → f.A[j]? = some a) → Pr f Hz H L W O → Pr f Hz H (some (.ob t o) :: L) (some (.ref a) :: W) (a :: O)
section
variable {f : Fr} {Hz Hz' H H' : Hp} {L : En} {W : St} {O : List Addr}
theorem Pr.keep (h : Pr f Hz H L W O) (s : Same Hz Hz') (e : ∀ a ∈ O, H' a = H a) : Pr f Hz' H' L W O := by
  induction h with
  | nil => exact .nil
  | gs l hl g => exact .gs l hl ⟨fun p hp => (g.ok p hp).keep s (e _ (List.mem_map.mpr ⟨p, hp, rfl⟩)), g.own⟩
  | skip _ ih => exact .skip (ih e)
  | dat d _ ih => exact .dat (dp_mono s _ _ d) (ih e)
  | ob o h1 h2 _ ih => exact .ob (o.keep s (e _ List.mem_cons_self)) h1 h2 (ih fun a ha => e a (List.mem_cons_of_mem _ ha))
theorem Pr.le (h : Pr f Hz H L W O) : W.length ≤ L.length := by
  induction h with
  | nil => exact Nat.le_refl _
  | gs l _ _ => exact Nat.zero_le _
  | skip _ ih => exact Nat.succ_le_succ ih
  | dat d _ ih => exact Nat.succ_le_succ ih
  | ob o h1 h2 _ ih => exact Nat.succ_le_succ ih
theorem Pr.there (h : Pr f Hz H L W O) : ∀ a ∈ O, H a ≠ none := by
  induction h with
  | nil => intro a ha; cases ha
  | gs l _ g =>
    intro a ha
    obtain ⟨p, hp, rfl⟩ := List.mem_map.mp ha
    exact (g.ok p hp).there
  | skip _ ih => exact ih
  | dat d _ ih => exact ih
  | ob o h1 h2 _ ih =>
    intro a ha
    rcases List.mem_cons.mp ha with rfl | ha
    · exact o.there
    · exact ih a ha
theorem Pr.get (h : Pr f Hz H L W O) : ∀ {i : Nat} {d : PyData}, L[i]? = some (some (.dat d)) → ∃ v, W[i]? = some (some v) ∧ Dp f.K Hz v d := by
  induction h with
  | nil => intro i d e; cases e
  | gs l _ _ =>
    intro i d e
    cases i with
    | zero => cases e
    | succ i => cases e
  | skip _ ih =>
    intro i d e
    cases i with
    | zero => cases e
    | succ i => exact ih e
  | dat q _ ih =>
    intro i d e
    cases i with
    | zero => cases e; exact ⟨_, rfl, q⟩
    | succ i => exact ih e
  | ob o h1 h2 _ ih =>
    intro i d e
    cases i with
    | zero => cases e
    | succ i => exact ih e
/-- the object of a slot taken out -/
theorem Pr.take (h : Pr f Hz H L W O) : ∀ {i : Nat} {t : Option Nat} {o : Ob}, L[i]? = some (some (.ob t o)) →
    ∃ a O', W[i]? = some (some (.ref a)) ∧ OkOb f.K Hz H a o ∧ (t = none → f.H0 a = none) ∧ (∀ j, t = some j → f.A[j]? = some a) ∧ O.Perm (a :: O') ∧ Pr f Hz H (L.set i none) W O' := by
  induction h with
  | nil => intro i t o e; cases e
  | gs l _ _ =>
    intro i t o e
    cases i with
    | zero => cases e
    | succ i => cases e
  | skip _ ih =>
    intro i t o e
    cases i with
    | zero => cases e
    | succ i =>
      obtain ⟨a, O', h1, h2, h3, h4, h5, h6⟩ := ih e
      exact ⟨a, O', h1, h2, h3, h4, h5, .skip h6⟩
  | dat q _ ih =>
    intro i t o e
    cases i with
    | zero => cases e
    | succ i =>
      obtain ⟨a, O', h1, h2, h3, h4, h5, h6⟩ := ih e
      exact ⟨a, O', h1, h2, h3, h4, h5, .dat q h6⟩
  | @ob a0 t0 o0 L W O q h1 h2 r ih =>
    intro i t o e
    cases i with
    | zero =>
      cases e
      exact ⟨a0, O, rfl, q, h1, h2, List.Perm.refl _, .skip r⟩
    | succ i =>
      obtain ⟨a, O', g1, g2, g3, g4, g5, g6⟩ := ih e
      exact ⟨a, a0 :: O', g1, g2, g3, g4, (g5.cons a0).trans (List.Perm.swap _ _ _), .ob q h1 h2 g6⟩
/-- a slot forgotten -/
theorem Pr.wipe (h : Pr f Hz H L W O) : ∀ (i : Nat) (x : Option V), i < W.length → ∃ O', (∃ r, O.Perm (r ++ O')) ∧ Pr f Hz H (L.set i none) (W.set i x) O' := by
  induction h with
  | nil => intro i x hi; cases hi
  | gs l _ _ => intro i x hi; cases hi
  | @skip y L W O p ih =>
    intro i x hi
    cases i with
    | zero => exact ⟨O, ⟨[], List.Perm.refl _⟩, .skip p⟩
    | succ i =>
      obtain ⟨O', h1, h2⟩ := ih i x (Nat.lt_of_succ_lt_succ hi)
      exact ⟨O', h1, .skip h2⟩
  | @dat v d L W O q p ih =>
    intro i x hi
    cases i with
    | zero => exact ⟨O, ⟨[], List.Perm.refl _⟩, .skip p⟩
    | succ i =>
      obtain ⟨O', h1, h2⟩ := ih i x (Nat.lt_of_succ_lt_succ hi)
      exact ⟨O', h1, .dat q h2⟩
  | @ob a t o L W O q g1 g2 p ih =>
    intro i x hi
    cases i with
    | zero => exact ⟨O, ⟨[a], List.Perm.refl _⟩, .skip p⟩
    | succ i =>
      obtain ⟨O', ⟨r, h1⟩, h2⟩ := ih i x (Nat.lt_of_succ_lt_succ hi)
      exact ⟨a :: O', ⟨r, (h1.cons a).trans (List.perm_middle.symm)⟩, .ob q g1 g2 h2⟩
/-- data into a slot that holds nothing -/
theorem Pr.putD (h : Pr f Hz H L W O) : ∀ {i : Nat} {v : V} {d : PyData}, Dp f.K Hz v d → L[i]? = some none → Pr f Hz H (L.set i (some (.dat d))) (W.set i (some v)) O := by
  induction h with
  | nil => intro i v d q e; cases e
  | gs l _ _ =>
    intro i v d q e
    cases i with
    | zero => cases e
    | succ i => cases e
  | skip p ih =>
    intro i v d q e
    cases i with
    | zero => exact .dat q p
    | succ i => exact .skip (ih q e)
  | dat q p ih =>
    intro i v d q' e
    cases i with
    | zero => cases e
    | succ i => exact .dat q (ih q' e)
  | ob q g1 g2 p ih =>
    intro i v d q' e
    cases i with
    | zero => cases e
    | succ i => exact .ob q g1 g2 (ih q' e)
/-- an object into a slot that holds nothing -/
theorem Pr.putO (h : Pr f Hz H L W O) : ∀ {i : Nat} {a : Addr} {t : Option Nat} {o : Ob}, OkOb f.K Hz H a o → (t = none → f.H0 a = none) → (∀ j, t = some j → f.A[j]? = some a) → L[i]? = some none →
    ∃ O', O'.Perm (a :: O) ∧ Pr f Hz H (L.set i (some (.ob t o))) (W.set i (some (.ref a))) O' := by
  induction h with
  | nil => intro i a t o _ _ _ e; cases e
  | gs l _ _ =>
    intro i a t o _ _ _ e
    cases i with
    | zero => cases e
    | succ i => cases e
  | @skip y L W O p ih =>
    intro i a t o q1 q2 q3 e
    cases i with
    | zero => exact ⟨_, List.Perm.refl _, .ob q1 q2 q3 p⟩
    | succ i =>
      obtain ⟨O', h1, h2⟩ := ih q1 q2 q3 e
      exact ⟨O', h1, .skip h2⟩
  | dat q p ih =>
    intro i a t o q1 q2 q3 e
    cases i with
    | zero => cases e
    | succ i =>
      obtain ⟨O', h1, h2⟩ := ih q1 q2 q3 e
      exact ⟨O', h1, .dat q h2⟩
  | @ob a0 t0 o0 L W O q g1 g2 p ih =>
    intro i a t o q1 q2 q3 e
    cases i with
    | zero => cases e
    | succ i =>
      obtain ⟨O', h1, h2⟩ := ih q1 q2 q3 e
      exact ⟨a0 :: O', (h1.cons a0).trans (List.Perm.swap _ _ _), .ob q g1 g2 h2⟩
end
/-- the state: temporaries L, W; slots E, σ -/
structure Sy (f : Fr) (L : En) (W : St) (E : En) (σ : St) (Hz H : Hp) : Prop where
  ex : ∃ O1 O2, Pr f Hz H L W O1 ∧ Pr f Hz H E σ O2 ∧ (O1 ++ O2).Nodup ∧ ∀ a ∈ O1 ++ O2, Hz a = none
  sm : Same Hz H
  tz : Same f.Z0 Hz
  nw : ∀ b, Hz b ≠ none → f.Z0 b ≠ none ∨ f.H0 b = none
  kp : ∀ b u, b ∉ f.A → f.H0 b = some u → H b = some u
  ka : ∀ b, f.H0 b ≠ none → H b ≠ none
  az : ∀ a ∈ f.A, f.H0 a ≠ none ∧ Hz a = none
  tp : ∀ b u, H b = some u → tupO u = true → Hz b = some u
  ln : σ.length = f.n
section
variable {f : Fr} {Hz Hz' H H' : Hp} {L E : En} {W σ : St}
theorem same_up {p : Addr} {u : HO} (h : Hz p = none) : Same Hz (upd Hz p u) := same_new h u
/-- a fixed thing is laid -/
theorem Sy.newT {p : Addr} {u : HO} (y : Sy f L W E σ Hz H) (hp : H p = none) : Sy f L W E σ (upd Hz p u) (upd H p u) := by
  obtain ⟨⟨O1, O2, p1, p2, nd, fr⟩, sm, tz, nw, kp, ka, az, tp, ln⟩ := y
  have hz : Hz p = none := by
    cases e : Hz p with
    | none => rfl
    | some x => rw [sm _ _ e] at hp; cases hp
  have h0 : f.H0 p = none := by
    cases e : f.H0 p with
    | none => rfl
    | some x => exact absurd hp (ka p (by rw [e]; exact Option.some_ne_none _))
  have ne : ∀ a ∈ O1 ++ O2, a ≠ p := fun a ha c => by
    rcases List.mem_append.mp ha with ha | ha
    · exact p1.there a ha (by rw [c]; exact hp)
    · exact p2.there a ha (by rw [c]; exact hp)
  have s1 := same_up (u := u) hz
  refine ⟨⟨O1, O2, p1.keep s1 (fun a ha => upd_ne (ne a (List.mem_append_left _ ha))), p2.keep s1 (fun a ha => upd_ne (ne a (List.mem_append_right _ ha))), nd, fun a ha => ?_⟩, ?_, fun b o q => s1 b o (tz b o q), ?_, ?_, ?_, ?_, ?_, ln⟩
  · rw [upd_ne (ne a ha)]
    exact fr a ha
  · intro b o q
    by_cases c : b = p
    · subst c
      rw [upd_same] at q ⊢
      exact q
    · rw [upd_ne c] at q ⊢
      exact sm b o q
  · intro b q
    by_cases c : b = p
    · subst c
      exact .inr h0
    · rw [upd_ne c] at q
      exact nw b q
  · intro b w hb q
    rw [upd_ne (fun c => by rw [c, h0] at q; cases q)]
    exact kp b w hb q
  · intro b q
    rw [upd_ne (fun c => q (by rw [c]; exact h0))]
    exact ka b q
  · intro a ha
    obtain ⟨q1, q2⟩ := az a ha
    refine ⟨q1, ?_⟩
    rw [upd_ne (fun c => q1 (by rw [c]; exact h0))]
    exact q2
  · intro b w q c
    by_cases e : b = p
    · subst e
      rw [upd_same] at q ⊢
      exact q
    · rw [upd_ne e] at q ⊢
      exact tp b w q c
theorem Sy.hz {p : Addr} (y : Sy f L W E σ Hz H) (hp : H p = none) : Hz p = none := by
  cases e : Hz p with
  | none => rfl
  | some x => rw [y.sm _ _ e] at hp; cases hp
/-- an object of its own is laid, as a temporary -/
theorem Sy.newO {p : Addr} {u : HO} {o : Ob} (y : Sy f L W E σ Hz H) (hp : H p = none) (ho : OkOb f.K Hz (upd H p u) p o) : Sy f (some (.ob none o) :: L) (some (.ref p) :: W) E σ Hz (upd H p u) := by
  have hz := y.hz hp
  obtain ⟨⟨O1, O2, p1, p2, nd, fr⟩, sm, tz, nw, kp, ka, az, tp, ln⟩ := y
  have h0 : f.H0 p = none := by
    cases e : f.H0 p with
    | none => rfl
    | some x => exact absurd hp (ka p (by rw [e]; exact Option.some_ne_none _))
  have ne : ∀ a ∈ O1 ++ O2, a ≠ p := fun a ha c => by
    rcases List.mem_append.mp ha with ha | ha
    · exact p1.there a ha (by rw [c]; exact hp)
    · exact p2.there a ha (by rw [c]; exact hp)
  have s1 : Same Hz Hz := fun _ _ q => q
  refine ⟨⟨p :: O1, O2, .ob ho (fun _ => h0) (fun j e => by cases e) (p1.keep s1 (fun a ha => upd_ne (ne a (List.mem_append_left _ ha)))), p2.keep s1 (fun a ha => upd_ne (ne a (List.mem_append_right _ ha))), ?_, ?_⟩, ?_, tz, nw, ?_, ?_, az, ?_, ln⟩
  · exact List.nodup_cons.mpr ⟨fun h => ne p h rfl, nd⟩
  · intro a ha
    rcases List.mem_cons.mp ha with rfl | ha
    · exact hz
    · exact fr a ha
  · intro b o q
    rw [upd_ne (fun c => by rw [c, hz] at q; cases q)]
    exact sm b o q
  · intro b w hb q
    rw [upd_ne (fun c => by rw [c, h0] at q; cases q)]
    exact kp b w hb q
  · intro b q
    rw [upd_ne (fun c => q (by rw [c]; exact h0))]
    exact ka b q
  · intro b w q c
    by_cases e : b = p
    · subst e
      rw [ho.ntup w q] at c
      cases c
    · rw [upd_ne e] at q
      exact tp b w q c
theorem Sy.pop {x : Option B} {v : Option V} (y : Sy f (x :: L) (v :: W) E σ Hz H) : Sy f L W E σ Hz H := by
  obtain ⟨⟨O1, O2, p1, p2, nd, fr⟩, sm, tz, nw, kp, ka, az, tp, ln⟩ := y
  cases p1 with
  | skip p => exact ⟨⟨_, O2, p, p2, nd, fr⟩, sm, tz, nw, kp, ka, az, tp, ln⟩
  | dat _ p => exact ⟨⟨_, O2, p, p2, nd, fr⟩, sm, tz, nw, kp, ka, az, tp, ln⟩
  | ob _ _ _ p => exact ⟨⟨_, O2, p, p2, (List.nodup_cons.mp nd).2, fun a ha => fr a (List.mem_cons_of_mem _ ha)⟩, sm, tz, nw, kp, ka, az, tp, ln⟩
theorem Sy.get {i : Nat} {d : PyData} (y : Sy f L W E σ Hz H) (e : E[i]? = some (some (.dat d))) : ∃ v, σ[i]? = some (some v) ∧ Dp f.K Hz v d := by
  obtain ⟨O1, O2, p1, p2, nd, fr⟩ := y.ex
  exact p2.get e
theorem Sy.ob {i : Nat} {t : Option Nat} {o : Ob} (y : Sy f L W E σ Hz H) (e : E[i]? = some (some (.ob t o))) : ∃ a, σ[i]? = some (some (.ref a)) ∧ OkOb f.K Hz H a o ∧ Hz a = none := by
  obtain ⟨O1, O2, p1, p2, nd, fr⟩ := y.ex
  obtain ⟨a, O', h1, h2, h3, h4, h5, h6⟩ := p2.take e
  exact ⟨a, h1, h2, fr a (List.mem_append_right _ (h5.mem_iff.mpr List.mem_cons_self))⟩
theorem Sy.top {t : Option Nat} {o : Ob} {v : Option V} (y : Sy f (some (.ob t o) :: L) (v :: W) E σ Hz H) : ∃ a, v = some (.ref a) ∧ OkOb f.K Hz H a o ∧ Hz a = none := by
  obtain ⟨O1, O2, p1, p2, nd, fr⟩ := y.ex
  cases p1 with
  | ob h1 h2 h3 p => exact ⟨_, rfl, h1, fr _ (List.mem_append_left _ List.mem_cons_self)⟩
theorem Sy.le (y : Sy f L W E σ Hz H) : σ.length ≤ E.length := by
  obtain ⟨O1, O2, p1, p2, nd, fr⟩ := y.ex
  exact p2.le
end
theorem perm_nodup {α : Type} {a b c : List α} (h : (a ++ b).Nodup) (p : b.Perm c) : (a ++ c).Nodup := (p.append_left a).nodup_iff.mp h
section
variable {f : Fr} {Hz Hz' H H' : Hp} {L E : En} {W σ : St}
theorem set_set_none {α : Type} (l : List (Option α)) (i : Nat) (x : Option α) : (l.set i none).set i x = l.set i x := by rw [List.set_set]
/-- the object of a slot is changed -/
theorem Sy.wr {i : Nat} {t : Option Nat} {o o' : Ob} {a : Addr} {u : HO} (y : Sy f L W E σ Hz H) (e : E[i]? = some (some (.ob t o))) (ea : σ[i]? = some (some (.ref a))) (ho : OkOb f.K Hz (upd H a u) a o') :
    Sy f L W (E.set i (some (.ob t o'))) σ Hz (upd H a u) := by
  obtain ⟨⟨O1, O2, p1, p2, nd, fr⟩, sm, tz, nw, kp, ka, az, tp, ln⟩ := y
  obtain ⟨a', O', h1, h2, h3, h4, h5, h6⟩ := p2.take e
  rw [ea] at h1
  obtain rfl := V.ref.inj (Option.some.inj (Option.some.inj h1))
  have nd2 := perm_nodup nd h5
  have hz : Hz a = none := fr a (List.mem_append_right _ (h5.mem_iff.mpr List.mem_cons_self))
  have nd3 := List.nodup_append.mp nd2
  have n1 : ∀ b ∈ O1, b ≠ a := fun b hb c => nd3.2.2 b hb a List.mem_cons_self c
  have n2 : ∀ b ∈ O', b ≠ a := fun b hb c => (List.nodup_cons.mp nd3.2.1).1 (c ▸ hb)
  have s1 : Same Hz Hz := fun _ _ q => q
  have hi : i < E.length := (List.getElem?_eq_some_iff.mp e).1
  have e0 : (E.set i none)[i]? = some none := by rw [List.getElem?_set_self hi]
  obtain ⟨O3, g1, g2⟩ := (h6.keep s1 (fun b hb => upd_ne (n2 b hb)) : Pr f Hz (upd H a u) _ _ _).putO ho h3 h4 e0
  rw [set_set_none] at g2
  have eσ : σ.set i (some (V.ref a)) = σ := by
    apply List.ext_getElem?
    intro n
    by_cases hn : i = n
    · subst hn
      rw [ea, List.getElem?_set_self (List.getElem?_eq_some_iff.mp ea).1]
    · rw [List.getElem?_set_ne hn]
  rw [eσ] at g2
  refine ⟨⟨O1, O3, p1.keep s1 (fun b hb => upd_ne (n1 b hb)), g2, perm_nodup nd2 g1.symm, fun b hb => fr b ?_⟩, ?_, tz, nw, ?_, ?_, az, ?_, ln⟩
  · rcases List.mem_append.mp hb with hb | hb
    · exact List.mem_append_left _ hb
    · exact List.mem_append_right _ (h5.mem_iff.mpr (g1.mem_iff.mp hb))
  · intro b o q
    rw [upd_ne (fun c => by rw [c, hz] at q; cases q)]
    exact sm b o q
  · intro b w hb q
    by_cases c : b = a
    · subst c
      cases t with
      | none => rw [h3 rfl] at q; cases q
      | some j => exact absurd (List.mem_of_getElem? (h4 j rfl)) hb
    · rw [upd_ne c]
      exact kp b w hb q
  · intro b q
    by_cases c : b = a
    · subst c
      rw [upd_same]
      exact Option.some_ne_none _
    · rw [upd_ne c]
      exact ka b q
  · intro b w q c
    by_cases e : b = a
    · subst e
      rw [ho.ntup w q] at c
      cases c
    · rw [upd_ne e] at q
      exact tp b w q c
/-- the topmost temporary is changed -/
theorem Sy.wrT {t : Option Nat} {o o' : Ob} {a : Addr} {u : HO} (y : Sy f (some (.ob t o) :: L) (some (.ref a) :: W) E σ Hz H) (ho : OkOb f.K Hz (upd H a u) a o') :
    Sy f (some (.ob t o') :: L) (some (.ref a) :: W) E σ Hz (upd H a u) := by
  obtain ⟨⟨O1, O2, p1, p2, nd, fr⟩, sm, tz, nw, kp, ka, az, tp, ln⟩ := y
  cases p1 with
  | @ob _ _ _ _ _ O1 q1 q2 q3 p1 =>
    have n1 : ∀ b ∈ O1 ++ O2, b ≠ a := fun b hb c => (List.nodup_cons.mp nd).1 (c ▸ hb)
    have s1 : Same Hz Hz := fun _ _ q => q
    have hz : Hz a = none := fr a List.mem_cons_self
    refine ⟨⟨a :: O1, O2, .ob ho q2 q3 (p1.keep s1 (fun b hb => upd_ne (n1 b (List.mem_append_left _ hb)))), p2.keep s1 (fun b hb => upd_ne (n1 b (List.mem_append_right _ hb))), nd, fr⟩, ?_, tz, nw, ?_, ?_, az, ?_, ln⟩
    · intro b o q
      rw [upd_ne (fun c => by rw [c, hz] at q; cases q)]
      exact sm b o q
    · intro b w hb q
      by_cases c : b = a
      · subst c
        cases t with
        | none => rw [q2 rfl] at q; cases q
        | some j => exact absurd (List.mem_of_getElem? (q3 j rfl)) hb
      · rw [upd_ne c]
        exact kp b w hb q
    · intro b q
      by_cases c : b = a
      · subst c
        rw [upd_same]
        exact Option.some_ne_none _
      · rw [upd_ne c]
        exact ka b q
    · intro b w q c
      by_cases e : b = a
      · subst e
        rw [ho.ntup w q] at c
        cases c
      · rw [upd_ne e] at q
        exact tp b w q c
/-- data into a slot -/
theorem Sy.setD {i : Nat} {v : V} {d : PyData} (y : Sy f L W E σ Hz H) (hd : Dp f.K Hz v d) (hn : i < f.n) : Sy f L W (E.set i (some (.dat d))) (σ.set i (some v)) Hz H := by
  have hl := y.le
  obtain ⟨⟨O1, O2, p1, p2, nd, fr⟩, sm, tz, nw, kp, ka, az, tp, ln⟩ := y
  have hs : i < σ.length := by omega
  have hi : i < E.length := by omega
  obtain ⟨O', ⟨r, h1⟩, h2⟩ := p2.wipe i (some v) hs
  have h3 := h2.putD (i := i) hd (by rw [List.getElem?_set_self hi])
  rw [List.set_set, List.set_set] at h3
  have nd2 := perm_nodup nd h1
  have sub : (O1 ++ O').Sublist (O1 ++ (r ++ O')) := List.Sublist.append (List.Sublist.refl _) (List.sublist_append_right _ _)
  refine ⟨⟨O1, O', p1, h3, sub.nodup nd2, fun a ha => fr a ?_⟩, sm, tz, nw, kp, ka, az, tp, by rw [List.length_set]; exact ln⟩
  have := sub.subset ha
  rcases List.mem_append.mp this with q | q
  · exact List.mem_append_left _ q
  · exact List.mem_append_right _ (h1.mem_iff.mpr q)
/-- a slot forgotten -/
theorem Sy.forget {i : Nat} {x : Option V} (y : Sy f L W E σ Hz H) (hn : i < f.n) : Sy f L W (E.set i none) (σ.set i x) Hz H := by
  have hl := y.le
  obtain ⟨⟨O1, O2, p1, p2, nd, fr⟩, sm, tz, nw, kp, ka, az, tp, ln⟩ := y
  have hs : i < σ.length := by omega
  have hi : i < E.length := by omega
  obtain ⟨O', ⟨r, h1⟩, h2⟩ := p2.wipe i x hs
  have nd2 := perm_nodup nd h1
  have sub : (O1 ++ O').Sublist (O1 ++ (r ++ O')) := List.Sublist.append (List.Sublist.refl _) (List.sublist_append_right _ _)
  refine ⟨⟨O1, O', p1, h2, sub.nodup nd2, fun a ha => fr a ?_⟩, sm, tz, nw, kp, ka, az, tp, by rw [List.length_set]; exact ln⟩
  have := sub.subset ha
  rcases List.mem_append.mp this with q | q
  · exact List.mem_append_left _ q
  · exact List.mem_append_right _ (h1.mem_iff.mpr q)
/-- the topmost temporary into a slot -/
theorem Sy.setO {i : Nat} {v : V} {t : Option Nat} {o : Ob} (y : Sy f (some (.ob t o) :: L) (some v :: W) E σ Hz H) (hn : i < f.n) : Sy f L W (E.set i (some (.ob t o))) (σ.set i (some v)) Hz H := by
  have hl := y.le
  obtain ⟨⟨O1, O2, p1, p2, nd, fr⟩, sm, tz, nw, kp, ka, az, tp, ln⟩ := y
  have hs : i < σ.length := by omega
  have hi : i < E.length := by omega
  cases p1 with
  | @ob a _ _ _ _ O1 q1 q2 q3 p1 =>
    obtain ⟨O', ⟨r, h1⟩, h2⟩ := p2.wipe i (some (.ref a)) hs
    obtain ⟨O3, g1, h3⟩ := h2.putO (i := i) q1 q2 q3 (by rw [List.getElem?_set_self hi])
    rw [List.set_set, List.set_set] at h3
    have nd1 : ((a :: O1) ++ (r ++ O')).Nodup := perm_nodup nd h1
    have sub : ((a :: O1) ++ O').Sublist ((a :: O1) ++ (r ++ O')) := List.Sublist.append (List.Sublist.refl _) (List.sublist_append_right _ _)
    have nd2 : ((a :: O1) ++ O').Nodup := sub.nodup nd1
    have pm : (O1 ++ O3).Perm ((a :: O1) ++ O') := ((g1.append_left O1).trans List.perm_middle)
    refine ⟨⟨O1, O3, p1, h3, pm.nodup_iff.mpr nd2, fun b hb => fr b ?_⟩, sm, tz, nw, kp, ka, az, tp, by rw [List.length_set]; exact ln⟩
    have h4 := sub.subset (pm.mem_iff.mp hb)
    rcases List.mem_append.mp h4 with q | q
    · exact List.mem_append_left _ q
    · exact List.mem_append_right _ (h1.mem_iff.mpr q)
/-- the object of a slot becomes the topmost temporary -/
theorem Sy.mv {i : Nat} {v : V} {t : Option Nat} {o : Ob} (y : Sy f L W E σ Hz H) (e : E[i]? = some (some (.ob t o))) (ev : σ[i]? = some (some v)) : Sy f (some (.ob t o) :: L) (some v :: W) (E.set i none) σ Hz H := by
  obtain ⟨⟨O1, O2, p1, p2, nd, fr⟩, sm, tz, nw, kp, ka, az, tp, ln⟩ := y
  obtain ⟨a, O', h1, h2, h3, h4, h5, h6⟩ := p2.take e
  rw [ev] at h1
  obtain rfl := Option.some.inj (Option.some.inj h1)
  have pm : ((a :: O1) ++ O').Perm (O1 ++ O2) := (List.perm_middle.symm).trans (h5.symm.append_left O1)
  refine ⟨⟨a :: O1, O', .ob h2 h3 h4 p1, h6, pm.nodup_iff.mpr nd, fun b hb => fr b (pm.mem_iff.mp hb)⟩, sm, tz, nw, kp, ka, az, tp, ln⟩
/-- the topmost temporary, a list, is fixed -/
theorem Sy.frz {v : V} {ds : List PyData} (y : Sy f (some (.ob none (.lst ds)) :: L) (some v :: W) E σ Hz H) : ∃ Hz', Sy f L W E σ Hz' H ∧ Same Hz Hz' ∧ Dp f.K Hz' v (.list ds) := by
  obtain ⟨⟨O1, O2, p1, p2, nd, fr⟩, sm, tz, nw, kp, ka, az, tp, ln⟩ := y
  cases p1 with
  | @ob a _ _ _ _ O1 q1 q2 q3 p1 =>
    obtain ⟨xs, hx, hd⟩ := q1
    have hz : Hz a = none := fr a List.mem_cons_self
    have s1 : Same Hz (upd Hz a (.lst xs)) := same_new hz _
    have ne : ∀ b ∈ O1 ++ O2, b ≠ a := fun b hb c => (List.nodup_cons.mp nd).1 (c ▸ hb)
    refine ⟨upd Hz a (.lst xs), ⟨⟨O1, O2, p1.keep s1 (fun _ _ => rfl), p2.keep s1 (fun _ _ => rfl), (List.nodup_cons.mp nd).2, fun b hb => ?_⟩, ?_, fun b o q => s1 b o (tz b o q), ?_, kp, ka, ?_, fun b w q c => s1 b w (tp b w q c), ln⟩, s1, .lst (SqL.of upd_same) (dps_mono s1 _ _ hd)⟩
    · rw [upd_ne (ne b hb)]
      exact fr b (List.mem_cons_of_mem _ hb)
    · intro b o q
      by_cases c : b = a
      · subst c
        rw [upd_same] at q
        rw [hx]
        exact q
      · rw [upd_ne c] at q
        exact sm b o q
    · intro b q
      by_cases c : b = a
      · subst c
        exact .inr (q2 rfl)
      · rw [upd_ne c] at q
        exact nw b q
    · intro b hb
      obtain ⟨g1, g2⟩ := az b hb
      refine ⟨g1, ?_⟩
      rw [upd_ne (fun c => g1 (by rw [c]; exact q2 rfl))]
      exact g2
end
/-- tuples are fixed -/
theorem Sy.kpT {f : Fr} {L E : En} {W σ : St} {Hz H : Hp} (y : Sy f L W E σ Hz H) : KpT H Hz := fun K a xs h => by
  rcases h with (h | ⟨o, h⟩) | h
  · exact .inl (.inl (y.tp _ _ h rfl))
  · exact .inl (.inr ⟨o, y.tp _ _ h rfl⟩)
  · exact .inr h
theorem Sy.dpz {f : Fr} {L E : En} {W σ : St} {Hz H : Hp} {v : V} {d : PyData} (y : Sy f L W E σ Hz H) (p : pT d = true) (h : Dp f.K H v d) : Dp f.K Hz v d := dp_keep y.kpT d v p h
end DL


set_option Elab.async false
set_option linter.all false
set_option maxRecDepth 100000
set_option maxHeartbeats 4000000
/-! Shared objects: read, changed, new. -/
namespace DL
open PySem L2 TG
section
variable {f : Fr} {Hz Hz' H H' : Hp} {L E : En} {W σ : St} {O : List Addr}
theorem Pr.gtake (h : Pr f Hz H L W O) : ∀ {n : Nat} {G : Gh}, L[n]? = some (some (.gs G)) → ∃ l r, G = lkp l ∧ PG f Hz H l ∧ O.Perm (r ++ l.map (·.1)) ∧
    ∀ {Hz' H' : Hp} (l' : List (Addr × Cell)), Same Hz Hz' → (∀ a ∈ r, H' a = H a) → PG f Hz' H' l' → ∃ O', O'.Perm (r ++ l'.map (·.1)) ∧ Pr f Hz' H' (L.set n (some (.gs (lkp l')))) W O' := by
  induction h with
  | nil => intro n G e; cases e
  | gs l hl g =>
    intro n G e
    cases n with
    | zero =>
      cases e
      exact ⟨l, [], hl, g, List.Perm.refl _, fun l' s _ g' => ⟨_, List.Perm.refl _, .gs l' rfl g'⟩⟩
    | succ n => cases e
  | skip p ih =>
    intro n G e
    cases n with
    | zero => cases e
    | succ n =>
      obtain ⟨l, r, h1, h2, h3, h4⟩ := ih e
      exact ⟨l, r, h1, h2, h3, fun l' s k g' => by
        obtain ⟨O', q1, q2⟩ := h4 l' s k g'
        exact ⟨O', q1, .skip q2⟩⟩
  | dat q p ih =>
    intro n G e
    cases n with
    | zero => cases e
    | succ n =>
      obtain ⟨l, r, h1, h2, h3, h4⟩ := ih e
      exact ⟨l, r, h1, h2, h3, fun l' s k g' => by
        obtain ⟨O', q1, q2⟩ := h4 l' s k g'
        exact ⟨O', q1, .dat (dp_mono s _ _ q) q2⟩⟩
  | @ob a t o L W O q c1 c2 p ih =>
    intro n G e
    cases n with
    | zero => cases e
    | succ n =>
      obtain ⟨l, r, h1, h2, h3, h4⟩ := ih e
      exact ⟨l, a :: r, h1, h2, h3.cons a, fun l' s k g' => by
        obtain ⟨O', q1, q2⟩ := h4 l' s (fun b hb => k b (List.mem_cons_of_mem _ hb)) g'
        exact ⟨a :: O', q1.cons a, .ob (q.keep s (k a List.mem_cons_self)) c1 c2 q2⟩⟩
theorem same_self {H : Hp} : Same H H := fun _ _ q => q
theorem Sy.gget {n : Nat} {G : Gh} {a : Addr} {c : Cell} (y : Sy f L W E σ Hz H) (e : E[n]? = some (some (.gs G))) (h : G a = some c) : OkC f.K Hz H a c ∧ Hz a = none := by
  obtain ⟨O1, O2, p1, p2, nd, fr⟩ := y.ex
  obtain ⟨l, r, rfl, g, h3, _⟩ := p2.gtake e
  have hm := lkp_mem h
  refine ⟨g.ok _ hm, fr a (List.mem_append_right _ (h3.mem_iff.mpr (List.mem_append_right _ (List.mem_map.mpr ⟨_, hm, rfl⟩))))⟩
theorem Sy.gnone {n : Nat} {G : Gh} {a : Addr} (y : Sy f L W E σ Hz H) (e : E[n]? = some (some (.gs G))) (h : H a = none) : G a = none := by
  cases c : G a with
  | none => rfl
  | some c' => exact absurd h (y.gget e c).1.there
/-- a shared object is changed -/
theorem Sy.gset {n : Nat} {G : Gh} {a : Addr} {c c' : Cell} {u : HO} (y : Sy f L W E σ Hz H) (e : E[n]? = some (some (.gs G))) (h : G a = some c) (hc : OkC f.K Hz (upd H a u) a c') :
    Sy f L W (E.set n (some (.gs (upG G a c')))) σ Hz (upd H a u) := by
  have hH := (y.gget e h).1.there
  obtain ⟨⟨O1, O2, p1, p2, nd, fr⟩, sm, tz, nw, kp, ka, az, tp, ln⟩ := y
  obtain ⟨l, r, rfl, g, h3, h4⟩ := p2.gtake e
  have hm := lkp_mem h
  have hk : a ∈ l.map (·.1) := List.mem_map.mpr ⟨_, hm, rfl⟩
  have nd2 : (O1 ++ (r ++ l.map (·.1))).Nodup := perm_nodup nd h3
  have hz : Hz a = none := fr a (List.mem_append_right _ (h3.mem_iff.mpr (List.mem_append_right _ hk)))
  have nd3 := List.nodup_append.mp nd2
  have nd4 := List.nodup_append.mp nd3.2.1
  have n1 : ∀ b ∈ O1, b ≠ a := fun b hb z => nd3.2.2 b hb a (List.mem_append_right _ hk) z
  have n2 : ∀ b ∈ r, b ≠ a := fun b hb z => nd4.2.2 b hb a hk z
  have s1 : Same Hz Hz := same_self
  have own : a ∈ f.A ∨ f.H0 a = none := g.own _ hm
  have g' : PG f Hz (upd H a u) (setL l a c') := by
    refine ⟨fun p hp => ?_, fun p hp => ?_⟩
    · obtain ⟨q, hq, rfl⟩ := List.mem_map.mp hp
      by_cases z : q.1 = a
      · rw [if_pos z]
        exact hc
      · rw [if_neg z]
        exact (g.ok q hq).keep s1 (upd_ne z)
    · obtain ⟨q, hq, rfl⟩ := List.mem_map.mp hp
      by_cases z : q.1 = a
      · rw [if_pos z]
        exact own
      · rw [if_neg z]
        exact g.own q hq
  obtain ⟨O', q1, q2⟩ := h4 (setL l a c') s1 (fun b hb => upd_ne (n2 b hb)) g'
  rw [lkp_setL hk] at q2
  rw [setL_keys] at q1
  refine ⟨⟨O1, O', p1.keep s1 (fun b hb => upd_ne (n1 b hb)), q2, perm_nodup nd2 q1.symm, fun b hb => fr b ?_⟩, ?_, tz, nw, ?_, ?_, az, ?_, ln⟩
  · rcases List.mem_append.mp hb with hb | hb
    · exact List.mem_append_left _ hb
    · exact List.mem_append_right _ (h3.mem_iff.mpr (q1.mem_iff.mp hb))
  · intro b o q
    rw [upd_ne (fun c => by rw [c, hz] at q; cases q)]
    exact sm b o q
  · intro b w hb q
    by_cases z : b = a
    · subst z
      rcases own with z | z
      · exact absurd z hb
      · rw [z] at q; cases q
    · rw [upd_ne z]
      exact kp b w hb q
  · intro b q
    by_cases z : b = a
    · subst z
      rw [upd_same]
      exact Option.some_ne_none _
    · rw [upd_ne z]
      exact ka b q
  · intro b w q z
    by_cases e : b = a
    · subst e
      rw [hc.ntup w q] at z
      cases z
    · rw [upd_ne e] at q
      exact tp b w q z
/-- an untracked thing is laid -/
theorem Sy.newX {p : Addr} {u : HO} (y : Sy f L W E σ Hz H) (hp : H p = none) (hu : tupO u = false) : Sy f L W E σ Hz (upd H p u) := by
  have hz := y.hz hp
  obtain ⟨⟨O1, O2, p1, p2, nd, fr⟩, sm, tz, nw, kp, ka, az, tp, ln⟩ := y
  have h0 : f.H0 p = none := by
    cases e : f.H0 p with
    | none => rfl
    | some x => exact absurd hp (ka p (by rw [e]; exact Option.some_ne_none _))
  have ne : ∀ a ∈ O1 ++ O2, a ≠ p := fun a ha c => by
    rcases List.mem_append.mp ha with ha | ha
    · exact p1.there a ha (by rw [c]; exact hp)
    · exact p2.there a ha (by rw [c]; exact hp)
  have s1 : Same Hz Hz := same_self
  refine ⟨⟨O1, O2, p1.keep s1 (fun a ha => upd_ne (ne a (List.mem_append_left _ ha))), p2.keep s1 (fun a ha => upd_ne (ne a (List.mem_append_right _ ha))), nd, fr⟩, ?_, tz, nw, ?_, ?_, az, ?_, ln⟩
  · intro b o q
    rw [upd_ne (fun c => by rw [c, hz] at q; cases q)]
    exact sm b o q
  · intro b w hb q
    rw [upd_ne (fun c => by rw [c, h0] at q; cases q)]
    exact kp b w hb q
  · intro b q
    rw [upd_ne (fun c => q (by rw [c]; exact h0))]
    exact ka b q
  · intro b w q c
    by_cases e : b = p
    · subst e
      rw [upd_same] at q
      cases q
      rw [hu] at c
      cases c
    · rw [upd_ne e] at q
      exact tp b w q c
/-- a new thing becomes a shared object -/
theorem Sy.gnew {n : Nat} {G : Gh} {p : Addr} {u : HO} {c : Cell} (y : Sy f L W E σ Hz H) (e : E[n]? = some (some (.gs G))) (hp : H p = none) (hc : OkC f.K Hz (upd H p u) p c) :
    Sy f L W (E.set n (some (.gs (upG G p c)))) σ Hz (upd H p u) := by
  have hz := y.hz hp
  have hu : tupO u = false := hc.ntup u upd_same
  have y1 := y.newX hp hu
  obtain ⟨⟨O1, O2, p1, p2, nd, fr⟩, sm, tz, nw, kp, ka, az, tp, ln⟩ := y
  have h0 : f.H0 p = none := by
    cases e : f.H0 p with
    | none => rfl
    | some x => exact absurd hp (ka p (by rw [e]; exact Option.some_ne_none _))
  have ne : ∀ a ∈ O1 ++ O2, a ≠ p := fun a ha c => by
    rcases List.mem_append.mp ha with ha | ha
    · exact p1.there a ha (by rw [c]; exact hp)
    · exact p2.there a ha (by rw [c]; exact hp)
  obtain ⟨l, r, rfl, g, h3, h4⟩ := p2.gtake e
  have s1 : Same Hz Hz := same_self
  have nk : ∀ q ∈ l, q.1 ≠ p := fun q hq => ne q.1 (List.mem_append_right _ (h3.mem_iff.mpr (List.mem_append_right _ (List.mem_map.mpr ⟨q, hq, rfl⟩))))
  have g' : PG f Hz (upd H p u) ((p, c) :: l) := by
    refine ⟨fun q hq => ?_, fun q hq => ?_⟩
    · rcases List.mem_cons.mp hq with rfl | hq
      · exact hc
      · exact (g.ok q hq).keep s1 (upd_ne (nk q hq))
    · rcases List.mem_cons.mp hq with rfl | hq
      · exact .inr h0
      · exact g.own q hq
  obtain ⟨O', q1, q2⟩ := h4 ((p, c) :: l) s1 (fun b hb => upd_ne (ne b (List.mem_append_right _ (h3.mem_iff.mpr (List.mem_append_left _ hb))))) g'
  have el : lkp ((p, c) :: l) = upG (lkp l) p c := rfl
  rw [el] at q2
  have q3 : O'.Perm (p :: O2) := q1.trans (List.perm_middle.trans (h3.symm.cons p))
  have nd1 : (O1 ++ (p :: O2)).Nodup := List.perm_middle.nodup_iff.mpr (List.nodup_cons.mpr ⟨fun h => ne p h rfl, nd⟩)
  refine ⟨⟨O1, O', p1.keep s1 (fun a ha => upd_ne (ne a (List.mem_append_left _ ha))), q2, perm_nodup nd1 q3.symm, fun b hb => ?_⟩, y1.sm, y1.tz, y1.nw, y1.kp, y1.ka, y1.az, y1.tp, ln⟩
  rcases List.mem_append.mp hb with hb | hb
  · exact fr b (List.mem_append_left _ hb)
  · rcases List.mem_cons.mp (q3.mem_iff.mp hb) with rfl | hb
    · exact hz
    · exact fr b (List.mem_append_right _ hb)
/-- the topmost temporary becomes a shared object -/
theorem Sy.gmv {n : Nat} {G : Gh} {a : Addr} {o : Ob} (y : Sy f (some (.ob none o) :: L) (some (.ref a) :: W) E σ Hz H) (e : E[n]? = some (some (.gs G))) :
    Sy f L W (E.set n (some (.gs (upG G a (.ob o))))) σ Hz H ∧ G a = none := by
  obtain ⟨⟨O1, O2, p1, p2, nd, fr⟩, sm, tz, nw, kp, ka, az, tp, ln⟩ := y
  cases p1 with
  | @ob _ _ _ _ _ O1 q1 q2 q3 p1 =>
    obtain ⟨l, r, rfl, g, h3, h4⟩ := p2.gtake e
    have s1 : Same Hz Hz := same_self
    have g' : PG f Hz H ((a, .ob o) :: l) := by
      refine ⟨fun q hq => ?_, fun q hq => ?_⟩
      · rcases List.mem_cons.mp hq with rfl | hq
        · exact q1
        · exact g.ok q hq
      · rcases List.mem_cons.mp hq with rfl | hq
        · exact .inr (q2 rfl)
        · exact g.own q hq
    obtain ⟨O', c1, c2⟩ := h4 ((a, .ob o) :: l) s1 (fun _ _ => rfl) g'
    have c3 : O'.Perm (a :: O2) := c1.trans (List.perm_middle.trans (h3.symm.cons a))
    have na : ∀ q ∈ l, q.1 ≠ a := by
      intro q hq z
      have := (List.nodup_cons.mp nd).1
      exact this (List.mem_append_right _ (h3.mem_iff.mpr (List.mem_append_right _ (List.mem_map.mpr ⟨q, hq, z⟩))))
    have nd1 : (O1 ++ (a :: O2)).Nodup := List.perm_middle.nodup_iff.mpr nd
    refine ⟨⟨⟨O1, O', p1, c2, perm_nodup nd1 c3.symm, fun b hb => fr b ?_⟩, sm, tz, nw, kp, ka, az, tp, ln⟩, ?_⟩
    · rcases List.mem_append.mp hb with hb | hb
      · exact List.mem_cons_of_mem _ (List.mem_append_left _ hb)
      · rcases List.mem_cons.mp (c3.mem_iff.mp hb) with rfl | hb
        · exact List.mem_cons_self
        · exact List.mem_cons_of_mem _ (List.mem_append_right _ hb)
    · cases c : lkp l a with
      | none => rfl
      | some x => exact absurd rfl (na _ (lkp_mem c))
end
end DL


set_option Elab.async false
set_option linter.all false
set_option maxRecDepth 100000
set_option maxHeartbeats 4000000
/-! Expressions over the layer of values. -/
namespace DL
open PySem L2 TG
def tmp : Vl → En → En
  | .ob o, L => some (.ob none o) :: L
  | _, L => L
def tmv : Vl → V → St → St
  | .ob _, v, W => some v :: W
  | _, _, W => W
def Val (f : Fr) (b : Vl) (v : V) (σ : St) (Hz : Hp) : Prop := match b with
  | .dat d => Dp f.K Hz v d
  | .ob _ => True
  | .own i => σ[i]? = some (some v)
  | .gob _ a => v = .ref a
abbrev WE := En → (Vl → En → Prop) → Prop
abbrev WT := En → (Bool → En → Prop) → Prop
abbrev WM := En → (List Vl → En → Prop) → Prop
abbrev WA := En → (List PyData → En → Prop) → Prop
abbrev WO := En → (Option Int → En → Prop) → Prop
/-- o's value -/
def ob1 {α : Type} : Option α → (α → Prop) → Prop
  | some a, P => P a
  | none, _ => False
theorem ob1_some {α : Type} {a : α} {P : α → Prop} : ob1 (some a) P = P a := rfl
theorem ob1_none {α : Type} {P : α → Prop} : ob1 none P = False := rfl
theorem ob1_ex {α : Type} {o : Option α} {P : α → Prop} (h : ob1 o P) : ∃ a, o = some a ∧ P a := by
  cases o with
  | none => exact h.elim
  | some a => exact ⟨a, rfl, h⟩
/-- an expression's reading te answers by E -/
structure SE (f : Fr) (te : TE) (E : WE) : Prop where
  run : ∀ {L W e σ Hz H Post Q}, E e Post → Sy f L W e σ Hz H →
    (∀ b e' v Hz' H', Post b e' → Same Hz Hz' → Sy f (tmp b L) (tmv b v W) e' σ Hz' H' → Val f b v σ Hz' → Q v H') → te σ H Q
structure ST (f : Fr) (tt : TT) (E : WT) : Prop where
  run : ∀ {L W e σ Hz H Post Q}, E e Post → Sy f L W e σ Hz H → (∀ b e' Hz' H', Post b e' → Same Hz Hz' → Sy f L W e' σ Hz' H' → Q b H') → tt σ H Q
structure SA (f : Fr) (ta : TA) (E : WA) : Prop where
  run : ∀ {L W e σ Hz H Post Q}, E e Post → Sy f L W e σ Hz H → (∀ ds e' vs Hz' H', Post ds e' → Same Hz Hz' → Sy f L W e' σ Hz' H' → DpAll f.K Hz' vs ds → Q vs H') → ta σ H Q
structure SO (f : Fr) (to : TO) (E : WO) : Prop where
  run : ∀ {L W e σ Hz H Post Q}, E e Post → Sy f L W e σ Hz H → (∀ o e' Hz' H', Post o e' → Same Hz Hz' → Sy f L W e' σ Hz' H' → Q o H') → to σ H Q
theorem same_refl {H : Hp} : Same H H := fun _ _ q => q
theorem same_trans {H H1 H2 : Hp} (a : Same H H1) (b : Same H1 H2) : Same H H2 := fun x o q => b x o (a x o q)
section
variable {f : Fr} {L e : En} {W σ : St} {Hz H Hz' : Hp} {b : Vl} {v : V}
theorem Sy.un (y : Sy f (tmp b L) (tmv b v W) e σ Hz H) : Sy f L W e σ Hz H := by
  cases b with
  | dat d => exact y
  | ob o => exact y.pop
  | own i => exact y
  | gob n a => exact y
theorem Val.mono (h : Val f b v σ Hz) (s : Same Hz Hz') : Val f b v σ Hz' := by
  cases b with
  | dat d => exact dp_mono s _ _ h
  | ob o => trivial
  | own i => exact h
  | gob n a => exact h
def contC : Option Cell → Option PyData
  | some (.ob (.lst ds)) => some (.list ds)
  | _ => none
def contG : Option (Option B) → Addr → Option PyData
  | some (some (.gs G)), a => contC (G a)
  | _, _ => none
/-- what can be read of a value as data -/
def cont : Vl → En → Option PyData
  | .dat d, _ => some d
  | .ob (.lst ds), _ => some (.list ds)
  | .ob _, _ => none
  | .own i, e => match e[i]? with
    | some (some (.dat d)) => some d
    | some (some (.ob _ (.lst ds))) => some (.list ds)
    | _ => none
  | .gob n a, e => contG e[n]? a
def contS : Option (Option B) → Option PyData
  | some (some (.dat d)) => some d
  | some (some (.ob _ (.lst ds))) => some (.list ds)
  | _ => none
theorem cont_dat {d : PyData} {e : En} : cont (.dat d) e = some d := rfl
theorem cont_lst {ds : List PyData} {e : En} : cont (.ob (.lst ds)) e = some (.list ds) := rfl
theorem cont_own {i : Nat} {e : En} : cont (.own i) e = contS e[i]? := by
  unfold cont contS
  rfl
theorem cont_gob {n : Nat} {a : Addr} {e : En} : cont (.gob n a) e = contG e[n]? a := rfl
theorem contG_gs {G : Gh} {a : Addr} : contG (some (some (.gs G))) a = contC (G a) := rfl
theorem contC_lst {ds : List PyData} : contC (some (.ob (.lst ds))) = some (.list ds) := rfl
theorem contS_dat {d : PyData} : contS (some (some (.dat d))) = some d := rfl
theorem contS_lst {t : Option Nat} {ds : List PyData} : contS (some (some (.ob t (.lst ds)))) = some (.list ds) := rfl
/-- data, a list's own object perhaps not fixed -/
def Rep (K : PySem.W.Frag) (Hz H : Hp) (v : V) (d : PyData) : Prop := match d with
  | .list ds => ∃ a xs, v = .ref a ∧ SqL K H a xs ∧ DpAll K Hz xs ds
  | d => Dp K Hz v d
theorem rep_dp {K : PySem.W.Frag} {d : PyData} (s : Same Hz H) (h : Dp K Hz v d) : Rep K Hz H v d := by
  cases d with
  | list ds =>
    cases h with
    | lst hs ha => exact ⟨_, _, rfl, sqL s hs, ha⟩
  | _ => exact h
theorem Rep.dp {K : PySem.W.Frag} {d : PyData} (s : Same Hz H) (h : Rep K Hz H v d) : Dp K H v d := by
  cases d with
  | list ds =>
    obtain ⟨a, xs, rfl, h1, h2⟩ := h
    exact .lst h1 (dps_mono s _ _ h2)
  | _ => exact dp_mono s _ _ h
theorem rep_lst {K : PySem.W.Frag} {a : Addr} {ds : List PyData} (h : OkOb K Hz H a (.lst ds)) : Rep K Hz H (.ref a) (.list ds) := by
  obtain ⟨xs, h1, h2⟩ := h
  exact ⟨a, xs, rfl, SqL.of h1, h2⟩
theorem Sy.cont {d : PyData} (y : Sy f (tmp b L) (tmv b v W) e σ Hz H) (hv : Val f b v σ Hz) (h : cont b e = some d) : Rep f.K Hz H v d := by
  cases b with
  | dat d' =>
    cases h
    exact rep_dp y.sm hv
  | ob o =>
    cases o with
    | lst ds =>
      cases h
      obtain ⟨a, ea, h1, _⟩ := Sy.top y
      cases ea
      exact rep_lst h1
    | _ => cases h
  | own i =>
    simp only [DL.cont] at h
    split at h
    · rename_i d' q
      cases h
      obtain ⟨v', e1, e2⟩ := y.get q
      have hv' : σ[i]? = some (some v) := hv
      rw [hv'] at e1
      cases e1
      exact rep_dp y.sm e2
    · rename_i t ds q
      cases h
      obtain ⟨a, e1, e2, _⟩ := y.ob q
      have hv' : σ[i]? = some (some v) := hv
      rw [hv'] at e1
      cases e1
      exact rep_lst e2
    · cases h
  | gob n a =>
    have hv' : v = .ref a := hv
    subst hv'
    rw [cont_gob] at h
    generalize q : e[n]? = x at h
    unfold contG at h
    split at h
    · rename_i G
      generalize q2 : G a = c at h
      unfold contC at h
      split at h
      · cases h
        exact rep_lst (Sy.gget (Sy.un (b := .gob n a) y) q q2).1
      · cases h
    · cases h
end
/-! ### leaves -/
section
variable {f : Fr}
def vrS (i : Nat) (e : En) (P : Vl → En → Prop) : Option (Option B) → Prop
  | some (some (.dat d)) => P (.dat d) e
  | some (some (.ob _ _)) => P (.own i) e
  | _ => False
def wVar (i : Nat) (e : En) (P : Vl → En → Prop) : Prop := vrS i e P e[i]?
theorem vrS_dat {i : Nat} {e : En} {P : Vl → En → Prop} {d : PyData} : vrS i e P (some (some (.dat d))) = P (.dat d) e := rfl
theorem vrS_ob {i : Nat} {e : En} {P : Vl → En → Prop} {t : Option Nat} {o : Ob} : vrS i e P (some (some (.ob t o))) = P (.own i) e := rfl
theorem se_var {i : Nat} : SE f (tVar i) (wVar i) := ⟨fun {L W e σ Hz H Post Q} h y k => by
  unfold wVar at h
  generalize q : e[i]? = x at h
  unfold vrS at h
  split at h
  · obtain ⟨v, e1, e2⟩ := y.get q
    exact ⟨v, e1, k _ _ _ _ _ h same_refl y e2⟩
  · obtain ⟨a, e1, e2, _⟩ := y.ob q
    exact ⟨_, e1, k _ _ _ _ _ h same_refl y e1⟩
  · exact h.elim⟩
def wC (d : PyData) (e : En) (P : Vl → En → Prop) : Prop := P (.dat d) e
theorem se_int {i : Int} : SE f (tC (.int i)) (wC (.int i)) := ⟨fun h y k => k _ _ _ _ _ h same_refl y (Dp.int i)⟩
theorem se_str {x : Str} : SE f (tC (.str x)) (wC (.str x)) := ⟨fun h y k => k _ _ _ _ _ h same_refl y (Dp.str x)⟩
theorem se_bl {b : Bool} : SE f (tC (.bl b)) (wC (.bool b)) := ⟨fun h y k => k _ _ _ _ _ h same_refl y (Dp.bl b)⟩
theorem se_non : SE f (tC .non) (wC .none) := ⟨fun h y k => k _ _ _ _ _ h same_refl y Dp.non⟩
end
/-! ### operations -/
abbrev W2 := PyData → PyData → (Vl → Prop) → Prop
/-- a two-place operation -/
structure SR (f : Fr) (r : R2) (g : W2) : Prop where
  run : ∀ {L W e σ Hz H x y d1 d2 Post Q}, Rep f.K Hz H x d1 → Rep f.K Hz H y d2 → Sy f L W e σ Hz H → g d1 d2 Post →
  (∀ b v Hz' H', Post b → Same Hz Hz' → Sy f (tmp b L) (tmv b v W) e σ Hz' H' → Val f b v σ Hz' → Q v H') → r x y H Q
section
variable {f : Fr} {ta tb tc : TE} {Ea Eb Ec : WE} {r r' : R2} {g g' : W2}
def wOp (g : W2) (Ea Eb : WE) (e : En) (P : Vl → En → Prop) : Prop := Ea e fun b1 e1 => Eb e1 fun b2 e2 => ob1 (cont b1 e2) fun d1 => ob1 (cont b2 e2) fun d2 => g d1 d2 fun b => P b e2
theorem se_op (hr : SR f r g) (ha : SE f ta Ea) (hb : SE f tb Eb) : SE f (tOp r ta tb) (wOp g Ea Eb) := ⟨fun {L W e σ Hz H Post Q} h y k => by
  refine ha.run h y fun b1 e1 v1 Hz1 H1 h1 s1 y1 l1 => ?_
  refine hb.run h1 y1 fun b2 e2 v2 Hz2 H2 h2 s2 y2 l2 => ?_
  obtain ⟨d1, c1, h2⟩ := ob1_ex h2
  obtain ⟨d2, c2, h2⟩ := ob1_ex h2
  exact hr.run (y2.un.cont (l1.mono s2) c1) (y2.cont l2 c2) y2.un.un h2 fun b v Hz' H' h3 s3 y3 l3 => k _ _ _ _ _ h3 (same_trans s1 (same_trans s2 s3)) y3 l3⟩
def vD : V → PyData
  | .non => .none
  | .bl b => .bool b
  | .int i => .int i
  | .str x => .str x
  | _ => .none
def gI (C : Int → Int → Prop) (g : Int → Int → V) (d1 d2 : PyData) (P : Vl → Prop) : Prop := match d1, d2 with
  | .int i, .int j => C i j ∧ P (.dat (vD (g i j)))
  | _, _ => False
def scV : V → Bool
  | .non => true
  | .bl _ => true
  | .int _ => true
  | .str _ => true
  | _ => false
theorem dp_sc {K : PySem.W.Frag} {Hz : Hp} {v : V} (h : scV v = true) : Dp K Hz v (vD v) := by
  cases v with
  | non => exact .non
  | bl b => exact .bl b
  | int i => exact .int i
  | str x => exact .str x
  | _ => cases h
theorem sr_I {C : Int → Int → Prop} {g : Int → Int → V} (hg : ∀ i j, scV (g i j) = true) : SR f (rI C g) (gI C g) := ⟨fun {L W e σ Hz H x y d1 d2 Post Q} r1 r2 s h k => by
  unfold gI at h
  split at h
  · cases r1
    cases r2
    exact ⟨_, _, rfl, rfl, h.1, k _ _ _ _ h.2 same_refl s (dp_sc (hg _ _))⟩
  · exact h.elim⟩
def gI0 (g : Int → Int → V) (d1 d2 : PyData) (P : Vl → Prop) : Prop := match d1, d2 with
  | .int i, .int j => P (.dat (vD (g i j)))
  | _, _ => False
theorem sr_I0 {g : Int → Int → V} (hg : ∀ i j, scV (g i j) = true) : SR f (rI0 g) (gI0 g) := ⟨fun {L W e σ Hz H x y d1 d2 Post Q} r1 r2 s h k => by
  unfold gI0 at h
  split at h
  · cases r1
    cases r2
    exact ⟨_, _, rfl, rfl, k _ _ _ _ h same_refl s (dp_sc (hg _ _))⟩
  · exact h.elim⟩
def gEq (d1 d2 : PyData) (P : Vl → Prop) : Prop := SeqAt.shaped d1 = true ∧ SeqAt.shaped d2 = true ∧ P (.dat (.bool (PyData.eqv d1 d2)))
def gNe (d1 d2 : PyData) (P : Vl → Prop) : Prop := SeqAt.shaped d1 = true ∧ SeqAt.shaped d2 = true ∧ P (.dat (.bool (!PyData.eqv d1 d2)))
theorem sr_eqD : SR f (rEqD f.K) gEq := ⟨fun r1 r2 s h k => ⟨_, _, dp_shaped (r1.dp s.sm) h.1, dp_shaped (r2.dp s.sm) h.2.1, h.1, h.2.1, k _ _ _ _ h.2.2 same_refl s (Dp.bl _)⟩⟩
theorem sr_neD : SR f (rNeD f.K) gNe := ⟨fun r1 r2 s h k => ⟨_, _, dp_shaped (r1.dp s.sm) h.1, dp_shaped (r2.dp s.sm) h.2.1, h.1, h.2.1, k _ _ _ _ h.2.2 same_refl s (Dp.bl _)⟩⟩
/-- in, not in, of a list -/
def gInD (neg : Bool) (d1 d2 : PyData) (P : Vl → Prop) : Prop := match d2 with
  | .list ds => SeqAt.shaped d1 = true ∧ SeqAt.shaped (.list ds) = true ∧ P (.dat (.bool (if neg then !(ds.any fun z => PyData.eqv z d1) else ds.any fun z => PyData.eqv z d1)))
  | _ => False
theorem sr_inD : SR f (rInD f.K) (gInD false) := ⟨fun {L W e σ Hz H x y d1 d2 Post Q} r1 r2 s h k => by
  unfold gInD at h
  split at h
  · exact ⟨_, _, dp_shaped (r1.dp s.sm) h.1, dp_shaped (Rep.dp s.sm r2) h.2.1, h.1, h.2.1, k _ _ _ _ h.2.2 same_refl s (Dp.bl _)⟩
  · exact h.elim⟩
theorem sr_notInD : SR f (rNotInD f.K) (gInD true) := ⟨fun {L W e σ Hz H x y d1 d2 Post Q} r1 r2 s h k => by
  unfold gInD at h
  split at h
  · exact ⟨_, _, dp_shaped (r1.dp s.sm) h.1, dp_shaped (Rep.dp s.sm r2) h.2.1, h.1, h.2.1, k _ _ _ _ h.2.2 same_refl s (Dp.bl _)⟩
  · exact h.elim⟩
/-- flat data: in, not in, of a list or a tuple of such -/
def flatD : PyData → Bool
  | .none | .bool _ | .int _ | .str _ => true
  | _ => false
def dV : PyData → V
  | .none => .non
  | .bool b => .bl b
  | .int i => .int i
  | .str x => .str x
  | _ => .non
theorem flat_dp {K : PySem.W.Frag} {Hz : Hp} {v : V} {d : PyData} (h : Dp K Hz v d) (hf : flatD d = true) : v = dV d ∧ flatV v = true := by
  cases h with
  | non => exact ⟨rfl, rfl⟩
  | bl b => exact ⟨rfl, rfl⟩
  | int i => exact ⟨rfl, rfl⟩
  | str x => exact ⟨rfl, rfl⟩
  | _ => cases hf
theorem flat_dps {K : PySem.W.Frag} {Hz : Hp} : ∀ {ds : List PyData} {vs : List V}, DpAll K Hz vs ds → ds.all flatD = true → vs = ds.map dV ∧ vs.all flatV = true
  | [], _, .nil, _ => ⟨rfl, rfl⟩
  | d :: ds, _, .cons h1 h2, hf => by
    rw [List.all_cons, Bool.and_eq_true] at hf
    obtain ⟨e1, f1⟩ := flat_dp h1 hf.1
    obtain ⟨e2, f2⟩ := flat_dps h2 hf.2
    exact ⟨by rw [e1, e2]; rfl, by rw [List.all_cons, f1, f2]; rfl⟩
def gIn (neg : Bool) (d1 d2 : PyData) (P : Vl → Prop) : Prop := match d2 with
  | .list ds => flatD d1 = true ∧ ds.all flatD = true ∧ P (.dat (.bool (if neg then !inV (dV d1) (ds.map dV) else inV (dV d1) (ds.map dV))))
  | .tuple ds => flatD d1 = true ∧ ds.all flatD = true ∧ P (.dat (.bool (if neg then !inV (dV d1) (ds.map dV) else inV (dV d1) (ds.map dV))))
  | _ => False
theorem rep_flat {K : PySem.W.Frag} {Hz H : Hp} {v : V} {d : PyData} (h : Rep K Hz H v d) (hf : flatD d = true) : Dp K Hz v d := by
  cases d with
  | list ds => cases hf
  | _ => exact h
theorem sr_in {neg : Bool} : SR f (rIn f.K neg) (gIn neg) := ⟨fun {L W e σ Hz H x y d1 d2 Post Q} r1 r2 s h k => by
  unfold gIn at h
  split at h
  · obtain ⟨h1, h2, h3⟩ := h
    obtain ⟨a, xs, rfl, q1, q2⟩ := r2
    obtain ⟨e1, f1⟩ := flat_dp (rep_flat r1 h1) h1
    obtain ⟨e2, f2⟩ := flat_dps q2 h2
    subst e1 e2
    exact ⟨a, _, rfl, .inl q1, f1, f2, k _ _ _ _ h3 same_refl s (Dp.bl _)⟩
  · obtain ⟨h1, h2, h3⟩ := h
    obtain ⟨a, xs, rfl, q1, q2⟩ := dp_tup r2
    obtain ⟨e1, f1⟩ := flat_dp (rep_flat r1 h1) h1
    obtain ⟨e2, f2⟩ := flat_dps q2 h2
    subst e1 e2
    exact ⟨a, _, rfl, .inr (sqT s.sm q1), f1, f2, k _ _ _ _ h3 same_refl s (Dp.bl _)⟩
  · exact h.elim⟩
/-- xs[i] -/
theorem dps_atI {K : PySem.W.Frag} {Hz : Hp} {ds : List PyData} {xs : List V} {i : Int} {d : PyData} (h : DpAll K Hz xs ds) (e : atI ds i = some d) : ∃ x, atI xs i = some x ∧ Dp K Hz x d := by
  unfold atI at e ⊢
  rw [← dps_len h] at e
  cases c : ixN xs.length i with
  | none => rw [c] at e; cases e
  | some j =>
    rw [c] at e
    exact dps_get h j d e
def gIx (d1 d2 : PyData) (P : Vl → Prop) : Prop := match d1, d2 with
  | .list ds, .int i => ob1 (atI ds i) fun d => P (.dat d)
  | .tuple ds, .int i => ob1 (atI ds i) fun d => P (.dat d)
  | _, _ => False
def gIxL (d1 d2 : PyData) (P : Vl → Prop) : Prop := match d1, d2 with
  | .list ds, .int i => ob1 (atI ds i) fun d => P (.dat d)
  | _, _ => False
def gIxT (d1 d2 : PyData) (P : Vl → Prop) : Prop := match d1, d2 with
  | .tuple ds, .int i => ob1 (atI ds i) fun d => P (.dat d)
  | _, _ => False
theorem sr_ixL : SR f (rIxL f.K) gIxL := ⟨fun {L W e σ Hz H x y d1 d2 Post Q} r1 r2 s h k => by
  unfold gIxL at h
  split at h
  · obtain ⟨d, c, h⟩ := ob1_ex h
    obtain ⟨a, xs, rfl, q1, q2⟩ := r1
    cases r2
    obtain ⟨x, e1, e2⟩ := dps_atI q2 c
    exact ⟨a, xs, _, x, rfl, rfl, q1, e1, k _ _ _ _ h same_refl s e2⟩
  · exact h.elim⟩
theorem sr_ixT : SR f (rIxT f.K) gIxT := ⟨fun {L W e σ Hz H x y d1 d2 Post Q} r1 r2 s h k => by
  unfold gIxT at h
  split at h
  · obtain ⟨d, c, h⟩ := ob1_ex h
    obtain ⟨a, xs, rfl, q1, q2⟩ := dp_tup r1
    cases r2
    obtain ⟨x, e1, e2⟩ := dps_atI q2 c
    exact ⟨a, xs, _, x, rfl, rfl, sqT s.sm q1, e1, k _ _ _ _ h same_refl s e2⟩
  · exact h.elim⟩
theorem sr_ix : SR f (rIx f.K) gIx := ⟨fun {L W e σ Hz H x y d1 d2 Post Q} r1 r2 s h k => by
  unfold gIx at h
  split at h
  · exact .inl (sr_ixL.run r1 r2 s h k)
  · exact .inr (.inl (sr_ixT.run r1 r2 s h k))
  · exact h.elim⟩
def gIxS (d1 d2 : PyData) (P : Vl → Prop) : Prop := match d1, d2 with
  | .str z, .int i => z.length ≤ sizeLine ∧ ob1 (atI z.cps.toList i) fun c => P (.dat (.str ⟨#[c]⟩))
  | _, _ => False
theorem sr_ixS : SR f rIxS gIxS := ⟨fun {L W e σ Hz H x y d1 d2 Post Q} r1 r2 s h k => by
  unfold gIxS at h
  split at h
  · obtain ⟨h1, h⟩ := h
    obtain ⟨d, c, h⟩ := ob1_ex h
    cases r1
    cases r2
    exact ⟨_, _, _, rfl, rfl, h1, c, k _ _ _ _ h same_refl s (Dp.str _)⟩
  · exact h.elim⟩
/-- is None -/
def isNone : PyData → Bool
  | .none => true
  | _ => false
theorem rep_none {K : PySem.W.Frag} {Hz H : Hp} {v : V} {d : PyData} (h : Rep K Hz H v d) : decide (v = .non) = isNone d := by
  cases d with
  | list ds => obtain ⟨a, xs, rfl, _⟩ := h; rfl
  | none => cases h; rfl
  | bool b => cases h; rfl
  | int b => cases h; rfl
  | str b => cases h; rfl
  | tuple ds => obtain ⟨a, xs, rfl, _⟩ := dp_tup h; rfl
  | dict ds =>
    have h' : Dp K Hz v (.dict ds) := h
    generalize e : PyData.dict ds = d at h'
    cases h' with
    | ptr a => cases e; rfl
    | dic q => cases e; rfl
    | _ => cases e
def gIsN (neg : Bool) (d1 d2 : PyData) (P : Vl → Prop) : Prop := match d2 with
  | .none => P (.dat (.bool (if neg then !isNone d1 else isNone d1)))
  | _ => False
theorem sr_isN : SR f (fun x y H Q => y = .non ∧ Q (.bl (decide (x = .non))) H) (gIsN false) := ⟨fun {L W e σ Hz H x y d1 d2 Post Q} r1 r2 s h k => by
  unfold gIsN at h
  split at h
  · cases r2
    rw [rep_none r1]
    exact ⟨rfl, k _ _ _ _ h same_refl s (Dp.bl _)⟩
  · exact h.elim⟩
theorem sr_notN : SR f (fun x y H Q => y = .non ∧ Q (.bl (!decide (x = .non))) H) (gIsN true) := ⟨fun {L W e σ Hz H x y d1 d2 Post Q} r1 r2 s h k => by
  unfold gIsN at h
  split at h
  · cases r2
    rw [rep_none r1]
    exact ⟨rfl, k _ _ _ _ h same_refl s (Dp.bl _)⟩
  · exact h.elim⟩
/-- sums of lists, of tuples -/
def gCat (d1 d2 : PyData) (P : Vl → Prop) : Prop := match d1, d2 with
  | .list ds, .list es => ds.length + es.length ≤ sizeLine ∧ P (.ob (.lst (ds ++ es)))
  | _, _ => False
def gCatT (d1 d2 : PyData) (P : Vl → Prop) : Prop := match d1, d2 with
  | .tuple ds, .tuple es => ds.length + es.length ≤ sizeLine ∧ P (.dat (.tuple (ds ++ es)))
  | _, _ => False
theorem sr_catA : SR f (rCatA f.K) gCatT := ⟨fun {L W e σ Hz H x y d1 d2 Post Q} r1 r2 s h k => by
  unfold gCatT at h
  split at h
  · obtain ⟨a, xs, rfl, q1, q2⟩ := dp_tup r1
    obtain ⟨b, ys, rfl, q3, q4⟩ := dp_tup r2
    have hd := dps_app q2 q4
    refine ⟨a, b, xs, ys, rfl, rfl, sqT s.sm q1, sqT s.sm q3, by rw [dps_len q2, dps_len q4]; exact h.1, fun e => ?_, fun _ e => ?_, fun _ _ p hp => ?_⟩
    · subst e
      exact k _ _ _ _ h.2 same_refl s (Dp.tup q3 hd)
    · subst e
      rw [List.append_nil] at hd
      exact k _ _ _ _ h.2 same_refl s (Dp.tup q1 hd)
    · have s1 := same_new (s.hz hp) (.tup (xs ++ ys))
      exact k _ _ _ _ h.2 s1 (s.newT hp) (Dp.tup (SqT.of upd_same) (dps_mono s1 _ _ hd))
  · exact h.elim⟩
/-- r on lists both of which are tracked: + -/
theorem rep_trk {K : PySem.W.Frag} {Hz H : Hp} {v : V} {ds : List PyData} (h : Rep K Hz H v (.list ds)) : ∃ a xs, v = .ref a ∧ SqL K H a xs ∧ DpAll K Hz xs ds := h
end
/-! ### tests -/
section
variable {f : Fr} {t u : TT} {ta tb tc : TE} {T U : WT} {Ea Eb Ec : WE} {r r' : R2} {g g' : W2}
def bK (P : Bool → En → Prop) (b : Vl) (e1 : En) : Prop := match b with
  | .dat (.bool c) => P c e1
  | _ => False
theorem bK_bool {P : Bool → En → Prop} {c : Bool} {e1 : En} : bK P (.dat (.bool c)) e1 = P c e1 := rfl
def wB (E : WE) (e : En) (P : Bool → En → Prop) : Prop := E e (bK P)
theorem val_bool {f : Fr} {v : V} {σ : St} {Hz : Hp} {c : Bool} (h : Val f (.dat (.bool c)) v σ Hz) : v = .bl c := by
  cases h
  rfl
theorem st_B (h : SE f ta Ea) : ST f (tB ta) (wB Ea) := ⟨fun {L W e σ Hz H Post Q} w y k => h.run w y fun b e1 v Hz1 H1 h1 s1 y1 l1 => by
  try unfold bK at h1
  split at h1
  · obtain rfl := val_bool l1
    exact ⟨_, rfl, k _ _ _ _ h1 s1 y1⟩
  · exact h1.elim⟩
theorem st_test (h : SE f ta Ea) : ST f (tTest ta) (wB Ea) := ⟨fun {L W e σ Hz H Post Q} w y k => h.run w y fun b e1 v Hz1 H1 h1 s1 y1 l1 => by
  try unfold bK at h1
  split at h1
  · obtain rfl := val_bool l1
    exact ⟨_, rfl, k _ _ _ _ h1 s1 y1⟩
  · exact h1.elim⟩
def wAnd (T U : WT) (e : En) (P : Bool → En → Prop) : Prop := T e fun c e1 => if c = true then U e1 P else P false e1
def wOr (T U : WT) (e : En) (P : Bool → En → Prop) : Prop := T e fun c e1 => if c = true then P true e1 else U e1 P
def wNot (T : WT) (e : En) (P : Bool → En → Prop) : Prop := T e fun c e1 => P (!c) e1
theorem st_and (h1 : ST f t T) (h2 : ST f u U) : ST f (tAnd t u) (wAnd T U) := ⟨fun {L W e σ Hz H Post Q} w y k => h1.run w y fun b e1 Hz1 H1 w1 s1 y1 => by
  by_cases c : b = true
  · rw [if_pos c] at w1 ⊢
    exact h2.run w1 y1 fun b2 e2 Hz2 H2 w2 s2 y2 => k _ _ _ _ w2 (same_trans s1 s2) y2
  · rw [if_neg c] at w1 ⊢
    exact k _ _ _ _ w1 s1 y1⟩
theorem st_or (h1 : ST f t T) (h2 : ST f u U) : ST f (tOr t u) (wOr T U) := ⟨fun {L W e σ Hz H Post Q} w y k => h1.run w y fun b e1 Hz1 H1 w1 s1 y1 => by
  by_cases c : b = true
  · rw [if_pos c] at w1 ⊢
    exact k _ _ _ _ w1 s1 y1
  · rw [if_neg c] at w1 ⊢
    exact h2.run w1 y1 fun b2 e2 Hz2 H2 w2 s2 y2 => k _ _ _ _ w2 (same_trans s1 s2) y2⟩
theorem st_not (h1 : ST f t T) : ST f (tNot t) (wNot T) := ⟨fun {L W e σ Hz H Post Q} w y k => h1.run w y fun b e1 Hz1 H1 w1 s1 y1 => k _ _ _ _ w1 s1 y1⟩
def wYes (e : En) (P : Bool → En → Prop) : Prop := P true e
theorem st_yes : ST f tYes wYes := ⟨fun {L W e σ Hz H Post Q} w y k => k _ _ _ _ w same_refl y⟩
/-- truth of any value -/
def truD : PyData → Option Bool
  | .none => some false
  | .bool b => some b
  | .int i => some (i != 0)
  | .list ds => some (!ds.isEmpty)
  | .tuple ds => some (!ds.isEmpty)
  | _ => none
theorem tru_rep {K : PySem.W.Frag} {Hz H : Hp} {v : V} {d : PyData} {k : Bool} (s : Same Hz H) (h : Rep K Hz H v d) (e : truD d = some k) : TruV K v H k := by
  cases d with
  | none => cases h; cases e; rfl
  | bool b => cases h; cases e; rfl
  | int i => cases h; cases e; rfl
  | str x => cases e
  | dict _ => cases e
  | list ds =>
    obtain ⟨a, xs, rfl, h1, h2⟩ := h
    refine .inl ⟨xs, h1, ?_⟩
    cases e
    cases h2 <;> rfl
  | tuple ds =>
    obtain ⟨a, xs, rfl, h1, h2⟩ := dp_tup h
    refine .inr (.inl ⟨xs, sqT s h1, ?_⟩)
    cases e
    cases h2 <;> rfl
def wTru (E : WE) (e : En) (P : Bool → En → Prop) : Prop := E e fun b e1 => ob1 (cont b e1) fun d => ob1 (truD d) fun c => P c e1
theorem st_tru (h : SE f ta Ea) : ST f (fun σ H Q => ta σ H fun x H' => ∃ k, TruV f.K x H' k ∧ Q k H') (wTru Ea) := ⟨fun {L W e σ Hz H Post Q} w y k => h.run w y fun b e1 v Hz1 H1 h1 s1 y1 l1 => by
  obtain ⟨d, c1, h1⟩ := ob1_ex h1
  obtain ⟨c, c2, h1⟩ := ob1_ex h1
  exact ⟨c, tru_rep y1.sm (y1.cont l1 c1) c2, k _ _ _ _ h1 s1 y1.un⟩⟩
def wNotT (E : WE) (e : En) (P : Vl → En → Prop) : Prop := wTru E e fun c e1 => P (.dat (.bool (!c))) e1
theorem se_notT (h : SE f ta Ea) : SE f (tNotT f.K ta) (wNotT Ea) := ⟨fun {L W e σ Hz H Post Q} w y k => h.run w y fun b e1 v Hz1 H1 h1 s1 y1 l1 => by
  obtain ⟨d, c1, h1⟩ := ob1_ex h1
  obtain ⟨c, c2, h1⟩ := ob1_ex h1
  exact ⟨c, tru_rep y1.sm (y1.cont l1 c1) c2, k _ _ _ _ _ h1 s1 y1.un (Dp.bl _)⟩⟩
/-- and, or, not of bools as values -/
def wAndV (Ea Eb : WE) (e : En) (P : Vl → En → Prop) : Prop := wB Ea e fun c e1 => if c = true then Eb e1 P else P (.dat (.bool false)) e1
def wOrV (Ea Eb : WE) (e : En) (P : Vl → En → Prop) : Prop := wB Ea e fun c e1 => if c = true then P (.dat (.bool true)) e1 else Eb e1 P
theorem se_andV (ha : SE f ta Ea) (hb : SE f tb Eb) : SE f (tAndV ta tb) (wAndV Ea Eb) := ⟨fun {L W e σ Hz H Post Q} w y k => ha.run w y fun b e1 v Hz1 H1 h1 s1 y1 l1 => by
  try unfold bK at h1
  split at h1
  · obtain rfl := val_bool l1
    refine ⟨_, rfl, ?_⟩
    rename_i c
    by_cases c1 : c = true
    · rw [if_pos c1] at h1 ⊢
      exact hb.run h1 y1 fun b2 e2 v2 Hz2 H2 h2 s2 y2 l2 => k _ _ _ _ _ h2 (same_trans s1 s2) y2 l2
    · rw [if_neg c1] at h1 ⊢
      exact k _ _ _ _ _ h1 s1 y1 (Dp.bl _)
  · exact h1.elim⟩
theorem se_orV (ha : SE f ta Ea) (hb : SE f tb Eb) : SE f (tOrV ta tb) (wOrV Ea Eb) := ⟨fun {L W e σ Hz H Post Q} w y k => ha.run w y fun b e1 v Hz1 H1 h1 s1 y1 l1 => by
  try unfold bK at h1
  split at h1
  · obtain rfl := val_bool l1
    refine ⟨_, rfl, ?_⟩
    rename_i c
    by_cases c1 : c = true
    · rw [if_pos c1] at h1 ⊢
      exact k _ _ _ _ _ h1 s1 y1 (Dp.bl _)
    · rw [if_neg c1] at h1 ⊢
      exact hb.run h1 y1 fun b2 e2 v2 Hz2 H2 h2 s2 y2 l2 => k _ _ _ _ _ h2 (same_trans s1 s2) y2 l2
  · exact h1.elim⟩
def wNotV (E : WE) (e : En) (P : Vl → En → Prop) : Prop := wB E e fun c e1 => P (.dat (.bool (!c))) e1
theorem se_notV (ha : SE f ta Ea) : SE f (tNotV ta) (wNotV Ea) := ⟨fun {L W e σ Hz H Post Q} w y k => ha.run w y fun b e1 v Hz1 H1 h1 s1 y1 l1 => by
  try unfold bK at h1
  split at h1
  · obtain rfl := val_bool l1
    exact ⟨_, rfl, k _ _ _ _ _ h1 s1 y1 (Dp.bl _)⟩
  · exact h1.elim⟩
def wIf (T : WT) (Ea Eb : WE) (e : En) (P : Vl → En → Prop) : Prop := T e fun c e1 => if c = true then Ea e1 P else Eb e1 P
theorem se_if (ht : ST f t T) (ha : SE f ta Ea) (hb : SE f tb Eb) : SE f (tIf t ta tb) (wIf T Ea Eb) := ⟨fun {L W e σ Hz H Post Q} w y k => ht.run w y fun b e1 Hz1 H1 h1 s1 y1 => by
  by_cases c : b = true
  · rw [if_pos c] at h1 ⊢
    exact ha.run h1 y1 fun b2 e2 v2 Hz2 H2 h2 s2 y2 l2 => k _ _ _ _ _ h2 (same_trans s1 s2) y2 l2
  · rw [if_neg c] at h1 ⊢
    exact hb.run h1 y1 fun b2 e2 v2 Hz2 H2 h2 s2 y2 l2 => k _ _ _ _ _ h2 (same_trans s1 s2) y2 l2⟩
/-- a op b op c -/
def chK (A B : Prop) : Vl → Prop
  | .dat (.bool c) => if c = true then A else B
  | _ => False
theorem chK_bool {A B : Prop} {c : Bool} : chK A B (.dat (.bool c)) = if c = true then A else B := rfl
def wChain (g g' : W2) (Ea Eb Ec : WE) (e : En) (P : Vl → En → Prop) : Prop := Ea e fun b1 e1 => Eb e1 fun b2 e2 => ob1 (cont b1 e2) fun d1 => ob1 (cont b2 e2) fun d2 => g d1 d2 (chK (Ec e2 fun b3 e3 => ob1 (cont b2 e3) fun d2 => ob1 (cont b3 e3) fun d3 => g' d2 d3 fun b => P b e3) (P (.dat (.bool false)) e2))
theorem se_chain (hr : SR f r g) (hr' : SR f r' g') (ha : SE f ta Ea) (hb : SE f tb Eb) (hc : SE f tc Ec) : SE f (tChain r r' ta tb tc) (wChain g g' Ea Eb Ec) := ⟨fun {L W e σ Hz H Post Q} h y k => by
  refine ha.run h y fun b1 e1 v1 Hz1 H1 h1 s1 y1 l1 => ?_
  refine hb.run h1 y1 fun b2 e2 v2 Hz2 H2 h2 s2 y2 l2 => ?_
  obtain ⟨d1, c1, h2⟩ := ob1_ex h2
  obtain ⟨d2, c2, h2⟩ := ob1_ex h2
  refine hr.run (y2.un.cont (l1.mono s2) c1) (y2.cont l2 c2) y2 h2 fun b v Hz3 H3 h3 s3 y3 l3 => ?_
  unfold chK at h3
  split at h3
  · rename_i c
    obtain rfl := val_bool l3
    cases c
    · refine ⟨false, rfl, ?_⟩
      rw [if_neg (by decide)] at h3 ⊢
      exact k _ _ _ _ _ h3 (same_trans s1 (same_trans s2 s3)) (Sy.un (b := b1) (Sy.un (b := b2) y3)) (Dp.bl _)
    refine ⟨true, rfl, ?_⟩
    rw [if_pos rfl] at h3 ⊢
    refine hc.run h3 y3 fun b4 e4 v4 Hz4 H4 h4 s4 y4 l4 => ?_
    obtain ⟨d2', c2', h4⟩ := ob1_ex h4
    obtain ⟨d4, c4, h4⟩ := ob1_ex h4
    exact hr'.run ((Sy.un (b := b4) y4).cont (b := b2) (l2.mono (same_trans s3 s4)) c2') (y4.cont l4 c4) (Sy.un (b := b1) (Sy.un (b := b2) (Sy.un (b := b4) y4))) h4 fun b v Hz' H' h5 s5 y5 l5 => k _ _ _ _ _ h5 (same_trans s1 (same_trans s2 (same_trans s3 (same_trans s4 s5)))) y5 l5
  · exact h3.elim⟩
def unK (g : Int → V) (P : Vl → En → Prop) (b : Vl) (e1 : En) : Prop := match b with
  | .dat (.int i) => P (.dat (vD (g i))) e1
  | _ => False
theorem unK_int {g : Int → V} {P : Vl → En → Prop} {i : Int} {e1 : En} : unK g P (.dat (.int i)) e1 = P (.dat (vD (g i))) e1 := rfl
def wUn (g : Int → V) (E : WE) (e : En) (P : Vl → En → Prop) : Prop := E e (unK g P)
theorem se_un {g : Int → V} (hg : ∀ i, scV (g i) = true) (ha : SE f ta Ea) : SE f (tUn (rU g) ta) (wUn g Ea) := ⟨fun {L W e σ Hz H Post Q} w y k => ha.run w y fun b e1 v Hz1 H1 h1 s1 y1 l1 => by
  unfold unK at h1
  split at h1
  · cases l1
    exact ⟨_, rfl, k _ _ _ _ _ h1 s1 y1 (dp_sc (hg _))⟩
  · exact h1.elim⟩
end
end DL


set_option Elab.async false
set_option linter.all false
set_option maxRecDepth 100000
set_option maxHeartbeats 4000000
/-! Argument lists, displays, calls of built-ins, stores, statements, loops over the layer of values. -/
namespace DL
open PySem L2 TG
section
variable {f : Fr} {L e : En} {W σ : St} {Hz H : Hp}
theorem set_self_some {α : Type} {l : List α} {i : Nat} {x : α} (h : l[i]? = some x) : l.set i x = l := by
  apply List.ext_getElem?
  intro n
  by_cases hn : i = n
  · subst hn
    rw [List.getElem?_set_self (List.getElem?_eq_some_iff.mp h).1, h]
  · rw [List.getElem?_set_ne hn]
/-- the list of a slot is fixed -/
theorem Sy.frzS {i : Nat} {v : V} {ds : List PyData} (y : Sy f L W e σ Hz H) (q : e[i]? = some (some (.ob none (.lst ds)))) (ev : σ[i]? = some (some v)) :
    ∃ Hz', Sy f L W (e.set i (some (.dat (.list ds)))) σ Hz' H ∧ Same Hz Hz' ∧ Dp f.K Hz' v (.list ds) := by
  obtain ⟨Hz', y1, s1, d1⟩ := (y.mv q ev).frz
  have y2 := y1.setD (i := i) d1 (by rw [← y.ln]; exact (List.getElem?_eq_some_iff.mp ev).1)
  rw [List.set_set, set_self_some ev] at y2
  exact ⟨Hz', y2, s1, d1⟩
end
/-- a value as fixed data -/
def fzS (P : PyData → En → Prop) (i : Nat) (e1 : En) : Option (Option B) → Prop
  | some (some (.dat d)) => P d e1
  | some (some (.ob none (.lst ds))) => P (.list ds) (e1.set i (some (.dat (.list ds))))
  | _ => False
def fzK (P : PyData → En → Prop) (b : Vl) (e1 : En) : Prop := match b with
  | .dat d => P d e1
  | .ob (.lst ds) => P (.list ds) e1
  | .own i => fzS P i e1 e1[i]?
  | _ => False
def wFz (E : WE) (e : En) (P : PyData → En → Prop) : Prop := E e (fzK P)
section
variable {P : PyData → En → Prop} {e1 : En}
theorem fzK_dat {d : PyData} : fzK P (.dat d) e1 = P d e1 := rfl
theorem fzK_lst {ds : List PyData} : fzK P (.ob (.lst ds)) e1 = P (.list ds) e1 := rfl
theorem fzK_own {i : Nat} : fzK P (.own i) e1 = fzS P i e1 e1[i]? := rfl
theorem fzS_dat {i : Nat} {d : PyData} : fzS P i e1 (some (some (.dat d))) = P d e1 := rfl
theorem fzS_lst {i : Nat} {ds : List PyData} : fzS P i e1 (some (some (.ob none (.lst ds)))) = P (.list ds) (e1.set i (some (.dat (.list ds)))) := rfl
end
section
variable {f : Fr} {ta tb te : TE} {Ea Eb E : WE}
theorem fz_run (h : SE f te E) {L W e σ Hz H Post Q} (w : wFz E e Post) (y : Sy f L W e σ Hz H) (k : ∀ d e' v Hz' H', Post d e' → Same Hz Hz' → Sy f L W e' σ Hz' H' → Dp f.K Hz' v d → Q v H') : te σ H Q := by
  refine h.run w y fun b e1 v Hz1 H1 h1 s1 y1 l1 => ?_
  cases b with
  | dat d => exact k _ _ _ _ _ h1 s1 y1 l1
  | ob o =>
    cases o with
    | lst ds =>
      obtain ⟨Hz2, y2, s2, d2⟩ := Sy.frz y1
      exact k _ _ _ _ _ h1 (same_trans s1 s2) y2 d2
    | _ => exact h1.elim
  | own i =>
    rw [fzK_own] at h1
    generalize q : e1[i]? = x at h1
    unfold fzS at h1
    split at h1
    · obtain ⟨v', e1', e2⟩ := Sy.get (L := L) (W := W) y1 q
      have hv' : σ[i]? = some (some v) := l1
      rw [hv'] at e1'
      cases e1'
      exact k _ _ _ _ _ h1 s1 y1 e2
    · obtain ⟨Hz2, y2, s2, d2⟩ := Sy.frzS (L := L) (W := W) y1 q l1
      exact k _ _ _ _ _ h1 (same_trans s1 s2) y2 d2
    · exact h1.elim
  | gob n a => exact h1.elim
def wNil (e : En) (P : List PyData → En → Prop) : Prop := P [] e
def wCons (E : WE) (A : WA) (e : En) (P : List PyData → En → Prop) : Prop := wFz E e fun d e1 => A e1 fun ds e2 => P (d :: ds) e2
theorem sa_nil : SA f tNil wNil := ⟨fun {L W e σ Hz H Post Q} w y k => k _ _ _ _ _ w same_refl y .nil⟩
theorem sa_cons {tr : TA} {A : WA} (h : SE f te E) (hr : SA f tr A) : SA f (tCons te tr) (wCons E A) := ⟨fun {L W e σ Hz H Post Q} w y k => fz_run h w y fun d e1 v Hz1 H1 h1 s1 y1 d1 =>
  hr.run h1 y1 fun ds e2 vs Hz2 H2 h2 s2 y2 d2 => k _ _ _ _ _ h2 (same_trans s1 s2) y2 (.cons (dp_mono s2 _ _ d1) d2)⟩
/-- *xs -/
def wStar (E : WE) (A : WA) (e : En) (P : List PyData → En → Prop) : Prop := wFz E e fun d e1 => match d with
  | .list es => A e1 fun ds e2 => P (es ++ ds) e2
  | .tuple es => A e1 fun ds e2 => P (es ++ ds) e2
  | _ => False
theorem sa_star {tr : TA} {A : WA} (h : SE f te E) (hr : SA f tr A) : SA f (StX.tStar f.K te tr) (wStar E A) := ⟨fun {L W e σ Hz H Post Q} w y k => fz_run h w y fun d e1 v Hz1 H1 h1 s1 y1 d1 => by
  split at h1
  · cases d1 with
    | lst q1 q2 => exact ⟨_, _, rfl, .inr (sqL y1.sm q1), hr.run h1 y1 fun ds e2 vs Hz2 H2 h2 s2 y2 d2 => k _ _ _ _ _ h2 (same_trans s1 s2) y2 (dps_app (dps_mono s2 _ _ q2) d2)⟩
  · cases d1 with
    | tup q1 q2 => exact ⟨_, _, rfl, .inl (sqT y1.sm q1), hr.run h1 y1 fun ds e2 vs Hz2 H2 h2 s2 y2 d2 => k _ _ _ _ _ h2 (same_trans s1 s2) y2 (dps_app (dps_mono s2 _ _ q2) d2)⟩
  · exact h1.elim⟩
def wTup (A : WA) (e : En) (P : Vl → En → Prop) : Prop := A e fun ds e1 => ds.length ≤ 100000 ∧ P (.dat (.tuple ds)) e1
def wLst (A : WA) (e : En) (P : Vl → En → Prop) : Prop := A e fun ds e1 => ds.length ≤ 100000 ∧ P (.ob (.lst ds)) e1
theorem se_tup {ta : TA} {A : WA} (h : SA f ta A) : SE f (tTup ta) (wTup A) := ⟨fun {L W e σ Hz H Post Q} w y k => h.run w y fun ds e1 vs Hz1 H1 h1 s1 y1 d1 => ⟨Evl.sz_of (by rw [dps_len d1]; exact h1.1), fun p hp => by
  have s2 := same_new (y1.hz hp) (.tup vs)
  exact k _ _ _ _ _ h1.2 (same_trans s1 s2) (y1.newT hp) (Dp.tup (SqT.of upd_same) (dps_mono s2 _ _ d1))⟩⟩
theorem se_lst {ta : TA} {A : WA} (h : SA f ta A) : SE f (tLst ta) (wLst A) := ⟨fun {L W e σ Hz H Post Q} w y k => h.run w y fun ds e1 vs Hz1 H1 h1 s1 y1 d1 => ⟨Evl.sz_of (by rw [dps_len d1]; exact h1.1), fun p hp =>
  k _ _ _ _ _ h1.2 s1 (y1.newO (o := .lst ds) hp ⟨vs, upd_same, d1⟩) trivial⟩⟩
/-! ### calls of built-ins of one argument -/
abbrev W1 := PyData → (Vl → Prop) → Prop
structure SC (f : Fr) (r : List V → Hp → VK → Prop) (g : W1) : Prop where
  run : ∀ {L W e σ Hz H x d Post Q}, Rep f.K Hz H x d → Sy f L W e σ Hz H → g d Post →
  (∀ b v Hz' H', Post b → Same Hz Hz' → Sy f (tmp b L) (tmv b v W) e σ Hz' H' → Val f b v σ Hz' → Q v H') → r [x] H Q
def wC1 (g : W1) (E : WE) (e : En) (P : Vl → En → Prop) : Prop := E e fun b e1 => ob1 (cont b e1) fun d => g d fun b => P b e1
theorem se_cb1 {r : List V → Hp → VK → Prop} {g : W1} (hr : SC f r g) (h : SE f te E) : SE f (tCB r (tCons te tNil)) (wC1 g E) := ⟨fun {L W e σ Hz H Post Q} w y k => h.run w y fun b e1 v Hz1 H1 h1 s1 y1 l1 => by
  obtain ⟨d, c, h1⟩ := ob1_ex h1
  exact hr.run (y1.cont l1 c) y1.un h1 fun b v Hz' H' h2 s2 y2 l2 => k _ _ _ _ _ h2 (same_trans s1 s2) y2 l2⟩
theorem rep_tup {K : PySem.W.Frag} {Hz H : Hp} {v : V} {ds : List PyData} (s : Same Hz H) (h : Rep K Hz H v (.tuple ds)) : ∃ a xs, v = .ref a ∧ SqT K H a xs ∧ DpAll K Hz xs ds := by
  obtain ⟨a, xs, rfl, q1, q2⟩ := dp_tup h
  exact ⟨a, xs, rfl, sqT s q1, q2⟩
def gLen (d : PyData) (P : Vl → Prop) : Prop := match d with
  | .list ds => P (.dat (.int ds.length))
  | .tuple ds => P (.dat (.int ds.length))
  | _ => False
theorem sc_len : SC f (rLenQ f.K) gLen := ⟨fun {L W e σ Hz H x d Post Q} r s h k => by
  unfold gLen at h
  split at h
  · obtain ⟨a, xs, rfl, q1, q2⟩ := r
    refine ⟨a, xs, rfl, .inl q1, ?_⟩
    rw [dps_len q2]
    exact k _ _ _ _ h same_refl s (Dp.int _)
  · obtain ⟨a, xs, rfl, q1, q2⟩ := rep_tup s.sm r
    refine ⟨a, xs, rfl, .inr q1, ?_⟩
    rw [dps_len q2]
    exact k _ _ _ _ h same_refl s (Dp.int _)
  · exact h.elim⟩
def gTupOf (d : PyData) (P : Vl → Prop) : Prop := match d with
  | .list ds => P (.dat (.tuple ds))
  | .tuple ds => P (.dat (.tuple ds))
  | _ => False
theorem sc_tupOf : SC f (rTupOf f.K) gTupOf := ⟨fun {L W e σ Hz H x d Post Q} r s h k => by
  unfold gTupOf at h
  split at h
  · obtain ⟨a, xs, rfl, q1, q2⟩ := r
    refine ⟨a, xs, rfl, .inl ⟨q1, fun p hp => ?_⟩⟩
    have s2 := same_new (s.hz hp) (.tup xs)
    exact k _ _ _ _ h s2 (s.newT hp) (Dp.tup (SqT.of upd_same) (dps_mono s2 _ _ q2))
  · obtain ⟨a, xs, rfl, q1, q2⟩ := dp_tup r
    exact ⟨a, xs, rfl, .inr ⟨sqT s.sm q1, k _ _ _ _ h same_refl s (Dp.tup q1 q2)⟩⟩
  · exact h.elim⟩
def gListOf (d : PyData) (P : Vl → Prop) : Prop := match d with
  | .list ds => P (.ob (.lst ds))
  | .tuple ds => P (.ob (.lst ds))
  | _ => False
theorem sc_listOf : SC f (rListOf f.K) gListOf := ⟨fun {L W e σ Hz H x d Post Q} r s h k => by
  unfold gListOf at h
  split at h
  · obtain ⟨a, xs, rfl, q1, q2⟩ := r
    exact ⟨a, xs, rfl, .inl q1, fun p hp => k _ _ _ _ h same_refl (s.newO (o := .lst _) hp ⟨xs, upd_same, q2⟩) trivial⟩
  · obtain ⟨a, xs, rfl, q1, q2⟩ := rep_tup s.sm r
    exact ⟨a, xs, rfl, .inr q1, fun p hp => k _ _ _ _ h same_refl (s.newO (o := .lst _) hp ⟨xs, upd_same, q2⟩) trivial⟩
  · exact h.elim⟩
/-- data of ints, of bools -/
def intsD : List PyData → Option (List Int)
  | [] => some []
  | .int i :: ds => (intsD ds).map (i :: ·)
  | _ :: _ => none
def boolsD : List PyData → Option (List Bool)
  | [] => some []
  | .bool i :: ds => (boolsD ds).map (i :: ·)
  | _ :: _ => none
theorem intsD_map (ns : List Int) : intsD (ns.map PyData.int) = some ns := by
  induction ns with
  | nil => rfl
  | cons n ns ih => simp [intsD, ih]
theorem boolsD_map (ns : List Bool) : boolsD (ns.map PyData.bool) = some ns := by
  induction ns with
  | nil => rfl
  | cons n ns ih => simp [boolsD, ih]
theorem intsD_eq : ∀ {ds : List PyData} {ns : List Int}, intsD ds = some ns → ds = ns.map PyData.int
  | [], ns, h => by cases h; rfl
  | .int i :: ds, ns, h => by
    unfold intsD at h
    cases c : intsD ds with
    | none => rw [c] at h; cases h
    | some ms =>
      rw [c] at h
      cases h
      rw [intsD_eq c]
      rfl
  | .none :: _, _, h => by cases h
  | .bool _ :: _, _, h => by cases h
  | .str _ :: _, _, h => by cases h
  | .list _ :: _, _, h => by cases h
  | .tuple _ :: _, _, h => by cases h
  | .dict _ :: _, _, h => by cases h
theorem boolsD_eq : ∀ {ds : List PyData} {ns : List Bool}, boolsD ds = some ns → ds = ns.map PyData.bool
  | [], ns, h => by cases h; rfl
  | .bool i :: ds, ns, h => by
    unfold boolsD at h
    cases c : boolsD ds with
    | none => rw [c] at h; cases h
    | some ms =>
      rw [c] at h
      cases h
      rw [boolsD_eq c]
      rfl
  | .none :: _, _, h => by cases h
  | .int _ :: _, _, h => by cases h
  | .str _ :: _, _, h => by cases h
  | .list _ :: _, _, h => by cases h
  | .tuple _ :: _, _, h => by cases h
  | .dict _ :: _, _, h => by cases h
theorem dps_ints {K : PySem.W.Frag} {Hz : Hp} : ∀ {ns : List Int} {vs : List V}, DpAll K Hz vs (ns.map PyData.int) → vs = ns.map V.int
  | [], _, .nil => rfl
  | n :: ns, _, .cons h1 h2 => by
    cases h1
    rw [dps_ints h2]
    rfl
theorem dps_bools {K : PySem.W.Frag} {Hz : Hp} : ∀ {ns : List Bool} {vs : List V}, DpAll K Hz vs (ns.map PyData.bool) → vs = ns.map V.bl
  | [], _, .nil => rfl
  | n :: ns, _, .cons h1 h2 => by
    cases h1
    rw [dps_bools h2]
    rfl
theorem ints_dps {K : PySem.W.Frag} {Hz : Hp} : ∀ (ns : List Int), DpAll K Hz (ns.map V.int) (ns.map PyData.int)
  | [] => .nil
  | n :: ns => .cons (.int n) (ints_dps ns)
theorem rep_ints {K : PySem.W.Frag} {Hz H : Hp} {v : V} {ds : List PyData} {ns : List Int} (h : Rep K Hz H v (.list ds)) (e : intsD ds = some ns) : ∃ a, v = .ref a ∧ SqL K H a (ns.map V.int) := by
  obtain ⟨a, xs, rfl, q1, q2⟩ := h
  rw [intsD_eq e] at q2
  rw [dps_ints q2] at q1
  exact ⟨a, rfl, q1⟩
theorem rep_bools {K : PySem.W.Frag} {Hz H : Hp} {v : V} {ds : List PyData} {ns : List Bool} (h : Rep K Hz H v (.list ds)) (e : boolsD ds = some ns) : ∃ a, v = .ref a ∧ SqL K H a (ns.map V.bl) := by
  obtain ⟨a, xs, rfl, q1, q2⟩ := h
  rw [boolsD_eq e] at q2
  rw [dps_bools q2] at q1
  exact ⟨a, rfl, q1⟩
def gSum (d : PyData) (P : Vl → Prop) : Prop := match d with
  | .list ds => ob1 (intsD ds) fun ns => P (.dat (.int ns.sum))
  | _ => False
theorem sc_sum : SC f (rSum f.K) gSum := ⟨fun {L W e σ Hz H x d Post Q} r s h k => by
  unfold gSum at h
  split at h
  · obtain ⟨ns, c, h⟩ := ob1_ex h
    obtain ⟨a, rfl, q1⟩ := rep_ints r c
    exact ⟨a, ns, rfl, q1, k _ _ _ _ h same_refl s (Dp.int _)⟩
  · exact h.elim⟩
def gMax (d : PyData) (P : Vl → Prop) : Prop := match d with
  | .list ds => ob1 (intsD ds) fun ns => 0 < ns.length ∧ ∀ m, m ∈ ns → (∀ y ∈ ns, y ≤ m) → P (.dat (.int m))
  | _ => False
def gMin (d : PyData) (P : Vl → Prop) : Prop := match d with
  | .list ds => ob1 (intsD ds) fun ns => 0 < ns.length ∧ ∀ m, m ∈ ns → (∀ y ∈ ns, m ≤ y) → P (.dat (.int m))
  | _ => False
theorem sc_max : SC f (rMax f.K) gMax := ⟨fun {L W e σ Hz H x d Post Q} r s h k => by
  unfold gMax at h
  split at h
  · obtain ⟨ns, c, h⟩ := ob1_ex h
    obtain ⟨a, rfl, q1⟩ := rep_ints r c
    exact ⟨a, ns, rfl, q1, h.1, fun m h1 h2 => k _ _ _ _ (h.2 m h1 h2) same_refl s (Dp.int _)⟩
  · exact h.elim⟩
theorem sc_min : SC f (rMin f.K) gMin := ⟨fun {L W e σ Hz H x d Post Q} r s h k => by
  unfold gMin at h
  split at h
  · obtain ⟨ns, c, h⟩ := ob1_ex h
    obtain ⟨a, rfl, q1⟩ := rep_ints r c
    exact ⟨a, ns, rfl, q1, h.1, fun m h1 h2 => k _ _ _ _ (h.2 m h1 h2) same_refl s (Dp.int _)⟩
  · exact h.elim⟩
def gAll (d : PyData) (P : Vl → Prop) : Prop := match d with
  | .list ds => ob1 (boolsD ds) fun ns => P (.dat (.bool (ns.all id)))
  | _ => False
def gAny (d : PyData) (P : Vl → Prop) : Prop := match d with
  | .list ds => ob1 (boolsD ds) fun ns => P (.dat (.bool (ns.any id)))
  | _ => False
theorem sc_all : SC f (rAll f.K) gAll := ⟨fun {L W e σ Hz H x d Post Q} r s h k => by
  unfold gAll at h
  split at h
  · obtain ⟨ns, c, h⟩ := ob1_ex h
    obtain ⟨a, rfl, q1⟩ := rep_bools r c
    exact ⟨a, ns, rfl, q1, k _ _ _ _ h same_refl s (Dp.bl _)⟩
  · exact h.elim⟩
theorem sc_any : SC f (rAny f.K) gAny := ⟨fun {L W e σ Hz H x d Post Q} r s h k => by
  unfold gAny at h
  split at h
  · obtain ⟨ns, c, h⟩ := ob1_ex h
    obtain ⟨a, rfl, q1⟩ := rep_bools r c
    exact ⟨a, ns, rfl, q1, k _ _ _ _ h same_refl s (Dp.bl _)⟩
  · exact h.elim⟩
def gSorted (d : PyData) (P : Vl → Prop) : Prop := match d with
  | .list ds => ob1 (intsD ds) fun ns => ∀ ns' : List Int, ns'.Perm ns → ns'.Pairwise (· ≤ ·) → P (.ob (.lst (ns'.map PyData.int)))
  | _ => False
theorem sc_sorted : SC f (rSortedI f.K) gSorted := ⟨fun {L W e σ Hz H x d Post Q} r s h k => by
  unfold gSorted at h
  split at h
  · obtain ⟨ns, c, h⟩ := ob1_ex h
    obtain ⟨a, rfl, q1⟩ := rep_ints r c
    exact ⟨a, ns, rfl, q1, fun ns' p h1 h2 hp => k _ _ _ _ (h ns' h1 h2) same_refl (s.newO (o := .lst _) hp ⟨_, upd_same, ints_dps ns'⟩) trivial⟩
  · exact h.elim⟩
/-- sorted(set(xs)), xs a list of ints -/
def gSortSet (d : PyData) (P : Vl → Prop) : Prop := match d with
  | .list ds => ob1 (intsD ds) fun ns => ns.length < 64 ∧ ∀ ns' : List Int, ns'.Pairwise (· < ·) → (∀ k, k ∈ ns' ↔ k ∈ ns) → P (.ob (.lst (ns'.map PyData.int)))
  | _ => False
theorem se_sortSet {w : World} (h : SE f te E) : SE f (tCB (rSortedSet w) (tCons (tCB (rSetI f.K w) (tCons te tNil)) tNil)) (wC1 gSortSet E) := ⟨fun {L W e σ Hz H Post Q} wp y k => h.run wp y fun b e1 v Hz1 H1 h1 s1 y1 l1 => by
  obtain ⟨d, c, h1⟩ := ob1_ex h1
  have r := y1.cont l1 c
  unfold gSortSet at h1
  split at h1
  · obtain ⟨ns, c, h1⟩ := ob1_ex h1
    obtain ⟨a, rfl, q1⟩ := rep_ints r c
    refine ⟨a, ns, rfl, q1, by omega, fun p n hp hn => ?_⟩
    have y2 := y1.un.newT (u := SetO w p (fun j => decide (j ∈ ns)) n) hp
    have s2 := same_new (y1.un.hz hp) (SetO w p (fun j => decide (j ∈ ns)) n)
    refine ⟨p, _, n, rfl, upd_same, by omega, fun ns' q h3 h4 h5 hq => ?_⟩
    exact k _ _ _ _ _ (h1.2 ns' h3 (fun k => by rw [h4 k]; exact decide_eq_true_iff)) (same_trans s1 s2) (y2.newO (o := .lst _) hq ⟨_, upd_same, ints_dps ns'⟩) trivial
  · exact h1.elim⟩
def gInt (d : PyData) (P : Vl → Prop) : Prop := match d with
  | .int i => P (.dat (.int i))
  | .bool b => P (.dat (.int (if b then 1 else 0)))
  | _ => False
theorem sc_int : SC f (fun xs H Q => (∃ i, xs = [.int i] ∧ Q (.int i) H) ∨ ∃ k, xs = [.bl k] ∧ Q (.int (if k then 1 else 0)) H) gInt := ⟨fun {L W e σ Hz H x d Post Q} r s h k => by
  unfold gInt at h
  split at h
  · cases r
    exact .inl ⟨_, rfl, k _ _ _ _ h same_refl s (Dp.int _)⟩
  · cases r
    exact .inr ⟨_, rfl, k _ _ _ _ h same_refl s (Dp.int _)⟩
  · exact h.elim⟩
def gAbs (d : PyData) (P : Vl → Prop) : Prop := match d with
  | .int i => P (.dat (.int (if i < 0 then -i else i)))
  | _ => False
theorem sc_abs : SC f (fun xs H Q => ∃ i, xs = [.int i] ∧ Q (.int (if i < 0 then -i else i)) H) gAbs := ⟨fun {L W e σ Hz H x d Post Q} r s h k => by
  unfold gAbs at h
  split at h
  · cases r
    exact ⟨_, rfl, k _ _ _ _ h same_refl s (Dp.int _)⟩
  · exact h.elim⟩
end
theorem Rep.mono {K : PySem.W.Frag} {Hz Hz' H H' : Hp} {v : V} {d : PyData} (h : Rep K Hz H v d) (s : Same Hz Hz') (sH : Same H H') : Rep K Hz' H' v d := by
  cases d with
  | list ds =>
    obtain ⟨a, xs, rfl, h1, h2⟩ := h
    exact ⟨a, xs, rfl, sqL sH h1, dps_mono s _ _ h2⟩
  | _ => exact dp_mono s _ _ h
/-! ### isinstance -/
def tyD : PyData → String
  | .none => "NoneType"
  | .bool _ => "bool"
  | .int _ => "int"
  | .str _ => "str"
  | .list _ => "list"
  | .tuple _ => "tuple"
  | .dict _ => "dict"
/-- a pointer's type is not told -/
def isPtr : PyData → Bool
  | .dict (_ :: _) => true
  | _ => false
theorem isPtr_ptr {a : Addr} : isPtr (ptr a) = true := rfl
theorem rep_ty {K : PySem.W.Frag} {Hz H : Hp} {v : V} {d : PyData} (s : Same Hz H) (h : Rep K Hz H v d) (hp : isPtr d = false) : TyX K H v (.type (tyD d)) := by
  cases d with
  | none => cases h; exact .base .non
  | bool b => cases h; exact .base (.bl b)
  | int i => cases h; exact .base (.int i)
  | str x => cases h; exact .base (.str x)
  | dict ks =>
    have h' : Dp K Hz v (.dict ks) := h
    generalize e : PyData.dict ks = d at h'
    cases h' with
    | ptr a => cases e; cases hp
    | dic q => exact .base (.dK (s _ _ q))
    | _ => cases e
  | tuple ds =>
    obtain ⟨a, xs, rfl, (q | ⟨o, q⟩) | ⟨o, its, n, q, hc, _⟩, _⟩ := rep_tup s h
    · exact .base (.tup q)
    · exact .fTuple q
    · exact .kTuple q hc
  | list ds =>
    obtain ⟨a, xs, rfl, (q | ⟨o, q⟩) | ⟨o, its, n, q, hc, _⟩, _⟩ := h
    · exact .base (.lst q)
    · exact .base (.frz q)
    · exact .kList q hc
def isT (t c : String) : Bool := t == c || (t == "bool" && c == "int")
def goodT (c : String) : Bool := c == "tuple" || c == "list" || c == "int" || c == "bool" || c == "str" || c == "dict"
theorem tyD_is (d : PyData) : tyD d = "NoneType" ∨ tyD d = "bool" ∨ tyD d = "int" ∨ tyD d = "str" ∨ tyD d = "list" ∨ tyD d = "tuple" ∨ tyD d = "dict" := by
  cases d <;> simp [tyD]
theorem kit_is {d : PyData} {c : String} (h : goodT c = true) : kitB (tyD d) c = some (isT (tyD d) c) := by
  simp only [goodT, Bool.or_eq_true, beq_iff_eq] at h
  rcases tyD_is d with q | q | q | q | q | q | q <;> rw [q] <;> rcases h with ((((rfl | rfl) | rfl) | rfl) | rfl) | rfl <;> decide +kernel
theorem ept_none : isPtr .none = false := rfl
theorem ept_bool {b : Bool} : isPtr (.bool b) = false := rfl
theorem ept_int {i : Int} : isPtr (.int i) = false := rfl
theorem ept_str {x : Str} : isPtr (.str x) = false := rfl
theorem ept_list {ds : List PyData} : isPtr (.list ds) = false := rfl
theorem ept_tuple {ds : List PyData} : isPtr (.tuple ds) = false := rfl
theorem ept_dict : isPtr (.dict []) = false := rfl
def rIsiX (K : PySem.W.Frag) : List V → Hp → VK → Prop := fun xs H Q => ∃ x c t b, xs = [x, .ty c] ∧ TyX K H x (.type t) ∧ kitB t c = some b ∧ Q (.bl b) H
theorem call_isiX {X : Cx} {K : PySem.W.Frag} (hK : X.K = K) : CallR X (.builtin "isinstance") (rIsiX K) := by
  subst hK
  intro pins s σ H xs us Q I r h
  obtain ⟨x, c, t, b, rfl, ht, hk, q⟩ := h
  exact call_isi pins s σ H _ us Q I r ⟨x, .ty c, .type t, .type c, b, rfl, .ty c, ht, kit_ty hk, q⟩
section
variable {f : Fr} {te : TE} {E : WE}
def wIsi (c : String) (E : WE) (e : En) (P : Vl → En → Prop) : Prop := E e fun b e1 => ob1 (cont b e1) fun d => isPtr d = false ∧ P (.dat (.bool (isT (tyD d) c))) e1
theorem se_isi {c : String} (hc : goodT c = true) (h : SE f te E) : SE f (tCB (rIsiX f.K) (tCons te (tCons (tC (.ty c)) tNil))) (wIsi c E) := ⟨fun {L W e σ Hz H Post Q} w y k => h.run w y fun b e1 v Hz1 H1 h1 s1 y1 l1 => by
  obtain ⟨d, c1, h1⟩ := ob1_ex h1
  exact ⟨v, c, tyD d, isT (tyD d) c, rfl, rep_ty y1.sm (y1.cont l1 c1) h1.1, kit_is hc, k _ _ _ _ _ h1.2 s1 y1.un (Dp.bl _)⟩⟩
def wIsi2 (c c' : String) (E : WE) (e : En) (P : Vl → En → Prop) : Prop := E e fun b e1 => ob1 (cont b e1) fun d => isPtr d = false ∧ P (.dat (.bool (isT (tyD d) c || isT (tyD d) c'))) e1
theorem se_isi2 {c c' : String} (hc : goodT c = true) (hc' : goodT c' = true) (h : SE f te E) : SE f (tCB (rIsiT f.K) (tCons te (tCons (tTup (tCons (tC (.ty c)) (tCons (tC (.ty c')) tNil))) tNil))) (wIsi2 c c' E) := ⟨fun {L W e σ Hz H Post Q} w y k => h.run w y fun b e1 v Hz1 H1 h1 s1 y1 l1 => by
  obtain ⟨d, c1, h1⟩ := ob1_ex h1
  have r := y1.cont l1 c1
  refine ⟨by show 2 ≤ sizeLine; decide, fun p hp => ?_⟩
  have s2 := same_new (y1.un.hz hp) (.tup [V.ty c, V.ty c'])
  have sH := same_new hp (.tup [V.ty c, V.ty c'])
  have y2 := y1.un.newT (u := .tup [V.ty c, V.ty c']) hp
  have r2 := rep_ty y2.sm (r.mono s2 sH) h1.1
  refine ⟨v, p, _, .type (tyD d), [.type c, .type c'], _, rfl, upd_same, .cons (.ty _) (.cons (.ty _) .nil), r2, ?_, k _ _ _ _ _ h1.2 (same_trans s1 s2) y2 (Dp.bl _)⟩
  refine kitAny_cons (kit_ty (kit_is hc)) (fun z => ?_) (fun z => by rw [z]; rfl)
  rw [z, Bool.false_or]
  exact kitAny_cons (kit_ty (kit_is hc')) (fun z => by rw [z]; exact kitAny_nil) (fun z => z)⟩
end
end DL


set_option Elab.async false
set_option linter.all false
set_option maxRecDepth 100000
set_option maxHeartbeats 4000000
/-! Stores, statements, loops, comprehensions over the layer of values. -/
namespace DL
open PySem L2 TG
/-! ### wiping -/
theorem wipe_get (σ : St) : ∀ (vs : List Nat) (n : Nat), (wipe σ vs)[n]? = if n ∈ vs ∧ n < σ.length then some none else σ[n]?
  | [], n => by simp [wipe]
  | v :: vs, n => by
    unfold wipe
    by_cases h : v = n
    · subst h
      by_cases hl : v < σ.length
      · rw [List.getElem?_set_self (by rw [wipe_length]; exact hl), if_pos ⟨List.mem_cons_self, hl⟩]
      · rw [if_neg (fun c => hl c.2)]
        rw [List.getElem?_eq_none (by rw [List.length_set, wipe_length]; omega), List.getElem?_eq_none (by omega)]
    · rw [List.getElem?_set_ne h, wipe_get σ vs n]
      by_cases h2 : n ∈ vs ∧ n < σ.length
      · rw [if_pos h2, if_pos ⟨List.mem_cons_of_mem _ h2.1, h2.2⟩]
      · rw [if_neg h2, if_neg (fun c => h2 ⟨(List.mem_cons.mp c.1).resolve_left (fun q => h q.symm), c.2⟩)]
theorem wipe_congr {σ τ : St} {vs : List Nat} (hl : σ.length = τ.length) (h : ∀ n, n ∉ vs → σ[n]? = τ[n]?) : wipe σ vs = wipe τ vs := by
  apply List.ext_getElem?
  intro n
  rw [wipe_get, wipe_get, hl]
  by_cases c : n ∈ vs ∧ n < τ.length
  · rw [if_pos c, if_pos c]
  · rw [if_neg c, if_neg c]
    by_cases c2 : n ∈ vs
    · have : ¬ n < τ.length := fun q => c ⟨c2, q⟩
      rw [List.getElem?_eq_none (by omega), List.getElem?_eq_none (by omega)]
    · exact h n c2
theorem wipe_wipe (σ : St) (vs : List Nat) : wipe (wipe σ vs) vs = wipe σ vs := by
  refine wipe_congr (wipe_length _ _) fun n hn => ?_
  rw [wipe_get, if_neg (fun c => hn c.1)]
theorem wipe_set {σ : St} {vs : List Nat} {i : Nat} {x : Option V} (h : i ∈ vs) : wipe (σ.set i x) vs = wipe σ vs := by
  refine wipe_congr (List.length_set ..) fun n hn => ?_
  rw [List.getElem?_set_ne (fun c : i = n => hn (by rw [← c]; exact h))]
def wipeE (e : En) : List Nat → En
  | [] => e
  | v :: vs => (wipeE e vs).set v none
section
variable {f : Fr} {L e : En} {W σ : St} {Hz H : Hp}
theorem Sy.wiped (y : Sy f L W e σ Hz H) : ∀ vs : List Nat, (∀ v ∈ vs, v < f.n) → Sy f L W (wipeE e vs) (wipe σ vs) Hz H
  | [], _ => y
  | v :: vs, h => (Sy.wiped y vs fun x hx => h x (List.mem_cons_of_mem _ hx)).forget (h v List.mem_cons_self)
/-- other values in slots that hold nothing -/
theorem Pr.swap {O : List Addr} {τ : St} (h : Pr f Hz H e σ O) (hl : τ.length = σ.length) (hs : ∀ n : Nat, e[n]? ≠ some none → τ[n]? = σ[n]?) : Pr f Hz H e τ O := by
  induction h generalizing τ with
  | nil =>
    cases τ with
    | nil => exact .nil
    | cons _ _ => simp at hl
  | gs l h g =>
    cases τ with
    | nil => exact .gs l h g
    | cons _ _ => simp at hl
  | @skip x L W O p ih =>
    cases τ with
    | nil => simp at hl
    | cons t τ => exact .skip (ih (by simpa using hl) fun n hn => by have := hs (n + 1) (by simpa using hn); simpa using this)
  | @dat v d L W O q p ih =>
    cases τ with
    | nil => simp at hl
    | cons t τ =>
      have h0 := hs 0 (by simp)
      simp at h0
      subst h0
      exact .dat q (ih (by simpa using hl) fun n hn => by have := hs (n + 1) (by simpa using hn); simpa using this)
  | @ob a t o L W O q q1 q2 p ih =>
    cases τ with
    | nil => simp at hl
    | cons t τ =>
      have h0 := hs 0 (by simp)
      simp at h0
      subst h0
      exact .ob q q1 q2 (ih (by simpa using hl) fun n hn => by have := hs (n + 1) (by simpa using hn); simpa using this)
theorem wipeE_len (e : En) : ∀ vs : List Nat, (wipeE e vs).length = e.length
  | [] => rfl
  | v :: vs => by unfold wipeE; rw [List.length_set, wipeE_len e vs]
theorem wipeE_get (e : En) : ∀ (vs : List Nat) (n : Nat), (wipeE e vs)[n]? = if n ∈ vs ∧ n < e.length then some none else e[n]?
  | [], n => by simp [wipeE]
  | v :: vs, n => by
    unfold wipeE
    by_cases h : v = n
    · subst h
      by_cases hl : v < e.length
      · rw [List.getElem?_set_self (by rw [wipeE_len]; exact hl), if_pos ⟨List.mem_cons_self, hl⟩]
      · rw [if_neg (fun c => hl c.2)]
        rw [List.getElem?_eq_none (by rw [List.length_set, wipeE_len]; omega), List.getElem?_eq_none (by omega)]
    · rw [List.getElem?_set_ne h, wipeE_get e vs n]
      by_cases h2 : n ∈ vs ∧ n < e.length
      · rw [if_pos h2, if_pos ⟨List.mem_cons_of_mem _ h2.1, h2.2⟩]
      · rw [if_neg h2, if_neg (fun c => h2 ⟨(List.mem_cons.mp c.1).resolve_left (fun q => h q.symm), c.2⟩)]
theorem Sy.swap {τ : St} (y : Sy f L W e σ Hz H) (hl : τ.length = σ.length) (hs : ∀ n : Nat, e[n]? ≠ some none → τ[n]? = σ[n]?) : Sy f L W e τ Hz H := by
  obtain ⟨⟨O1, O2, p1, p2, nd, fr⟩, sm, tz, nw, kp, ka, az, tp, ln⟩ := y
  exact ⟨⟨O1, O2, p1, p2.swap hl hs, nd, fr⟩, sm, tz, nw, kp, ka, az, tp, hl.trans ln⟩
/-- back from a comprehension -/
theorem Sy.unwipe {vs : List Nat} (y : Sy f L W e (wipe σ vs) Hz H) (hv : ∀ v ∈ vs, v < f.n) : Sy f L W (wipeE e vs) σ Hz H := by
  have y1 := y.wiped vs hv
  have hl := y.le
  rw [wipe_length] at hl
  refine y1.swap (by rw [wipe_length, wipe_length]) fun n hn => ?_
  by_cases c : n ∈ vs
  · by_cases c2 : n < e.length
    · exact absurd (by rw [wipeE_get, if_pos ⟨c, c2⟩]) hn
    · rw [List.getElem?_eq_none (by omega), List.getElem?_eq_none (by rw [wipe_length, wipe_length]; omega)]
  · rw [wipe_get, if_neg (fun q => c q.1), wipe_get, if_neg (fun q => c q.1)]
/-- the data that stood in some slots ahead -/
def back (e0 : En) : List Nat → En → En
  | [], e => e
  | v :: vs, e => match e0[v]? with
    | some (some (.dat d)) => (back e0 vs e).set v (some (.dat d))
    | _ => back e0 vs e
theorem back_len (e0 e : En) : ∀ vs, (back e0 vs e).length = e.length
  | [] => rfl
  | v :: vs => by
    unfold back
    split
    · rw [List.length_set, back_len e0 e vs]
    · exact back_len e0 e vs
theorem Sy.back {L0 e0 : En} {W0 : St} {Hz0 H0 : Hp} (y0 : Sy f L0 W0 e0 σ Hz0 H0) (s : Same Hz0 Hz) (y : Sy f L W e σ Hz H) (he : e.length = e0.length) : ∀ vs, Sy f L W (back e0 vs e) σ Hz H
  | [] => y
  | v :: vs => by
    have y1 := Sy.back y0 s y he vs
    unfold DL.back
    split
    · rename_i d q
      obtain ⟨x, e1, e2⟩ := y0.get q
      have y2 := y1.setD (i := v) (dp_mono s _ _ e2) (by rw [← y0.ln]; exact (List.getElem?_eq_some_iff.mp e1).1)
      rw [set_self_some e1] at y2
      exact y2
    · exact y1
end
/-! ### stores -/
abbrev WG := Vl → En → (En → Prop) → Prop
abbrev WGs := List PyData → En → (En → Prop) → Prop
structure SG (f : Fr) (g : TG) (G : WG) (sl : List Nat) : Prop where
  run : ∀ {L W e σ Hz H b v Post Q}, G b e Post → Sy f (tmp b L) (tmv b v W) e σ Hz H → Val f b v σ Hz →
    (∀ e' σ' Hz' H', Post e' → Same Hz Hz' → Sy f L W e' σ' Hz' H' → (∀ vs, (∀ i ∈ sl, i ∈ vs) → wipe σ' vs = wipe σ vs) → Q σ' H') → g v σ H Q
structure SGs (f : Fr) (g : TGs) (G : WGs) (sl : List Nat) : Prop where
  run : ∀ {L W e σ Hz H ds vs Post Q}, G ds e Post → Sy f L W e σ Hz H → DpAll f.K Hz vs ds →
    (∀ e' σ' Hz' H', Post e' → Same Hz Hz' → Sy f L W e' σ' Hz' H' → (∀ vs, (∀ i ∈ sl, i ∈ vs) → wipe σ' vs = wipe σ vs) → Q σ' H') → g vs σ H Q
section
variable {f : Fr}
def nmS (i j : Nat) (e : En) (P : En → Prop) : Option (Option B) → Prop
  | some (some (.dat d)) => P (e.set i (some (.dat d)))
  | some (some (.ob t o)) => P ((e.set j none).set i (some (.ob t o)))
  | _ => False
def wName (i : Nat) (b : Vl) (e : En) (P : En → Prop) : Prop := match b with
  | .dat d => P (e.set i (some (.dat d)))
  | .ob o => P (e.set i (some (.ob none o)))
  | .own j => nmS i j e P e[j]?
  | .gob _ a => P (e.set i (some (.dat (ptr a))))
section
variable {i : Nat} {e : En} {P : En → Prop}
theorem nm_dat {d : PyData} : wName i (.dat d) e P = P (e.set i (some (.dat d))) := rfl
theorem nm_ob {o : Ob} : wName i (.ob o) e P = P (e.set i (some (.ob none o))) := rfl
theorem nm_gob {n : Nat} {a : Addr} : wName i (.gob n a) e P = P (e.set i (some (.dat (ptr a)))) := rfl
theorem nm_own {j : Nat} : wName i (.own j) e P = nmS i j e P e[j]? := rfl
theorem nmS_dat {j : Nat} {d : PyData} : nmS i j e P (some (some (.dat d))) = P (e.set i (some (.dat d))) := rfl
theorem nmS_ob {j : Nat} {t : Option Nat} {o : Ob} : nmS i j e P (some (some (.ob t o))) = P ((e.set j none).set i (some (.ob t o))) := rfl
end
theorem sg_name {i : Nat} (hn : Nat.blt i f.n = true := by rfl) : SG f (gName i) (wName i) [i] := ⟨fun {L W e σ Hz H b v Post Q} w y l k => by
  have hi : i < f.n := Nat.le_of_ble_eq_true hn
  have hw : ∀ vs, (∀ j ∈ [i], j ∈ vs) → wipe (σ.set i (some v)) vs = wipe σ vs := fun vs h => wipe_set (h i List.mem_cons_self)
  cases b with
  | dat d => exact k _ _ _ _ w same_refl (y.setD l hi) hw
  | ob o => exact k _ _ _ _ w same_refl (Sy.setO y hi) hw
  | gob n a =>
    have l' : v = .ref a := l
    subst l'
    exact k _ _ _ _ w same_refl (Sy.setD (L := L) (W := W) y (Dp.ptr a) hi) hw
  | own j =>
    rw [nm_own] at w
    generalize q : e[j]? = x at w
    unfold nmS at w
    split at w
    · obtain ⟨v', e1', e2⟩ := Sy.get (L := L) (W := W) y q
      have hv' : σ[j]? = some (some v) := l
      rw [hv'] at e1'
      cases e1'
      exact k _ _ _ _ w same_refl (Sy.setD (L := L) (W := W) y e2 hi) hw
    · exact k _ _ _ _ w same_refl (Sy.setO (Sy.mv (L := L) (W := W) y q l) hi) hw
    · exact w.elim⟩
def wGNil (ds : List PyData) (e : En) (P : En → Prop) : Prop := match ds with
  | [] => P e
  | _ => False
def wGCons (G : WG) (Gs : WGs) (ds : List PyData) (e : En) (P : En → Prop) : Prop := match ds with
  | d :: r => G (.dat d) e fun e1 => Gs r e1 P
  | [] => False
theorem sgs_nil : SGs f gNil wGNil [] := ⟨fun {L W e σ Hz H ds vs Post Q} w y l k => by
  cases l with
  | nil => exact ⟨rfl, k _ _ _ _ w same_refl y (fun _ _ => rfl)⟩
  | cons _ _ => exact w.elim⟩
theorem sgs_cons {g : TG} {gs : TGs} {G : WG} {Gs : WGs} {sl sl' : List Nat} (h : SG f g G sl) (hs : SGs f gs Gs sl') : SGs f (gCons g gs) (wGCons G Gs) (sl ++ sl') := ⟨fun {L W e σ Hz H ds vs Post Q} w y l k => by
  cases l with
  | nil => exact w.elim
  | cons l1 l2 =>
    refine ⟨_, _, rfl, ?_⟩
    refine SG.run (L := L) (W := W) h w y l1 fun e1 σ1 Hz1 H1 h1 s1 y1 c1 => ?_
    exact hs.run h1 y1 (dps_mono s1 _ _ l2) fun e2 σ2 Hz2 H2 h2 s2 y2 c2 => k _ _ _ _ h2 (same_trans s1 s2) y2 fun vs hv => by
      rw [c2 vs (fun i hi => hv i (List.mem_append_right _ hi)), c1 vs (fun i hi => hv i (List.mem_append_left _ hi))]⟩
def wGTup (n : Nat) (Gs : WGs) (b : Vl) (e : En) (P : En → Prop) : Prop := ob1 (cont b e) fun d => match d with
  | .tuple ds => ds.length = n ∧ Gs ds e P
  | _ => False
theorem sg_tup {n : Nat} {gs : TGs} {Gs : WGs} {sl : List Nat} (hs : SGs f gs Gs sl) : SG f (gTup f.K n gs) (wGTup n Gs) sl := ⟨fun {L W e σ Hz H b v Post Q} w y l k => by
  obtain ⟨d, c, w⟩ := ob1_ex w
  have r := y.cont l c
  split at w
  · obtain ⟨a, xs, rfl, q1, q2⟩ := rep_tup y.sm r
    exact ⟨a, xs, rfl, q1, by rw [dps_len q2]; exact w.1, hs.run w.2 y.un q2 k⟩
  · exact w.elim⟩
/-- xs[i] = v, xs the list of a slot -/
def wGSub (j : Nat) (Ei : WE) (b : Vl) (e : En) (P : En → Prop) : Prop := match b with
  | .dat d => wVar j e fun _ _ => Ei e fun bi e1 => match bi with
    | .dat (.int n) => match e1[j]? with
      | some (some (.ob t (.lst ds))) => ob1 (ixN ds.length n) fun m => P (e1.set j (some (.ob t (.lst (ds.set m d)))))
      | _ => False
    | _ => False
  | _ => False
theorem sg_sub {j : Nat} {ti : TE} {Ei : WE} (hi : SE f ti Ei) : SG f (gSub (tVar j) ti rSetL) (wGSub j Ei) [] := ⟨fun {L W e σ Hz H b v Post Q} w y l k => by
  cases b with
  | dat d =>
    obtain ⟨va, ha, w⟩ : ∃ va, σ[j]? = some (some va) ∧ Ei e fun bi e1 => match bi with
        | .dat (.int n) => match e1[j]? with
          | some (some (.ob t (.lst ds))) => ob1 (ixN ds.length n) fun m => Post (e1.set j (some (.ob t (.lst (ds.set m d)))))
          | _ => False
        | _ => False := by
      unfold wGSub wVar at w
      generalize q : e[j]? = x at w
      unfold vrS at w
      dsimp only at w
      split at w
      · obtain ⟨v', e1', e2⟩ := Sy.get (L := L) (W := W) y q
        exact ⟨v', e1', w⟩
      · obtain ⟨v', e1', e2⟩ := Sy.ob (L := L) (W := W) y q
        exact ⟨_, e1', w⟩
      · exact w.elim
    refine ⟨va, ha, ?_⟩
    refine hi.run w y fun bi e1 vi Hz1 H1 h1 s1 y1 l1 => ?_
    split at h1
    · rename_i n
      split at h1
      · rename_i t ds q
        obtain ⟨m, c, h1⟩ := ob1_ex h1
        cases l1
        obtain ⟨a', q1, q2, q3⟩ := Sy.ob (L := L) (W := W) y1 q
        rw [ha] at q1
        cases q1
        obtain ⟨xs, q4, q5⟩ := q2
        refine ⟨a', xs, n, m, rfl, rfl, q4, by rw [dps_len q5]; exact c, ?_⟩
        refine k _ _ _ _ h1 s1 (Sy.wr (L := L) (W := W) y1 q ha ⟨_, upd_same, ?_⟩) (fun _ _ => rfl)
        exact dps_set m q5 (dp_mono s1 _ _ l)
      · exact h1.elim
    · exact h1.elim
  | ob o => exact w.elim
  | own j => exact w.elim
  | gob n a => exact w.elim⟩
end
/-! ### statements -/
structure Po where
  nx : En → Prop
  rt : Vl → En → Prop
  bk : En → Prop := fun _ => False
  ct : En → Prop := fun _ => False
abbrev WS := Po → En → Prop
structure Out (f : Fr) (P : Po) (D : Ends) (Z : Hp) : Prop where
  nx : ∀ {e σ Hz H}, P.nx e → Same Z Hz → Sy f [] [] e σ Hz H → D.nx σ H
  rt : ∀ {b e σ v Hz H}, P.rt b e → Same Z Hz → Sy f (tmp b []) (tmv b v []) e σ Hz H → Val f b v σ Hz → D.rt v H
  bk : ∀ {e σ Hz H}, P.bk e → Same Z Hz → Sy f [] [] e σ Hz H → D.bk σ H
  ct : ∀ {e σ Hz H}, P.ct e → Same Z Hz → Sy f [] [] e σ Hz H → D.ct σ H
theorem Out.mono {f : Fr} {P : Po} {D : Ends} {Z Z' : Hp} (o : Out f P D Z) (s : Same Z Z') : Out f P D Z' :=
  ⟨fun a b c => o.nx a (same_trans s b) c, fun a b c d => o.rt a (same_trans s b) c d, fun a b c => o.bk a (same_trans s b) c, fun a b c => o.ct a (same_trans s b) c⟩
structure SS (f : Fr) (t : TS) (S : WS) : Prop where
  run : ∀ {D P e σ Hz H}, S P e → Sy f [] [] e σ Hz H → Out f P D Hz → t D σ H
section
variable {f : Fr} {t u : TS} {S U : WS} {te ta tb tc : TE} {E Ea Eb Ec : WE} {tt : TT} {T : WT}
def wSeq (S U : WS) (P : Po) (e : En) : Prop := S { P with nx := U P } e
theorem ss_seq (h1 : SS f t S) (h2 : SS f u U) : SS f (tSeq t u) (wSeq S U) := ⟨fun {D P e σ Hz H} w y o => h1.run w y ⟨fun p s1 y1 => h2.run p y1 (o.mono s1), o.rt, o.bk, o.ct⟩⟩
def wNext (P : Po) (e : En) : Prop := P.nx e
theorem ss_next : SS f tNext wNext := ⟨fun w y o => o.nx w same_refl y⟩
def wNever (P : Po) (e : En) : Prop := False
theorem ss_never : SS f tNever wNever := ⟨fun w _ _ => w.elim⟩
def wBreak (P : Po) (e : En) : Prop := P.bk e
theorem ss_break : SS f tBreak wBreak := ⟨fun w y o => o.bk w same_refl y⟩
def wCont (P : Po) (e : En) : Prop := P.ct e
theorem ss_cont : SS f tCont wCont := ⟨fun w y o => o.ct w same_refl y⟩
def wRetN (P : Po) (e : En) : Prop := P.rt (.dat .none) e
theorem ss_retN : SS f tRetN wRetN := ⟨fun w y o => o.rt (v := .non) w same_refl y Dp.non⟩
def rtS (P : Po) (i : Nat) (e1 : En) : Option (Option B) → Prop
  | some (some (.dat d)) => P.rt (.dat d) e1
  | some (some (.ob none o)) => P.rt (.ob o) (e1.set i none)
  | _ => False
def rtK (P : Po) (b : Vl) (e1 : En) : Prop := match b with
  | .own i => rtS P i e1 e1[i]?
  | .dat d => P.rt (.dat d) e1
  | .ob o => P.rt (.ob o) e1
  | .gob _ a => P.rt (.dat (ptr a)) e1
section
variable {P : Po} {e1 : En}
theorem rtK_dat {d : PyData} : rtK P (.dat d) e1 = P.rt (.dat d) e1 := rfl
theorem rtK_ob {o : Ob} : rtK P (.ob o) e1 = P.rt (.ob o) e1 := rfl
theorem rtK_gob {n : Nat} {a : Addr} : rtK P (.gob n a) e1 = P.rt (.dat (ptr a)) e1 := rfl
theorem rtK_own {i : Nat} : rtK P (.own i) e1 = rtS P i e1 e1[i]? := rfl
theorem rtS_dat {i : Nat} {d : PyData} : rtS P i e1 (some (some (.dat d))) = P.rt (.dat d) e1 := rfl
theorem rtS_ob {i : Nat} {o : Ob} : rtS P i e1 (some (some (.ob none o))) = P.rt (.ob o) (e1.set i none) := rfl
end
def wRet (E : WE) (P : Po) (e : En) : Prop := E e (rtK P)
theorem ss_ret (h : SE f te E) : SS f (tRet te) (wRet E) := ⟨fun {D P e σ Hz H} w y o => h.run w y fun b e1 v Hz1 H1 h1 s1 y1 l1 => by
  cases b with
  | dat d => exact o.rt h1 s1 y1 l1
  | ob d => exact o.rt h1 s1 y1 l1
  | gob n a =>
    have l' : v = .ref a := l1
    subst l'
    exact o.rt (b := .dat (ptr a)) h1 s1 y1 (Dp.ptr a)
  | own i =>
    rw [rtK_own] at h1
    generalize q : e1[i]? = x at h1
    unfold rtS at h1
    split at h1
    · rename_i d
      obtain ⟨v', e1', e2⟩ := Sy.get (L := []) (W := []) y1 q
      have hv' : σ[i]? = some (some v) := l1
      rw [hv'] at e1'
      cases e1'
      exact o.rt (b := .dat d) h1 s1 y1 e2
    · rename_i ob
      exact o.rt (b := .ob ob) h1 s1 (Sy.mv (L := []) (W := []) y1 q l1) trivial
    · exact h1.elim⟩
def wIfS (T : WT) (S U : WS) (P : Po) (e : En) : Prop := T e fun c e1 => if c = true then S P e1 else U P e1
theorem ss_if (ht : ST f tt T) (h1 : SS f t S) (h2 : SS f u U) : SS f (tIfS tt t u) (wIfS T S U) := ⟨fun {D P e σ Hz H} w y o => ht.run w y fun b e1 Hz1 H1 w1 s1 y1 => by
  by_cases c : b = true
  · rw [if_pos c] at w1 ⊢
    exact h1.run w1 y1 (o.mono s1)
  · rw [if_neg c] at w1 ⊢
    exact h2.run w1 y1 (o.mono s1)⟩
def wDrop (E : WE) (P : Po) (e : En) : Prop := E e fun _ e1 => P.nx e1
theorem ss_drop (h : SE f te E) : SS f (tDrop te) (wDrop E) := ⟨fun {D P e σ Hz H} w y o => h.run w y fun b e1 v Hz1 H1 h1 s1 y1 l1 => o.nx h1 s1 y1.un⟩
def wAsg (E : WE) (G : WG) (P : Po) (e : En) : Prop := E e fun b e1 => G b e1 P.nx
theorem ss_asg {g : TG} {G : WG} {sl : List Nat} (h : SE f te E) (hg : SG f g G sl) : SS f (tAsg te g) (wAsg E G) := ⟨fun {D P e σ Hz H} w y o => h.run w y fun b e1 v Hz1 H1 h1 s1 y1 l1 =>
  hg.run h1 y1 l1 fun e2 σ2 Hz2 H2 h2 s2 y2 _ => o.nx h2 (same_trans s1 s2) y2⟩
/-- a, b = x, y -/
def notOwn : Vl → Bool
  | .own _ => false
  | .gob _ _ => false
  | _ => true
def wPar (i j : Nat) (Ea Eb : WE) (P : Po) (e : En) : Prop := Ea e fun b1 e1 => Eb e1 fun b2 e2 => notOwn b1 = true ∧ wName j b2 e2 fun e3 => wName i b1 e3 P.nx
theorem val_not {f' : Fr} {b : Vl} {v : V} {σ σ' : St} {Hz : Hp} (hK : f'.K = f.K) (h : Val f b v σ Hz) (n : notOwn b = true) : Val f' b v σ' Hz := by
  cases b with
  | dat d => show Dp f'.K Hz v d; rw [hK]; exact h
  | own i => cases n
  | gob _ _ => cases n
  | ob o => trivial
theorem ss_par {i j : Nat} (hij : i ≠ j) (ha : SE f ta Ea) (hb : SE f tb Eb) (hi : Nat.blt i f.n = true := by rfl) (hj : Nat.blt j f.n = true := by rfl) : SS f (tPar i j (tCons ta (tCons tb tNil))) (wPar i j Ea Eb) := ⟨fun {D P e σ Hz H} w y o =>
  ha.run w y fun b1 e1 v1 Hz1 H1 h1 s1 y1 l1 => hb.run h1 y1 fun b2 e2 v2 Hz2 H2 h2 s2 y2 l2 => by
    obtain ⟨n1, h2⟩ := h2
    refine ⟨v1, v2, rfl, ?_⟩
    rw [List.set_comm _ _ hij]
    exact (sg_name (f := f) (i := j) hj).run (Q := fun σ' H' => D.nx (σ'.set i (some v1)) H') h2 y2 l2 fun e3 σ3 Hz3 H3 h3 s3 y3 _ =>
      (sg_name (f := f) (i := i) hi).run (Q := fun σ' H' => D.nx σ' H') h3 y3 (val_not rfl (l1.mono (same_trans s2 s3)) n1) fun e4 σ4 Hz4 H4 h4 s4 y4 _ => o.nx h4 (same_trans s1 (same_trans s2 (same_trans s3 s4))) y4⟩
def wPar3 (i j l : Nat) (Ea Eb Ec : WE) (P : Po) (e : En) : Prop := Ea e fun b1 e1 => Eb e1 fun b2 e2 => Ec e2 fun b3 e3 => notOwn b1 = true ∧ notOwn b2 = true ∧ wName l b3 e3 fun e4 => wName j b2 e4 fun e5 => wName i b1 e5 P.nx
theorem ss_par3 {i j l : Nat} (hij : i ≠ j) (hil : i ≠ l) (hjl : j ≠ l) (ha : SE f ta Ea) (hb : SE f tb Eb) (hc : SE f tc Ec) (hi : Nat.blt i f.n = true := by rfl) (hj : Nat.blt j f.n = true := by rfl) (hl : Nat.blt l f.n = true := by rfl) : SS f (tPar3 i j l (tCons ta (tCons tb (tCons tc tNil)))) (wPar3 i j l Ea Eb Ec) := ⟨fun {D P e σ Hz H} w y o =>
  ha.run w y fun b1 e1 v1 Hz1 H1 h1 s1 y1 l1 => hb.run h1 y1 fun b2 e2 v2 Hz2 H2 h2 s2 y2 l2 => hc.run h2 y2 fun b3 e3 v3 Hz3 H3 h3 s3 y3 l3 => by
    obtain ⟨n1, n2, h3⟩ := h3
    refine ⟨v1, v2, v3, rfl, ?_⟩
    have es : ((σ.set i (some v1)).set j (some v2)).set l (some v3) = ((σ.set l (some v3)).set j (some v2)).set i (some v1) := by
      rw [List.set_comm _ _ hjl, List.set_comm _ _ hil, List.set_comm _ _ hij]
    rw [es]
    exact (sg_name (f := f) (i := l) hl).run (Q := fun σ' H' => D.nx ((σ'.set j (some v2)).set i (some v1)) H') h3 y3 l3 fun e4 σ4 Hz4 H4 h4 s4 y4 _ =>
      (sg_name (f := f) (i := j) hj).run (Q := fun σ' H' => D.nx (σ'.set i (some v1)) H') h4 y4 (val_not rfl (l2.mono (same_trans s3 s4)) n2) fun e5 σ5 Hz5 H5 h5 s5 y5 _ =>
        (sg_name (f := f) (i := i) hi).run (Q := fun σ' H' => D.nx σ' H') h5 y5 (val_not rfl (l1.mono (same_trans s2 (same_trans s3 (same_trans s4 s5)))) n1) fun e6 σ6 Hz6 H6 h6 s6 y6 _ => o.nx h6 (same_trans s1 (same_trans s2 (same_trans s3 (same_trans s4 (same_trans s5 s6))))) y6⟩
/-- the same by a tuple that is made and taken apart -/
theorem ss_parT {i j : Nat} (hij : i ≠ j) (ha : SE f ta Ea) (hb : SE f tb Eb) (hi : Nat.blt i f.n = true := by rfl) (hj : Nat.blt j f.n = true := by rfl) : SS f (tAsg (tTup (tCons ta (tCons tb tNil))) (gTup f.K 2 (gCons (gName i) (gCons (gName j) gNil)))) (wPar i j Ea Eb) := ⟨fun {D P e σ Hz H} w y o =>
  ha.run w y fun b1 e1 v1 Hz1 H1 h1 s1 y1 l1 => hb.run h1 y1 fun b2 e2 v2 Hz2 H2 h2 s2 y2 l2 => ⟨by show 2 ≤ sizeLine; decide, fun p hp => by
    obtain ⟨n1, h2⟩ := h2
    have s0 := same_new (y2.hz hp) (.tup [v1, v2])
    refine ⟨p, _, rfl, SqT.of upd_same, rfl, _, _, rfl, _, _, rfl, rfl, ?_⟩
    rw [List.set_comm _ _ hij]
    exact (sg_name (f := f) (i := j) hj).run (Q := fun σ' H' => D.nx (σ'.set i (some v1)) H') h2 (y2.newT hp) (l2.mono s0) fun e3 σ3 Hz3 H3 h3 s3 y3 _ =>
      (sg_name (f := f) (i := i) hi).run (Q := fun σ' H' => D.nx σ' H') h3 y3 (val_not rfl (l1.mono (same_trans s2 (same_trans s0 s3))) n1) fun e4 σ4 Hz4 H4 h4 s4 y4 _ => o.nx h4 (same_trans s1 (same_trans s2 (same_trans s0 (same_trans s3 s4)))) y4⟩⟩
/-- i op= e, of ints -/
def wAugI (i : Nat) (g : Int → Int → Int) (E : WE) (P : Po) (e : En) : Prop := match e[i]? with
  | some (some (.dat (.int n))) => E e fun b e1 => match b with
    | .dat (.int m) => P.nx (e1.set i (some (.dat (.int (g n m)))))
    | _ => False
  | _ => False
theorem ss_augI {i : Nat} {g : Int → Int → Int} (h : SE f te E) : SS f (tAug i te (ipI g)) (wAugI i g E) := ⟨fun {D P e σ Hz H} w y o => by
  unfold wAugI at w
  split at w
  · rename_i n q
    obtain ⟨v, e1, e2⟩ := y.get q
    cases e2
    refine ⟨_, e1, h.run w y fun b e2 v Hz1 H1 h1 s1 y1 l1 => ?_⟩
    split at h1
    · cases l1
      exact ⟨_, _, rfl, rfl, o.nx h1 s1 (Sy.setD (L := []) (W := []) y1 (Dp.int _) (by rw [← y.ln]; exact (List.getElem?_eq_some_iff.mp e1).1))⟩
    · exact h1.elim
  · exact w.elim⟩
/-- while -/
def wWhile (T : WT) (S : WS) (P : Po) (e : En) : Prop := ∃ Inv : Nat → En → Prop, (∃ m, Inv m e) ∧ ∀ m e, Inv m e → T e fun b e1 =>
  if b = true then S { P with nx := fun e' => ∃ m', m' < m ∧ Inv m' e', ct := fun e' => ∃ m', m' < m ∧ Inv m' e', bk := P.nx } e1 else P.nx e1
theorem ss_while (ht : ST f tt T) (h : SS f t S) : SS f (tWhile tt t) (wWhile T S) := ⟨fun {D P e σ Hz H} w y o => by
  obtain ⟨Inv, ⟨m0, i0⟩, turn⟩ := w
  refine ⟨fun m σ H => ∃ e Hz', Inv m e ∧ Same Hz Hz' ∧ Sy f [] [] e σ Hz' H, ⟨m0, e, Hz, i0, same_refl, y⟩, ?_⟩
  rintro m σ H ⟨e, Hz', im, s0, y⟩
  refine ht.run (turn m e im) y fun b e1 Hz1 H1 w1 s1 y1 => ?_
  by_cases c : b = true
  · rw [if_pos c] at w1 ⊢
    have o1 := o.mono (same_trans s0 s1)
    refine ⟨fun σ' H' => ∃ m' e' Hz2, m' < m ∧ Inv m' e' ∧ Same Hz Hz2 ∧ Sy f [] [] e' σ' Hz2 H', fun σ' H' ⟨m', e', Hz', h1, h2, h3, h4⟩ => ⟨m', h1, e', Hz', h2, h3, h4⟩, ?_⟩
    exact h.run w1 y1 ⟨fun ⟨m', h1, h2⟩ s2 y2 => ⟨m', _, _, h1, h2, same_trans s0 (same_trans s1 s2), y2⟩, o1.rt, o1.nx, fun ⟨m', h1, h2⟩ s2 y2 => ⟨m', _, _, h1, h2, same_trans s0 (same_trans s1 s2), y2⟩⟩
  · rw [if_neg c] at w1 ⊢
    exact o.nx w1 (same_trans s0 s1) y1⟩
end
/-! ### what is walked -/
structure Walk (K : PySem.W.Frag) (J : It) (Hz : Hp) (its : List PyData) : Prop where
  stop : ∀ H, Same Hz H → J.stop its.length H
  go : ∀ i H, i < its.length → Same Hz H → J.go i H
  yld : ∀ i H x H' d, Same Hz H → J.yld i H x H' → its[i]? = some d → (H' = H ∧ Dp K Hz x d) ∨ ∃ T xs ds, x = .ref T ∧ H T = none ∧ H' = upd H T (.tup xs) ∧ d = .tuple ds ∧ DpAll K Hz xs ds
abbrev WI := En → (List PyData → En → Prop) → Prop
structure SI (f : Fr) (wi : TI) (G : WI) : Prop where
  run : ∀ {L W e σ Hz H Post R}, G e Post → Sy f L W e σ Hz H → (∀ J its e' Hz' H', Post its e' → Same Hz Hz' → Sy f L W e' σ Hz' H' → Walk f.K J Hz' its → R J H') → wi σ H R
section
variable {f : Fr} {K : PySem.W.Frag} {Hz : Hp}
theorem walk_list {a : Addr} {xs : List V} {ds : List PyData} (h : SqL K Hz a xs) (hd : DpAll K Hz xs ds) : Walk K (Itl K a) Hz ds where
  stop := fun H s => ⟨xs, sqL s h, by rw [dps_len hd]; exact Nat.le_refl _⟩
  go := fun i H hi s => by
    have : i < xs.length := by rw [dps_len hd]; exact hi
    exact ⟨xs, xs[i], sqL s h, List.getElem?_eq_getElem this⟩
  yld := fun i H x H' d s y e => by
    obtain ⟨rfl, hy⟩ := y
    obtain ⟨x', e1, e2⟩ := dps_get hd i d e
    have := hy xs (sqL s h)
    rw [e1] at this
    cases this
    exact .inl ⟨rfl, e2⟩
theorem walk_tup {a : Addr} {xs : List V} {ds : List PyData} (h : SqT K Hz a xs) (hd : DpAll K Hz xs ds) : Walk K (Itt K a) Hz ds where
  stop := fun H s => ⟨xs, sqT s h, by rw [dps_len hd]; exact Nat.le_refl _⟩
  go := fun i H hi s => by
    have : i < xs.length := by rw [dps_len hd]; exact hi
    exact ⟨xs, xs[i], sqT s h, List.getElem?_eq_getElem this⟩
  yld := fun i H x H' d s y e => by
    obtain ⟨rfl, hy⟩ := y
    obtain ⟨x', e1, e2⟩ := dps_get hd i d e
    have := hy xs (sqT s h)
    rw [e1] at this
    cases this
    exact .inl ⟨rfl, e2⟩
def rangeD (lo : Int) (n : Nat) : List PyData := (List.range n).map fun i : Nat => PyData.int (lo + i)
theorem walk_rng {lo : Int} {n : Nat} : Walk K (Itr lo n) Hz (rangeD lo n) where
  stop := fun H s => by show n ≤ (rangeD lo n).length; simp [rangeD]
  go := fun i H hi s => by show i < n; simpa [rangeD] using hi
  yld := fun i H x H' d s y e => by
    obtain ⟨rfl, rfl⟩ := y
    have hi : i < n := by have := (List.getElem?_eq_some_iff.mp e).1; simpa [rangeD] using this
    unfold rangeD at e
    rw [List.getElem?_map, List.getElem?_range hi] at e
    cases e
    exact .inl ⟨rfl, .int _⟩
def enumD (ds : List PyData) : List PyData := (List.range ds.length).map fun i : Nat => PyData.tuple [.int i, (ds[i]?).getD .none]
theorem enumD_len (ds : List PyData) : (enumD ds).length = ds.length := by simp [enumD]
theorem enumD_get {ds : List PyData} {i : Nat} {d : PyData} (h : (enumD ds)[i]? = some d) : ∃ x, ds[i]? = some x ∧ d = .tuple [.int i, x] := by
  have hi : i < ds.length := by have := (List.getElem?_eq_some_iff.mp h).1; rwa [enumD_len] at this
  unfold enumD at h
  rw [List.getElem?_map, List.getElem?_range hi] at h
  cases h
  exact ⟨ds[i], List.getElem?_eq_getElem hi, by dsimp only; rw [List.getElem?_eq_getElem hi]; rfl⟩
theorem walk_enumT {a : Addr} {xs : List V} {ds : List PyData} (h : SqT K Hz a xs) (hd : DpAll K Hz xs ds) : Walk K (IteT K a) Hz (enumD ds) where
  stop := fun H s => ⟨xs, sqT s h, by rw [dps_len hd, enumD_len]⟩
  go := fun i H hi s => by
    have : i < xs.length := by rw [dps_len hd]; rwa [enumD_len] at hi
    exact ⟨xs, xs[i], sqT s h, List.getElem?_eq_getElem this⟩
  yld := fun i H x H' d s y e => by
    obtain ⟨T, x', rfl, h1, rfl, hy⟩ := y
    obtain ⟨dx, e1, rfl⟩ := enumD_get e
    obtain ⟨x2, e2, e3⟩ := dps_get hd i dx e1
    have := hy xs (sqT s h)
    rw [e2] at this
    cases this
    exact .inr ⟨T, _, _, rfl, h1, rfl, rfl, .cons (.int _) (.cons e3 .nil)⟩
theorem walk_enum {a : Addr} {xs : List V} {ds : List PyData} (h : SqL K Hz a xs) (hd : DpAll K Hz xs ds) : Walk K (Ite K a) Hz (enumD ds) where
  stop := fun H s => ⟨xs, sqL s h, by rw [dps_len hd, enumD_len]; exact Nat.le_refl _⟩
  go := fun i H hi s => by
    have : i < xs.length := by rw [dps_len hd]; rwa [enumD_len] at hi
    exact ⟨xs, xs[i], sqL s h, List.getElem?_eq_getElem this⟩
  yld := fun i H x H' d s y e => by
    obtain ⟨T, x', rfl, h1, rfl, hy⟩ := y
    obtain ⟨dx, e1, rfl⟩ := enumD_get e
    obtain ⟨x2, e2, e3⟩ := dps_get hd i dx e1
    have := hy xs (sqL s h)
    rw [e2] at this
    cases this
    exact .inr ⟨T, _, _, rfl, h1, rfl, rfl, .cons (.int _) (.cons e3 .nil)⟩
def zipD (ds es : List PyData) : List PyData := List.zipWith (fun a b => PyData.tuple [a, b]) ds es
theorem zipD_len (ds es : List PyData) : (zipD ds es).length = min ds.length es.length := by simp [zipD]
theorem zipD_get {ds es : List PyData} {i : Nat} {d : PyData} (h : (zipD ds es)[i]? = some d) : ∃ x y, ds[i]? = some x ∧ es[i]? = some y ∧ d = .tuple [x, y] := by
  unfold zipD at h
  rw [List.getElem?_zipWith] at h
  cases c1 : ds[i]? with
  | none => rw [c1] at h; cases h
  | some x =>
    cases c2 : es[i]? with
    | none => rw [c1, c2] at h; cases h
    | some y =>
      rw [c1, c2] at h
      cases h
      exact ⟨x, y, rfl, rfl, rfl⟩
theorem walk_zipT {a b : Addr} {xs ys : List V} {ds es : List PyData} (h : SqT K Hz a xs) (hd : DpAll K Hz xs ds) (g : SqT K Hz b ys) (gd : DpAll K Hz ys es) : Walk K (RZ.ItzT K a b) Hz (zipD ds es) where
  stop := fun H s => ⟨xs, ys, sqT s h, sqT s g, by rw [dps_len hd, dps_len gd, zipD_len]; omega⟩
  go := fun i H hi s => by
    rw [zipD_len] at hi
    have h1 : i < xs.length := by rw [dps_len hd]; omega
    have h2 : i < ys.length := by rw [dps_len gd]; omega
    exact ⟨xs, ys, xs[i], ys[i], sqT s h, sqT s g, List.getElem?_eq_getElem h1, List.getElem?_eq_getElem h2⟩
  yld := fun i H x H' d s y e => by
    obtain ⟨T, x', y', rfl, h1, rfl, hx, hy⟩ := y
    obtain ⟨dx, dy, e1, e2, rfl⟩ := zipD_get e
    obtain ⟨x2, q1, q2⟩ := dps_get hd i dx e1
    obtain ⟨y2, q3, q4⟩ := dps_get gd i dy e2
    have hx := hx xs (sqT s h)
    have hy := hy ys (sqT s g)
    rw [q1] at hx
    rw [q3] at hy
    cases hx
    cases hy
    exact .inr ⟨T, _, _, rfl, h1, rfl, rfl, .cons q2 (.cons q4 .nil)⟩
theorem walk_zip {a b : Addr} {xs ys : List V} {ds es : List PyData} (h : SqL K Hz a xs) (hd : DpAll K Hz xs ds) (g : SqL K Hz b ys) (gd : DpAll K Hz ys es) : Walk K (Itz K a b) Hz (zipD ds es) where
  stop := fun H s => ⟨xs, ys, sqL s h, sqL s g, by rw [dps_len hd, dps_len gd, zipD_len]; omega⟩
  go := fun i H hi s => by
    rw [zipD_len] at hi
    have h1 : i < xs.length := by rw [dps_len hd]; omega
    have h2 : i < ys.length := by rw [dps_len gd]; omega
    exact ⟨xs, ys, xs[i], ys[i], sqL s h, sqL s g, List.getElem?_eq_getElem h1, List.getElem?_eq_getElem h2⟩
  yld := fun i H x H' d s y e => by
    obtain ⟨T, x', y', rfl, h1, rfl, hx, hy⟩ := y
    obtain ⟨dx, dy, e1, e2, rfl⟩ := zipD_get e
    obtain ⟨x2, q1, q2⟩ := dps_get hd i dx e1
    obtain ⟨y2, q3, q4⟩ := dps_get gd i dy e2
    have hx := hx xs (sqL s h)
    have hy := hy ys (sqL s g)
    rw [q1] at hx
    rw [q3] at hy
    cases hx
    cases hy
    exact .inr ⟨T, _, _, rfl, h1, rfl, rfl, .cons q2 (.cons q4 .nil)⟩
end
section
variable {f : Fr} {te tu : TE} {E U : WE}
def wIList (E : WE) (e : En) (P : List PyData → En → Prop) : Prop := wFz E e fun d e1 => match d with
  | .list ds => P ds e1
  | _ => False
theorem si_list (h : SE f te E) : SI f (iList f.K te) (wIList E) := ⟨fun {L W e σ Hz H Post R} w y k => fz_run h w y fun d e1 v Hz1 H1 h1 s1 y1 d1 => by
  split at h1
  · cases d1 with
    | lst q1 q2 => exact ⟨_, rfl, ⟨_, sqL y1.sm q1⟩, k _ _ _ _ _ h1 s1 y1 (walk_list q1 q2)⟩
  · exact h1.elim⟩
def wITup (E : WE) (e : En) (P : List PyData → En → Prop) : Prop := wFz E e fun d e1 => match d with
  | .tuple ds => P ds e1
  | _ => False
theorem si_tup (h : SE f te E) : SI f (iTup f.K te) (wITup E) := ⟨fun {L W e σ Hz H Post R} w y k => fz_run h w y fun d e1 v Hz1 H1 h1 s1 y1 d1 => by
  split at h1
  · obtain ⟨a, xs, rfl, q1, q2⟩ := dp_tup d1
    exact ⟨_, rfl, ⟨_, sqT y1.sm q1⟩, k _ _ _ _ _ h1 s1 y1 (walk_tup q1 q2)⟩
  · exact h1.elim⟩
def wIRng1 (E : WE) (e : En) (P : List PyData → En → Prop) : Prop := wFz E e fun d e1 => match d with
  | .int n => (-(2 ^ 62) ≤ n ∧ n < 2 ^ 62) ∧ P (rangeD 0 n.toNat) e1
  | _ => False
theorem si_rng1 (h : SE f te E) : SI f (iRng1 (tCons te tNil)) (wIRng1 E) := ⟨fun {L W e σ Hz H Post R} w y k => fz_run h w y fun d e1 v Hz1 H1 h1 s1 y1 d1 => by
  split at h1
  · cases d1
    exact ⟨_, rfl, h1.1.1, h1.1.2, k _ _ _ _ _ h1.2 s1 y1 walk_rng⟩
  · exact h1.elim⟩
def wIRng2 (E U : WE) (e : En) (P : List PyData → En → Prop) : Prop := wFz E e fun d e1 => wFz U e1 fun d' e2 => match d, d' with
  | .int n, .int m => (-(2 ^ 62) ≤ n ∧ n < 2 ^ 62 ∧ -(2 ^ 62) ≤ m ∧ m < 2 ^ 62) ∧ P (rangeD n (m - n).toNat) e2
  | _, _ => False
theorem si_rng2 (h : SE f te E) (h' : SE f tu U) : SI f (iRng2 (tCons te (tCons tu tNil))) (wIRng2 E U) := ⟨fun {L W e σ Hz H Post R} w y k => fz_run h w y fun d e1 v Hz1 H1 h1 s1 y1 d1 => fz_run h' h1 y1 fun d' e2 v2 Hz2 H2 h2 s2 y2 d2 => by
  split at h2
  · cases d1
    cases d2
    exact ⟨_, _, rfl, h2.1, k _ _ _ _ _ h2.2 (same_trans s1 s2) y2 walk_rng⟩
  · exact h2.elim⟩
def wIEnumT (E : WE) (e : En) (P : List PyData → En → Prop) : Prop := wFz E e fun d e1 => match d with
  | .tuple ds => P (enumD ds) e1
  | _ => False
def wIEnum (E : WE) (e : En) (P : List PyData → En → Prop) : Prop := wFz E e fun d e1 => match d with
  | .list ds => P (enumD ds) e1
  | _ => False
theorem si_enumT (h : SE f te E) : SI f (iEnumT f.K (tCons te tNil)) (wIEnumT E) := ⟨fun {L W e σ Hz H Post R} w y k => fz_run h w y fun d e1 v Hz1 H1 h1 s1 y1 d1 => by
  split at h1
  · obtain ⟨a, xs, rfl, q1, q2⟩ := dp_tup d1
    exact ⟨_, xs, rfl, sqT y1.sm q1, k _ _ _ _ _ h1 s1 y1 (walk_enumT q1 q2)⟩
  · exact h1.elim⟩
theorem si_enum (h : SE f te E) : SI f (iEnum f.K (tCons te tNil)) (wIEnum E) := ⟨fun {L W e σ Hz H Post R} w y k => fz_run h w y fun d e1 v Hz1 H1 h1 s1 y1 d1 => by
  split at h1
  · cases d1 with
    | lst q1 q2 => exact ⟨_, _, rfl, sqL y1.sm q1, k _ _ _ _ _ h1 s1 y1 (walk_enum q1 q2)⟩
  · exact h1.elim⟩
def wIZip (E U : WE) (e : En) (P : List PyData → En → Prop) : Prop := wFz E e fun d e1 => wFz U e1 fun d' e2 => match d, d' with
  | .tuple ds, .tuple es => P (zipD ds es) e2
  | .list ds, .list es => P (zipD ds es) e2
  | _, _ => False
theorem si_zip (h : SE f te E) (h' : SE f tu U) : SI f (RZ.iZipA f.K (tCons te (tCons tu tNil))) (wIZip E U) := ⟨fun {L W e σ Hz H Post R} w y k => fz_run h w y fun d e1 v Hz1 H1 h1 s1 y1 d1 => fz_run h' h1 y1 fun d' e2 v2 Hz2 H2 h2 s2 y2 d2 => by
  split at h2
  · obtain ⟨a, xs, rfl, q1, q2⟩ := dp_tup (dp_mono s2 _ _ d1)
    obtain ⟨b, ys, rfl, q3, q4⟩ := dp_tup d2
    exact ⟨a, b, xs, ys, rfl, .inr ⟨sqT y2.sm q1, sqT y2.sm q3, k _ _ _ _ _ h2 (same_trans s1 s2) y2 (walk_zipT q1 q2 q3 q4)⟩⟩
  · cases dp_mono s2 _ _ d1 with
    | lst q1 q2 =>
      cases d2 with
      | lst q3 q4 => exact ⟨_, _, _, _, rfl, .inl ⟨sqL y2.sm q1, sqL y2.sm q3, k _ _ _ _ _ h2 (same_trans s1 s2) y2 (walk_zip q1 q2 q3 q4)⟩⟩
  · exact h2.elim⟩
end
/-! ### for -/
section
variable {f : Fr} {t : TS} {S : WS} {wi : TI} {G : WI} {g : TG} {Gt : WG} {sl : List Nat}
/-- an item is stored -/
theorem step_item {L W e σ Hz Hz0 H H' x d J its i Post Q} (hw : Walk f.K J Hz0 its) (hs : Same Hz0 Hz) (y : Sy f L W e σ Hz H) (hy : J.yld i H x H') (hd : its[i]? = some d) (hg : SG f g Gt sl) (w : Gt (.dat d) e Post)
    (k : ∀ e' σ' Hz' H', Post e' → Same Hz Hz' → Sy f L W e' σ' Hz' H' → (∀ vs, (∀ i ∈ sl, i ∈ vs) → wipe σ' vs = wipe σ vs) → Q σ' H') : g x σ H' Q := by
  rcases hw.yld i H x H' d (same_trans hs y.sm) hy hd with ⟨rfl, h1⟩ | ⟨T, xs, ds, rfl, h1, rfl, rfl, h2⟩
  · exact SG.run (L := L) (W := W) hg w y (dp_mono hs _ _ h1) k
  · have s1 := same_new (y.hz h1) (.tup xs)
    exact SG.run (L := L) (W := W) hg w (y.newT h1) (Dp.tup (SqT.of upd_same) (dps_mono (same_trans hs s1) _ _ h2)) fun e' σ' Hz' H' a b c d => k e' σ' Hz' H' a (same_trans s1 b) c d
/-- a loop's turns -/
def ForB (Gt : WG) (S : WS) (P : Po) (its : List PyData) (e1 : En) : Prop := ∃ Inv : Nat → En → Prop, Inv 0 e1 ∧
  (∀ i d e2, its[i]? = some d → Inv i e2 → Gt (.dat d) e2 fun e3 => S { P with nx := Inv (i + 1), ct := Inv (i + 1), bk := P.nx } e3) ∧ ∀ e2, Inv its.length e2 → P.nx e2
def wFor (G : WI) (Gt : WG) (S : WS) (P : Po) (e : En) : Prop := G e (ForB Gt S P)
theorem for_use {G : WI} {Gt : WG} {S : WS} {P : Po} {e : En} (h : G e (ForB Gt S P)) : wFor G Gt S P e := h
theorem ss_for (hi : SI f wi G) (hg : SG f g Gt sl) (h : SS f t S) : SS f (tFor wi g t) (wFor G Gt S) := ⟨fun {D P e σ Hz H} w y o => hi.run w y fun J its e1 Hz1 H1 w1 s1 y1 hw => by
  obtain ⟨Inv, i0, step, fin⟩ := w1
  refine ⟨fun i m σ H => m = its.length - i ∧ i ≤ its.length ∧ ∃ e Hz, Inv i e ∧ Same Hz1 Hz ∧ Sy f [] [] e σ Hz H, ⟨its.length, rfl, Nat.zero_le _, e1, Hz1, i0, same_refl, y1⟩, ?_⟩
  rintro i m σ H ⟨rfl, hi', e2, Hz2, i2, s2, y2⟩
  by_cases hlt : i < its.length
  · refine .inr ⟨hw.go i H hlt (same_trans s2 y2.sm), fun σ' H' => ∃ e Hz, Inv (i + 1) e ∧ Same Hz2 Hz ∧ Sy f [] [] e σ' Hz H', fun σ' H' ⟨e, Hz, a, b, c⟩ => ⟨its.length - (i + 1), by omega, rfl, hlt, e, Hz, a, same_trans s2 b, c⟩, fun x H' hy => ?_⟩
    refine step_item hw s2 y2 hy (List.getElem?_eq_getElem hlt) hg (step i _ e2 (List.getElem?_eq_getElem hlt) i2) fun e3 σ3 Hz3 H3 w3 s3 y3 _ => ?_
    have o1 := o.mono (same_trans s1 (same_trans s2 s3))
    exact h.run w3 y3 ⟨fun a b c => ⟨_, _, a, same_trans s3 b, c⟩, o1.rt, o1.nx, fun a b c => ⟨_, _, a, same_trans s3 b, c⟩⟩
  · have : i = its.length := by omega
    subst this
    exact .inl ⟨hw.stop H (same_trans s2 y2.sm), o.nx (fin e2 i2) (same_trans s1 s2) y2⟩⟩
end
/-! ### comprehensions -/
section
variable {f : Fr} {te : TE} {E : WE} {tt : TT} {T : WT} {wi : TI} {G : WI} {g : TG} {Gt : WG} {sl : List Nat}
/-- a comprehension's turns -/
def LcB (Gt : WG) (T : WT) (E : WE) (vs : List Nat) (P : Vl → En → Prop) (its : List PyData) (e1 : En) : Prop := ∃ Inv : Nat → List PyData → En → Prop, Inv 0 [] (wipeE e1 vs) ∧
  (∀ i d acc e2, its[i]? = some d → Inv i acc e2 → acc.length ≤ 100000 ∧ Gt (.dat d) e2 fun e3 => T e3 fun b e4 => if b = true then wFz E e4 fun y e5 => Inv (i + 1) (acc ++ [y]) (wipeE e5 vs) else Inv (i + 1) acc (wipeE e4 vs)) ∧
  ∀ acc e2, Inv its.length acc e2 → e2.length = e1.length ∧ P (.ob (.lst acc)) (back e1 vs (wipeE e2 vs))
def wLc (G : WI) (Gt : WG) (T : WT) (E : WE) (vs : List Nat) (e : En) (P : Vl → En → Prop) : Prop := G e (LcB Gt T E vs P)
theorem lc_use {G : WI} {Gt : WG} {T : WT} {E : WE} {vs : List Nat} {e : En} {P : Vl → En → Prop} (h : G e (LcB Gt T E vs P)) : wLc G Gt T E vs e P := h
theorem line_lt {n : Nat} (h : n ≤ 100000) : n < sizeLine := Nat.lt_of_le_of_lt h (by decide)
theorem se_lc {vs : List Nat} (hi : SI f wi G) (hg : SG f g Gt sl) (ht : ST f tt T) (he : SE f te E) (hv : ∀ i ∈ sl, i ∈ vs) (hn : vs.all (fun v => Nat.blt v f.n) = true := by rfl) : SE f (tLc wi g tt te vs) (wLc G Gt T E vs) := ⟨fun {L W e σ Hz H Post Q} w y k => hi.run w y fun J its e1 Hz1 H1 w1 s1 y1 hw D hD => by
  have hb : ∀ v ∈ vs, v < f.n := fun v h => Nat.le_of_ble_eq_true (List.all_eq_true.mp hn v h)
  obtain ⟨Inv, i0, step, fin⟩ := w1
  have ys : Sy f (some (.ob none (.lst [])) :: L) (some (.ref D) :: W) (wipeE e1 vs) (wipe σ vs) Hz1 (upd H1 D (.lst [])) := (y1.newO (o := .lst []) hD ⟨[], upd_same, .nil⟩).wiped vs hb
  refine ⟨fun i m H => m = its.length - i ∧ i ≤ its.length ∧ ∃ acc e Hz, Inv i acc e ∧ Same Hz1 Hz ∧ Sy f (some (.ob none (.lst acc)) :: L) (some (.ref D) :: W) e (wipe σ vs) Hz H,
    ⟨its.length, rfl, Nat.zero_le _, [], _, Hz1, i0, same_refl, ys⟩, ?_⟩
  rintro i m H ⟨rfl, hi', acc, e2, Hz2, i2, s2, y2⟩
  by_cases hlt : i < its.length
  · refine .inr ⟨hw.go i H hlt (same_trans s2 y2.sm), fun H' => ∃ acc e Hz, Inv (i + 1) acc e ∧ Same Hz1 Hz ∧ Sy f (some (.ob none (.lst acc)) :: L) (some (.ref D) :: W) e (wipe σ vs) Hz H',
      fun H' ⟨acc, e, Hz, a, b, c⟩ => ⟨its.length - (i + 1), by omega, rfl, hlt, acc, e, Hz, a, b, c⟩, fun x H' hy => ?_⟩
    obtain ⟨hl, st⟩ := step i _ acc e2 (List.getElem?_eq_getElem hlt) i2
    refine step_item hw s2 y2 hy (List.getElem?_eq_getElem hlt) hg st fun e3 σ3 Hz3 H3 w3 s3 y3 c3 => ?_
    have cw : wipe σ3 vs = wipe σ vs := by rw [c3 vs hv, wipe_wipe]
    refine ⟨cw, ht.run w3 y3 fun b e4 Hz4 H4 w4 s4 y4 => ?_⟩
    by_cases c : b = true
    · rw [if_pos c] at w4 ⊢
      refine fz_run he w4 y4 fun d e5 v Hz5 H5 w5 s5 y5 d5 => ?_
      obtain ⟨a, ea, ⟨xs, hx, hd⟩, _⟩ := y5.top
      cases ea
      refine ⟨xs, hx, line_lt (by rw [dps_len hd]; exact hl), acc ++ [d], wipeE e5 vs, Hz5, w5, same_trans s2 (same_trans s3 (same_trans s4 s5)), ?_⟩
      have y6 := (y5.wrT (u := .lst (xs ++ [v])) (o' := .lst (acc ++ [d])) ⟨_, upd_same, dps_snoc hd d5⟩).wiped vs hb
      rw [cw] at y6
      exact y6
    · rw [if_neg c] at w4 ⊢
      have y6 := y4.wiped vs hb
      rw [cw] at y6
      exact ⟨acc, wipeE e4 vs, Hz4, w4, same_trans s2 (same_trans s3 s4), y6⟩
  · have : i = its.length := by omega
    subst this
    obtain ⟨hl, hf⟩ := fin acc e2 i2
    refine .inl ⟨hw.stop H (same_trans s2 y2.sm), k _ _ _ _ _ hf (same_trans s1 s2) (Sy.back y1 s2 (y2.unwipe hb) (by rw [wipeE_len, hl]) vs) trivial⟩⟩
end
end DL


set_option Elab.async false
set_option linter.all false
set_option maxRecDepth 100000
set_option maxHeartbeats 4000000
/-! Sums of lists, methods of lists, slices, calls, defs over the layer of values. -/
namespace DL
open PySem L2 TG
theorem units1 {k : Nat} {A : Around} (r : Room k A) : A.units + 1 < cLine := by have := r.un; omega
def rCatQ (K : PySem.W.Frag) : R2 := fun x y H Q => ∃ l b xs zs, x = .ref l ∧ y = .ref b ∧ SqL K H l xs ∧ SqL K H b zs ∧ xs.length + zs.length ≤ sizeLine ∧ ∀ p, H p = none → Q (.ref p) (upd H p (.lst (xs ++ zs)))
theorem op_catQ {X : Cx} {K : PySem.W.Frag} (hK : X.K = K) : OpR X (binaryOp .Add) (rCatQ K) := by
  subst hK
  intro pins s σ H x y v u Q I rx ry h
  obtain ⟨l, b, xs, zs, rfl, rfl, hH, hB, hz, q⟩ := h
  cases rx
  cases ry
  obtain ⟨vs, r, ⟨⟨cls, dd, data, sl⟩, n, ho, hc, _, hd⟩, _⟩ := I.list hH
  obtain ⟨ws, r2, ⟨⟨cls2, dd2, data2, sl2⟩, n2, ho2, hc2, _, hd2⟩, _⟩ := I.list hB
  simp only at hc hd hc2 hd2
  subst hc hd hc2 hd2
  have e : vs.toArray ++ ws.toArray = (vs ++ ws).toArray := by simp
  have h1 := r.length
  have h2 := r2.length
  refine PySem.concat_meets ⟨_, ho, rfl⟩ ⟨_, ho2, rfl⟩ PySem.noFill_list_add PySem.seq_list_add PySem.F.slot_list_add PySem.F.entry_list_add (PySem.F.args_list_add_2 _ _) (PyProof.Rows.list_addW l b vs.toArray ws.toArray n n2 dd dd2 sl sl2 (by simp only [List.size_toArray]; omega)) ⟨ho, ho2, ?_⟩
  rw [e]
  exact ⟨.ref _, _, I.lnew (t' := s.toks) (r.append r2) (by rw [List.length_append]; exact hz), rfl, q _ I.fresh⟩
section
variable {f : Fr} {te tu : TE} {E U : WE}
theorem sr_cat : SR f (rCatQ f.K) gCat := ⟨fun {L W e σ Hz H x y d1 d2 Post Q} r1 r2 s h k => by
  unfold gCat at h
  split at h
  · obtain ⟨a, xs, rfl, q1, q2⟩ := r1
    obtain ⟨b, ys, rfl, q3, q4⟩ := r2
    exact ⟨a, b, xs, ys, rfl, rfl, q1, q3, by rw [dps_len q2, dps_len q4]; exact h.1, fun p hp => k _ _ _ _ h.2 same_refl (s.newO (o := .lst _) hp ⟨_, upd_same, dps_app q2 q4⟩) trivial⟩
  · exact h.elim⟩
/-! ### methods of the list of a slot -/
theorem var_at {L e : En} {W σ : St} {Hz H : Hp} {i : Nat} {t : Option Nat} {o : Ob} (y : Sy f L W e σ Hz H) (q : e[i]? = some (some (.ob t o))) : ∃ a, σ[i]? = some (some (.ref a)) := by
  obtain ⟨a, h, _⟩ := y.ob q
  exact ⟨a, h⟩
def wApp (i : Nat) (E : WE) (e : En) (P : Vl → En → Prop) : Prop := match e[i]? with
  | some (some (.ob _ (.lst _))) => wFz E e fun d e1 => match e1[i]? with
    | some (some (.ob t (.lst ds))) => ds.length ≤ 100000 ∧ P (.dat .none) (e1.set i (some (.ob t (.lst (ds ++ [d])))))
    | _ => False
  | _ => False
theorem se_app {i : Nat} (h : SE f te E) : SE f (tBM f.K "list" rAppend (tVar i) (tCons te tNil)) (wApp i E) := ⟨fun {L W e σ Hz H Post Q} w y k => by
  unfold wApp at w
  split at w
  · rename_i t ds q
    obtain ⟨a, h1, ⟨xs, h2, h3⟩, h4⟩ := y.ob q
    refine ⟨_, h1, .inl ⟨rfl, xs, SqL.of h2⟩, ?_⟩
    refine fz_run h w y fun d e1 v Hz1 H1 w1 s1 y1 d1 => ?_
    split at w1
    · rename_i t2 ds2 q2
      obtain ⟨a2, g1, ⟨xs2, g2, g3⟩, g4⟩ := y1.ob q2
      rw [h1] at g1
      cases g1
      exact ⟨a, xs2, v, rfl, rfl, g2, line_lt (by rw [dps_len g3]; exact w1.1), k _ _ _ _ _ w1.2 s1 (y1.wr q2 h1 ⟨_, upd_same, dps_snoc g3 d1⟩) Dp.non⟩
    · exact w1.elim
  · exact w.elim⟩
/-- a tracked list -/
def trk : Vl → En → Option (List PyData)
  | .ob (.lst ds), _ => some ds
  | .own i, e => match e[i]? with
    | some (some (.ob _ (.lst ds))) => some ds
    | _ => none
  | _, _ => none
theorem Sy.trk {L e : En} {W σ : St} {Hz H : Hp} {b : Vl} {v : V} {ds : List PyData} (y : Sy f (tmp b L) (tmv b v W) e σ Hz H) (hv : Val f b v σ Hz) (h : trk b e = some ds) : ∃ a xs, v = .ref a ∧ H a = some (.lst xs) ∧ DpAll f.K Hz xs ds := by
  cases b with
  | dat d' => cases h
  | ob o =>
    cases o with
    | lst ds =>
      cases h
      obtain ⟨a, ea, ⟨xs, h1, h2⟩, _⟩ := Sy.top y
      cases ea
      exact ⟨a, xs, rfl, h1, h2⟩
    | _ => cases h
  | own i =>
    simp only [DL.trk] at h
    split at h
    · rename_i t ds q
      cases h
      obtain ⟨a, e1, ⟨xs, h1, h2⟩, _⟩ := y.ob q
      have hv' : σ[i]? = some (some v) := hv
      rw [hv'] at e1
      cases e1
      exact ⟨a, xs, rfl, h1, h2⟩
    · cases h
  | gob n a => cases h
def wExt (i : Nat) (E : WE) (e : En) (P : Vl → En → Prop) : Prop := match e[i]? with
  | some (some (.ob _ (.lst _))) => E e fun b e1 => ob1 (trk b e1) fun es => match e1[i]? with
    | some (some (.ob t (.lst ds))) => ds.length + es.length ≤ 100000 ∧ P (.dat .none) (e1.set i (some (.ob t (.lst (ds ++ es)))))
    | _ => False
  | _ => False
theorem se_ext {i : Nat} (h : SE f te E) : SE f (tBM f.K "list" rExtend (tVar i) (tCons te tNil)) (wExt i E) := ⟨fun {L W e σ Hz H Post Q} w y k => by
  unfold wExt at w
  split at w
  · rename_i t ds q
    obtain ⟨a, h1, ⟨xs, h2, h3⟩, h4⟩ := y.ob q
    refine ⟨_, h1, .inl ⟨rfl, xs, SqL.of h2⟩, ?_⟩
    refine h.run w y fun b e1 v Hz1 H1 w1 s1 y1 l1 => ?_
    obtain ⟨es, c, w1⟩ := ob1_ex w1
    obtain ⟨b', zs, rfl, c1, c2⟩ := y1.trk l1 c
    split at w1
    · rename_i t2 ds2 q2
      obtain ⟨a2, g1, ⟨xs2, g2, g3⟩, g4⟩ := y1.ob q2
      rw [h1] at g1
      cases g1
      exact ⟨a, b', xs2, zs, rfl, rfl, g2, c1, Evl.sz_of (by rw [dps_len g3, dps_len c2]; exact w1.1), k _ _ _ _ _ w1.2 s1 (y1.un.wr q2 h1 ⟨_, upd_same, dps_app g3 c2⟩) Dp.non⟩
    · exact w1.elim
  · exact w.elim⟩
def wPop (i : Nat) (e : En) (P : Vl → En → Prop) : Prop := match e[i]? with
  | some (some (.ob t (.lst ds))) => ob1 (ds[ds.length - 1]?) fun d => P (.dat d) (e.set i (some (.ob t (.lst ds.dropLast))))
  | _ => False
theorem dps_dropLast {K : PySem.W.Frag} {Hz : Hp} {xs : List V} {ds : List PyData} (h : DpAll K Hz xs ds) : DpAll K Hz xs.dropLast ds.dropLast := by
  rw [List.dropLast_eq_take, List.dropLast_eq_take, dps_len h]
  exact dps_take _ h
theorem se_pop {i : Nat} : SE f (tBM0 f.K "list" rPop (tVar i)) (wPop i) := ⟨fun {L W e σ Hz H Post Q} w y k => by
  unfold wPop at w
  split at w
  · rename_i t ds q
    obtain ⟨d, c, w⟩ := ob1_ex w
    obtain ⟨a, h1, ⟨xs, h2, h3⟩, h4⟩ := y.ob q
    obtain ⟨x, g1, g2⟩ := dps_get h3 _ _ c
    exact ⟨_, h1, .inl ⟨rfl, xs, SqL.of h2⟩, a, xs, x, rfl, rfl, h2, by rw [dps_len h3]; exact g1, k _ _ _ _ _ w same_refl (y.wr q h1 ⟨_, upd_same, dps_dropLast h3⟩) g2⟩
  · exact w.elim⟩
/-! ### slices -/
def wNoPart (e : En) (P : Option Int → En → Prop) : Prop := P none e
def wPart (E : WE) (e : En) (P : Option Int → En → Prop) : Prop := wFz E e fun d e1 => match d with
  | .int i => P (some i) e1
  | _ => False
theorem so_none : SO f tNoPart wNoPart := ⟨fun w y k => k _ _ _ _ w same_refl y⟩
theorem so_some (h : SE f te E) : SO f (tPart te) (wPart E) := ⟨fun {L W e σ Hz H Post Q} w y k => fz_run h w y fun d e1 v Hz1 H1 w1 s1 y1 d1 => by
  split at w1
  · cases d1
    exact ⟨_, rfl, k _ _ _ _ w1 s1 y1⟩
  · exact w1.elim⟩
def cutD (xs : List PyData) (lo hi : Option Int) : List PyData := (xs.drop (HT.sIx xs.length 0 lo)).take (HT.sIx xs.length xs.length hi - HT.sIx xs.length 0 lo)
theorem dps_cut {K : PySem.W.Frag} {Hz : Hp} {xs : List V} {ds : List PyData} (lo hi : Option Int) (h : DpAll K Hz xs ds) : DpAll K Hz (cutV xs lo hi) (cutD ds lo hi) := by
  unfold cutV cutD
  rw [dps_len h]
  exact dps_take _ (dps_drop _ h)
def wSlT (E : WE) (A B : WO) (e : En) (P : Vl → En → Prop) : Prop := wFz E e fun d e1 => A e1 fun lo e2 => B e2 fun hi e3 => match d with
  | .tuple ds => P (.dat (.tuple (cutD ds lo hi))) e3
  | _ => False
theorem se_slT {tl th : TO} {A B : WO} (h : SE f te E) (hl : SO f tl A) (hh : SO f th B) : SE f (tSl (rSlA f.K) te tl th) (wSlT E A B) := ⟨fun {L W e σ Hz H Post Q} w y k =>
  fz_run h w y fun d e1 v Hz1 H1 w1 s1 y1 d1 => hl.run w1 y1 fun lo e2 Hz2 H2 w2 s2 y2 => hh.run w2 y2 fun hi e3 Hz3 H3 w3 s3 y3 => by
    split at w3
    · obtain ⟨a, xs, rfl, q1, q2⟩ := dp_tup (dp_mono (same_trans s2 s3) _ _ d1)
      have qc := dps_cut lo hi q2
      refine ⟨a, xs, rfl, sqT y3.sm q1, fun c => ?_, fun c p hp => ?_⟩
      · have e2 : cutV xs lo hi = xs := by
          unfold cutV
          rw [c.1, c.2]
          simp
        rw [e2] at qc
        exact k _ _ _ _ _ w3 (same_trans s1 (same_trans s2 s3)) y3 (Dp.tup q1 qc)
      · have s4 := same_new (y3.hz hp) (.tup (cutV xs lo hi))
        exact k _ _ _ _ _ w3 (same_trans s1 (same_trans s2 (same_trans s3 s4))) (y3.newT hp) (Dp.tup (SqT.of upd_same) (dps_mono s4 _ _ qc))
    · exact w3.elim⟩
def wSlL (E : WE) (A B : WO) (e : En) (P : Vl → En → Prop) : Prop := wFz E e fun d e1 => A e1 fun lo e2 => B e2 fun hi e3 => match d with
  | .list ds => P (.ob (.lst (cutD ds lo hi))) e3
  | _ => False
theorem se_slL {tl th : TO} {A B : WO} (h : SE f te E) (hl : SO f tl A) (hh : SO f th B) : SE f (tSl (rSlL f.K) te tl th) (wSlL E A B) := ⟨fun {L W e σ Hz H Post Q} w y k =>
  fz_run h w y fun d e1 v Hz1 H1 w1 s1 y1 d1 => hl.run w1 y1 fun lo e2 Hz2 H2 w2 s2 y2 => hh.run w2 y2 fun hi e3 Hz3 H3 w3 s3 y3 => by
    split at w3
    · cases dp_mono (same_trans s2 s3) _ _ d1 with
      | lst q1 q2 => exact ⟨_, _, rfl, sqL y3.sm q1, fun p hp => k _ _ _ _ _ w3 (same_trans s1 (same_trans s2 s3)) (y3.newO (o := .lst _) hp ⟨_, upd_same, dps_cut lo hi q2⟩) trivial⟩
    · exact w3.elim⟩
end
/-! ### the operations on data, for simp -/
theorem eI0 {g : Int → Int → V} {i j : Int} {P : Vl → Prop} : gI0 g (.int i) (.int j) P = (P (.dat (vD (g i j)))) := rfl
theorem eI {C : Int → Int → Prop} {g : Int → Int → V} {i j : Int} {P : Vl → Prop} : gI C g (.int i) (.int j) P = (C i j ∧ P (.dat (vD (g i j)))) := rfl
theorem eInD {neg : Bool} {d1 : PyData} {ds : List PyData} {P : Vl → Prop} : gInD neg d1 (.list ds) P = (SeqAt.shaped d1 = true ∧ SeqAt.shaped (.list ds) = true ∧ P (.dat (.bool (if neg then !(ds.any fun z => PyData.eqv z d1) else ds.any fun z => PyData.eqv z d1)))) := rfl
theorem eInL {neg : Bool} {d1 : PyData} {ds : List PyData} {P : Vl → Prop} : gIn neg d1 (.list ds) P = (flatD d1 = true ∧ ds.all flatD = true ∧ P (.dat (.bool (if neg then !inV (dV d1) (ds.map dV) else inV (dV d1) (ds.map dV))))) := rfl
theorem eInT {neg : Bool} {d1 : PyData} {ds : List PyData} {P : Vl → Prop} : gIn neg d1 (.tuple ds) P = (flatD d1 = true ∧ ds.all flatD = true ∧ P (.dat (.bool (if neg then !inV (dV d1) (ds.map dV) else inV (dV d1) (ds.map dV))))) := rfl
theorem eIxL {ds : List PyData} {i : Int} {P : Vl → Prop} : gIxL (.list ds) (.int i) P = (ob1 (atI ds i) fun d => P (.dat d)) := rfl
theorem eIxT {ds : List PyData} {i : Int} {P : Vl → Prop} : gIxT (.tuple ds) (.int i) P = (ob1 (atI ds i) fun d => P (.dat d)) := rfl
theorem eIx1 {ds : List PyData} {i : Int} {P : Vl → Prop} : gIx (.list ds) (.int i) P = (ob1 (atI ds i) fun d => P (.dat d)) := rfl
theorem eIx2 {ds : List PyData} {i : Int} {P : Vl → Prop} : gIx (.tuple ds) (.int i) P = (ob1 (atI ds i) fun d => P (.dat d)) := rfl
theorem eIxS {z : Str} {i : Int} {P : Vl → Prop} : gIxS (.str z) (.int i) P = (z.length ≤ sizeLine ∧ ob1 (atI z.cps.toList i) fun c => P (.dat (.str ⟨#[c]⟩))) := rfl
theorem eIsN {neg : Bool} {d1 : PyData} {P : Vl → Prop} : gIsN neg d1 .none P = (P (.dat (.bool (if neg then !isNone d1 else isNone d1)))) := rfl
theorem eCat {ds es : List PyData} {P : Vl → Prop} : gCat (.list ds) (.list es) P = (ds.length + es.length ≤ sizeLine ∧ P (.ob (.lst (ds ++ es)))) := rfl
theorem eCatT {ds es : List PyData} {P : Vl → Prop} : gCatT (.tuple ds) (.tuple es) P = (ds.length + es.length ≤ sizeLine ∧ P (.dat (.tuple (ds ++ es)))) := rfl
theorem eLen_list {ds : List PyData} {P : Vl → Prop} : gLen (.list ds) P = (P (.dat (.int ds.length))) := rfl
theorem eTupOf_list {ds : List PyData} {P : Vl → Prop} : gTupOf (.list ds) P = (P (.dat (.tuple ds))) := rfl
theorem eListOf_list {ds : List PyData} {P : Vl → Prop} : gListOf (.list ds) P = (P (.ob (.lst ds))) := rfl
theorem eLen_tuple {ds : List PyData} {P : Vl → Prop} : gLen (.tuple ds) P = (P (.dat (.int ds.length))) := rfl
theorem eTupOf_tuple {ds : List PyData} {P : Vl → Prop} : gTupOf (.tuple ds) P = (P (.dat (.tuple ds))) := rfl
theorem eListOf_tuple {ds : List PyData} {P : Vl → Prop} : gListOf (.tuple ds) P = (P (.ob (.lst ds))) := rfl
theorem eSum {ds : List PyData} {P : Vl → Prop} : gSum (.list ds) P = (ob1 (intsD ds) fun ns => P (.dat (.int ns.sum))) := rfl
theorem eMax {ds : List PyData} {P : Vl → Prop} : gMax (.list ds) P = (ob1 (intsD ds) fun ns => 0 < ns.length ∧ ∀ m, m ∈ ns → (∀ y ∈ ns, y ≤ m) → P (.dat (.int m))) := rfl
theorem eMin {ds : List PyData} {P : Vl → Prop} : gMin (.list ds) P = (ob1 (intsD ds) fun ns => 0 < ns.length ∧ ∀ m, m ∈ ns → (∀ y ∈ ns, m ≤ y) → P (.dat (.int m))) := rfl
theorem eAll {ds : List PyData} {P : Vl → Prop} : gAll (.list ds) P = (ob1 (boolsD ds) fun ns => P (.dat (.bool (ns.all id)))) := rfl
theorem eAny {ds : List PyData} {P : Vl → Prop} : gAny (.list ds) P = (ob1 (boolsD ds) fun ns => P (.dat (.bool (ns.any id)))) := rfl
theorem eSorted {ds : List PyData} {P : Vl → Prop} : gSorted (.list ds) P = (ob1 (intsD ds) fun ns => ∀ ns' : List Int, ns'.Perm ns → ns'.Pairwise (· ≤ ·) → P (.ob (.lst (ns'.map PyData.int)))) := rfl
theorem eSortSet {ds : List PyData} {P : Vl → Prop} : gSortSet (.list ds) P = (ob1 (intsD ds) fun ns => ns.length < 64 ∧ ∀ ns' : List Int, ns'.Pairwise (· < ·) → (∀ k, k ∈ ns' ↔ k ∈ ns) → P (.ob (.lst (ns'.map PyData.int)))) := rfl
theorem eInt_int {i : Int} {P : Vl → Prop} : gInt (.int i) P = (P (.dat (.int i))) := rfl
theorem eInt_bool {b : Bool} {P : Vl → Prop} : gInt (.bool b) P = (P (.dat (.int (if b then 1 else 0)))) := rfl
theorem eAbs {i : Int} {P : Vl → Prop} : gAbs (.int i) P = (P (.dat (.int (if i < 0 then -i else i)))) := rfl
theorem ety_none  : tyD .none = ("NoneType") := rfl
theorem eno_none  : isNone .none = (true) := rfl
theorem efl_none  : flatD .none = (true) := rfl
theorem ety_bool {b : Bool} : tyD (.bool b) = ("bool") := rfl
theorem eno_bool {b : Bool} : isNone (.bool b) = (false) := rfl
theorem efl_bool {b : Bool} : flatD (.bool b) = (true) := rfl
theorem ety_int {i : Int} : tyD (.int i) = ("int") := rfl
theorem eno_int {i : Int} : isNone (.int i) = (false) := rfl
theorem efl_int {i : Int} : flatD (.int i) = (true) := rfl
theorem ety_str {x : Str} : tyD (.str x) = ("str") := rfl
theorem eno_str {x : Str} : isNone (.str x) = (false) := rfl
theorem efl_str {x : Str} : flatD (.str x) = (true) := rfl
theorem ety_list {ds : List PyData} : tyD (.list ds) = ("list") := rfl
theorem eno_list {ds : List PyData} : isNone (.list ds) = (false) := rfl
theorem efl_list {ds : List PyData} : flatD (.list ds) = (false) := rfl
theorem ety_tuple {ds : List PyData} : tyD (.tuple ds) = ("tuple") := rfl
theorem eno_tuple {ds : List PyData} : isNone (.tuple ds) = (false) := rfl
theorem efl_tuple {ds : List PyData} : flatD (.tuple ds) = (false) := rfl
theorem etr_none  : truD .none = (some false) := rfl
theorem etr_bool {b : Bool} : truD (.bool b) = (some b) := rfl
theorem etr_int {i : Int} : truD (.int i) = (some (i != 0)) := rfl
theorem etr_list {ds : List PyData} : truD (.list ds) = (some (!ds.isEmpty)) := rfl
theorem etr_tuple {ds : List PyData} : truD (.tuple ds) = (some (!ds.isEmpty)) := rfl
theorem evd_non  : vD .non = (.none) := rfl
theorem evd_bl {b : Bool} : vD (.bl b) = (.bool b) := rfl
theorem evd_int {i : Int} : vD (.int i) = (.int i) := rfl
theorem evd_str {x : Str} : vD (.str x) = (.str x) := rfl
theorem etk_ob {ds : List PyData} {e : En} : trk (.ob (.lst ds)) e = (some ds) := rfl
theorem cast_0 : ((0 : Nat) : Int) = 0 := rfl
theorem cast_1 : ((1 : Nat) : Int) = 1 := rfl
theorem cast_2 : ((2 : Nat) : Int) = 2 := rfl
theorem cast_3 : ((3 : Nat) : Int) = 3 := rfl
theorem cast_4 : ((4 : Nat) : Int) = 4 := rfl
theorem cast_5 : ((5 : Nat) : Int) = 5 := rfl
theorem cast_6 : ((6 : Nat) : Int) = 6 := rfl
theorem cast_7 : ((7 : Nat) : Int) = 7 := rfl
theorem cast_8 : ((8 : Nat) : Int) = 8 := rfl
theorem ix_1_0 : ixN 1 0 = some 0 := rfl
theorem ix_2_0 : ixN 2 0 = some 0 := rfl
theorem ix_2_1 : ixN 2 1 = some 1 := rfl
theorem ix_3_0 : ixN 3 0 = some 0 := rfl
theorem ix_3_1 : ixN 3 1 = some 1 := rfl
theorem ix_3_2 : ixN 3 2 = some 2 := rfl
theorem ix_4_0 : ixN 4 0 = some 0 := rfl
theorem ix_4_1 : ixN 4 1 = some 1 := rfl
theorem ix_4_2 : ixN 4 2 = some 2 := rfl
theorem ix_4_3 : ixN 4 3 = some 3 := rfl
theorem at_0 {α : Type} {x : α} {r : List α} : atI (x :: r) 0 = some x := atI_nat (j := 0) rfl
theorem at_1 {α : Type} {x y : α} {r : List α} : atI (x :: y :: r) 1 = some y := atI_nat (j := 1) rfl
theorem at_2 {α : Type} {x y z : α} {r : List α} : atI (x :: y :: z :: r) 2 = some z := atI_nat (j := 2) rfl
theorem at_3 {α : Type} {x y z u : α} {r : List α} : atI (x :: y :: z :: u :: r) 3 = some u := atI_nat (j := 3) rfl
/-! ### shape and equality of small data -/
theorem shaped_int (i : Int) : SeqAt.shaped (.int i) = true := by unfold SeqAt.shaped; simp [PyData.canLay0, PyData.depth]
theorem shaped_bool (b : Bool) : SeqAt.shaped (.bool b) = true := by unfold SeqAt.shaped; simp [PyData.canLay0, PyData.depth]
theorem shaped_none : SeqAt.shaped .none = true := by unfold SeqAt.shaped; simp [PyData.canLay0, PyData.depth]
theorem shaped_str (x : Str) : SeqAt.shaped (.str x) = PyData.strOk x := by unfold SeqAt.shaped; simp [PyData.canLay0, PyData.depth]
theorem eqv_int (i j : Int) : PyData.eqv (.int i) (.int j) = decide (i = j) := by rw [PyData.eqv]; exact (Bool.beq_eq_decide_eq i j)
theorem eqv_bool (i j : Bool) : PyData.eqv (.bool i) (.bool j) = decide (i = j) := by rw [PyData.eqv]; exact (Bool.beq_eq_decide_eq i j)
theorem eqv_str (i j : Str) : PyData.eqv (.str i) (.str j) = decide (i = j) := by
  rw [PyData.eqv]
  exact Bool.beq_eq_decide_eq i j
theorem eqv_nn : PyData.eqv .none .none = true := by rw [PyData.eqv]
theorem map_get {α β : Type} {l : List α} {g : α → β} {i : Nat} {d : β} (h : (l.map g)[i]? = some d) : ∃ x, l[i]? = some x ∧ g x = d := by
  rw [List.getElem?_map] at h
  cases c : l[i]? with
  | none => rw [c] at h; cases h
  | some x => rw [c] at h; exact ⟨x, rfl, Option.some.inj h⟩
theorem range_get {lo : Int} {n i : Nat} {d : PyData} (h : (rangeD lo n)[i]? = some d) : i < n ∧ d = .int (lo + i) := by
  obtain ⟨x, h1, rfl⟩ := map_get h
  have hi : i < n := by have := (List.getElem?_eq_some_iff.mp h1).1; simpa using this
  rw [List.getElem?_range hi] at h1
  cases h1
  exact ⟨hi, rfl⟩
theorem range_len {lo : Int} {n : Nat} : (rangeD lo n).length = n := by simp [rangeD]
theorem bools_rep (n : Nat) (b : Bool) : boolsD (List.replicate n (.bool b)) = some (List.replicate n b) := by
  have := boolsD_map (List.replicate n b)
  rwa [List.map_replicate] at this
theorem all_rep (n : Nat) : (List.replicate n true).all id = true := by simp
theorem rep_succ {α : Type} (n : Nat) (a : α) : List.replicate (n + 1) a = List.replicate n a ++ [a] := List.replicate_succ'
/-! ### loops over written things; comprehensions without a state -/
def runFor (Gt : WG) (S : WS) (P : Po) : List PyData → En → Prop
  | [], e => P.nx e
  | d :: ds, e => Gt (.dat d) e fun e3 => S { P with nx := runFor Gt S P ds, ct := runFor Gt S P ds, bk := P.nx } e3
theorem for_unroll {Gt : WG} {S : WS} {P : Po} {its : List PyData} {e1 : En} (h : runFor Gt S P its e1) : ForB Gt S P its e1 := by
  refine ⟨fun i e => runFor Gt S P (its.drop i) e, h, fun i d e2 hd hi => ?_, fun e2 hi => ?_⟩
  · have hl : i < its.length := (List.getElem?_eq_some_iff.mp hd).1
    have e := List.drop_eq_getElem_cons hl
    dsimp only at hi
    rw [e] at hi
    have : its[i] = d := by rw [List.getElem?_eq_getElem hl] at hd; exact Option.some.inj hd
    rw [this] at hi
    exact hi
  · dsimp only at hi
    rw [List.drop_length] at hi
    exact hi
theorem lc_acc {Gt : WG} {T : WT} {E : WE} {vs : List Nat} {its : List PyData} {e1 e0 : En} {P : Vl → En → Prop} (acc : Nat → List PyData) (h0 : acc 0 = []) (he : e0 = wipeE e1 vs) (hl : ∀ i, i < its.length → (acc i).length ≤ 100000)
    (hs : ∀ i d, its[i]? = some d → Gt (.dat d) e0 fun e3 => T e3 fun b e4 => if b = true then wFz E e4 fun y e5 => acc (i + 1) = acc i ++ [y] ∧ wipeE e5 vs = e0 else acc (i + 1) = acc i ∧ wipeE e4 vs = e0)
    (hP : P (.ob (.lst (acc its.length))) (back e1 vs (wipeE e0 vs))) : LcB Gt T E vs P its e1 := by
  refine ⟨fun i ac e => acc i = ac ∧ e = e0, ⟨h0, he.symm⟩, ?_, ?_⟩
  · rintro i d ac e2 hd ⟨rfl, rfl⟩
    exact ⟨hl i (List.getElem?_eq_some_iff.mp hd).1, hs i d hd⟩
  · rintro ac e2 ⟨rfl, rfl⟩
    exact ⟨by rw [he, wipeE_len], hP⟩
/-! ### data that are not too deep, not too wide -/
def Fine : Nat → PyData → Prop
  | _, .none => True
  | _, .bool _ => True
  | _, .int _ => True
  | _, .str x => PyData.strOk x = true
  | m + 1, .tuple ds => ds.length ≤ 40000 ∧ ∀ d ∈ ds, Fine m d
  | m + 1, .list ds => ds.length ≤ 40000 ∧ ∀ d ∈ ds, Fine m d
  | 0, .tuple _ => False
  | 0, .list _ => False
  | _, .dict _ => False
theorem Fine.small : ∀ {m : Nat} {d : PyData}, Fine m d → Small m d
  | m, .none, _ => ⟨by rw [PyData.canLay0], by rw [PyData.depth]; exact Nat.zero_le _⟩
  | m, .bool _, _ => ⟨by rw [PyData.canLay0], by rw [PyData.depth]; exact Nat.zero_le _⟩
  | m, .int _, _ => ⟨by rw [PyData.canLay0], by rw [PyData.depth]; exact Nat.zero_le _⟩
  | m, .str x, h => ⟨by rw [PyData.canLay0]; unfold Fine at h; exact h, by rw [PyData.depth]; exact Nat.zero_le _⟩
  | m + 1, .tuple ds, h => by
    unfold Fine at h
    exact Small.tuple fun d hd => Fine.small (h.2 d hd)
  | m + 1, .list ds, h => by
    unfold Fine at h
    exact Small.list fun d hd => Fine.small (h.2 d hd)
  | 0, .tuple _, h => by unfold Fine at h; exact h.elim
  | 0, .list _, h => by unfold Fine at h; exact h.elim
  | m, .dict _, h => by cases m <;> (unfold Fine at h; exact h.elim)
theorem Fine.ok {m : Nat} {d : PyData} (h : Fine m d) (hm : m ≤ 64) : SeqAt.shaped d = true := h.small.ok hm
theorem Fine.mono : ∀ {m n : Nat} {d : PyData}, Fine m d → m ≤ n → Fine n d
  | m, n, .none, _, _ => by cases n <;> (unfold Fine; trivial)
  | m, n, .bool _, _, _ => by cases n <;> (unfold Fine; trivial)
  | m, n, .int _, _, _ => by cases n <;> (unfold Fine; trivial)
  | m, n, .str x, h, _ => by cases n <;> (unfold Fine at h ⊢; exact h)
  | m + 1, 0, .tuple ds, h, hn => by omega
  | m + 1, n + 1, .tuple ds, h, hn => by
    unfold Fine at h ⊢
    exact ⟨h.1, fun d hd => Fine.mono (h.2 d hd) (by omega)⟩
  | m + 1, 0, .list ds, h, hn => by omega
  | m + 1, n + 1, .list ds, h, hn => by
    unfold Fine at h ⊢
    exact ⟨h.1, fun d hd => Fine.mono (h.2 d hd) (by omega)⟩
  | 0, n, .tuple _, h, _ => by unfold Fine at h; exact h.elim
  | 0, n, .list _, h, _ => by unfold Fine at h; exact h.elim
  | m, n, .dict _, h, _ => by cases m <;> (unfold Fine at h; exact h.elim)
theorem Fine.int {m : Nat} (i : Int) : Fine m (.int i) := by cases m <;> (unfold Fine; trivial)
theorem Fine.bool {m : Nat} (i : Bool) : Fine m (.bool i) := by cases m <;> (unfold Fine; trivial)
theorem Fine.non {m : Nat} : Fine m .none := by cases m <;> (unfold Fine; trivial)
theorem Fine.str {m : Nat} {x : Str} (h : PyData.strOk x = true) : Fine m (.str x) := by cases m <;> (unfold Fine; exact h)
theorem Fine.tup {m : Nat} {ds : List PyData} (h : ds.length ≤ 40000) (hd : ∀ d ∈ ds, Fine m d) : Fine (m + 1) (.tuple ds) := by
  unfold Fine
  exact ⟨h, hd⟩
theorem Fine.lst {m : Nat} {ds : List PyData} (h : ds.length ≤ 40000) (hd : ∀ d ∈ ds, Fine m d) : Fine (m + 1) (.list ds) := by
  unfold Fine
  exact ⟨h, hd⟩
theorem fine_row {ds : List Nat} (h : ds.length ≤ 40000) : Fine 1 (rowD ds) := Fine.tup (by rw [List.length_map]; exact h) fun d hd => by
  obtain ⟨n, _, rfl⟩ := List.mem_map.mp hd
  exact .int _
theorem fine_rows {rs : List (List Nat)} (h : rs.length ≤ 40000) (hr : ∀ r ∈ rs, r.length ≤ 40000) : Fine 2 (rowsD rs) := Fine.tup (by rw [List.length_map]; exact h) fun d hd => by
  obtain ⟨r, hm, rfl⟩ := List.mem_map.mp hd
  exact fine_row (hr r hm)
mutual
theorem eqv_self : ∀ {m : Nat} (d : PyData), Fine m d → PyData.eqv d d = true
  | m, .none, _ => eqv_nn
  | m, .bool b, _ => by rw [eqv_bool]; simp
  | m, .int b, _ => by rw [eqv_int]; simp
  | m, .str b, _ => by rw [eqv_str]; simp
  | m + 1, .tuple ds, h => by
    unfold Fine at h
    rw [PyData.eqv]
    exact eqvAll_self ds h.2
  | m + 1, .list ds, h => by
    unfold Fine at h
    rw [PyData.eqv]
    exact eqvAll_self ds h.2
  | 0, .tuple _, h => by unfold Fine at h; exact h.elim
  | 0, .list _, h => by unfold Fine at h; exact h.elim
  | m, .dict _, h => by cases m <;> (unfold Fine at h; exact h.elim)
theorem eqvAll_self : ∀ {m : Nat} (ds : List PyData), (∀ d ∈ ds, Fine m d) → PyData.eqvAll ds ds = true
  | m, [], _ => by rw [PyData.eqvAll]
  | m, d :: ds, h => by rw [PyData.eqvAll, eqv_self d (h d List.mem_cons_self), eqvAll_self ds fun x hx => h x (List.mem_cons_of_mem _ hx)]; rfl
end
theorem shaped_nil : SeqAt.shaped (.list []) = true := (Fine.lst (m := 0) (ds := []) (by simp) (by simp)).ok (by decide)
theorem shaped_nilT : SeqAt.shaped (.tuple []) = true := (Fine.tup (m := 0) (ds := []) (by simp) (by simp)).ok (by decide)
theorem eqv_lnil (ds : List PyData) : PyData.eqv (.list ds) (.list []) = ds.isEmpty := by
  rw [PyData.eqv]
  cases ds <;> simp [PyData.eqvAll]
theorem eqv_tnil (ds : List PyData) : PyData.eqv (.tuple ds) (.tuple []) = ds.isEmpty := by
  rw [PyData.eqv]
  cases ds <;> simp [PyData.eqvAll]
/-! ### defs -/
abbrev FSp := En → (Vl → En → Prop) → Prop
def spD (K : PySem.W.Frag) (F : FSp) : Sp := fun vs H Q _ => ∃ (args : En) (A : List Addr) (Hz : Hp) (P : Vl → En → Prop), Sy ⟨K, A, Hz, H, vs.length⟩ [] [] args (vs.map some) Hz H ∧ args.length = vs.length ∧
  F args P ∧ ∀ b outs, P b outs → ∀ v Hz' H', Sy ⟨K, A, Hz, H, vs.length⟩ (tmp b []) (tmv b v []) outs (vs.map some) Hz' H' → Val ⟨K, A, Hz, H, vs.length⟩ b v [] Hz' → Q v H'
theorem spD_len {K : PySem.W.Frag} {F : FSp} {n : Nat} (hF : ∀ args P, F args P → args.length = n) {vs : List V} {H : Hp} {Q : VK} {E : XK} (h : spD K F vs H Q E) : vs.length = n := by
  obtain ⟨args, A, Hz, P, y, hl, hf, _⟩ := h
  rw [← hl]
  exact hF _ _ hf
/-- the same with shared objects -/
abbrev GSp := En → Gh → (Vl → En → Gh → Prop) → Prop
def spG (K : PySem.W.Frag) (F : GSp) : Sp := fun vs H Q _ => ∃ (args : En) (G : Gh) (A : List Addr) (Hz : Hp) (P : Vl → En → Gh → Prop), Sy ⟨K, A, Hz, H, vs.length⟩ [] [] (args ++ [some (.gs G)]) (vs.map some) Hz H ∧ args.length = vs.length ∧
  F args G P ∧ ∀ b outs G', P b outs G' → outs.length = vs.length → ∀ v Hz' H', Sy ⟨K, A, Hz, H, vs.length⟩ (tmp b []) (tmv b v []) (outs ++ [some (.gs G')]) (vs.map some) Hz' H' → Val ⟨K, A, Hz, H, vs.length⟩ b v [] Hz' → Q v H'
theorem spG_len {K : PySem.W.Frag} {F : GSp} {n : Nat} (hF : ∀ args G P, F args G P → args.length = n) {vs : List V} {H : Hp} {Q : VK} {E : XK} (h : spG K F vs H Q E) : vs.length = n := by
  obtain ⟨args, G, A, Hz, P, y, hl, hf, _⟩ := h
  rw [← hl]
  exact hF _ _ _ hf
/-- what has become of the objects that were given -/
def out1 : Option B → Option B → Option B
  | some (.ob (some j) _), some (.ob (some j') o) => if j = j' then some (.ob (some j) o) else none
  | _, _ => none
def outsOf : En → En → En
  | [], _ => []
  | _ :: as, [] => none :: outsOf as []
  | a :: as, x :: es => out1 a x :: outsOf as es
theorem outs_nil {e : En} : outsOf [] e = [] := by cases e <;> rfl
theorem outs_cons {a x : Option B} {as es : En} : outsOf (a :: as) (x :: es) = out1 a x :: outsOf as es := rfl
theorem out1_dat {d : PyData} {x : Option B} : out1 (some (.dat d)) x = none := by cases x <;> rfl
theorem out1_none {x : Option B} : out1 none x = none := by cases x <;> rfl
theorem out1_ob {j : Nat} {o o' : Ob} : out1 (some (.ob (some j) o)) (some (.ob (some j) o')) = some (.ob (some j) o') := by simp [out1]
theorem outsOf_len : ∀ (as es : En), (outsOf as es).length = as.length
  | [], _ => by rw [outs_nil]
  | _ :: as, [] => by rw [outsOf, List.length_cons, outsOf_len as [], List.length_cons]
  | _ :: as, _ :: es => by rw [outsOf, List.length_cons, outsOf_len as es, List.length_cons]
/-- where the objects that were given stand -/
inductive Gv (A : List Addr) : En → St → Prop
  | nil : Gv A [] []
  | no {x : Option V} {L : En} {W : St} : Gv A L W → Gv A (none :: L) (x :: W)
  | dat {x : Option V} {d : PyData} {L : En} {W : St} : Gv A L W → Gv A (some (.dat d) :: L) (x :: W)
  | ob {a : Addr} {t : Option Nat} {o : Ob} {L : En} {W : St} : (∀ j, t = some j → A[j]? = some a) → Gv A L W → Gv A (some (.ob t o) :: L) (some (.ref a) :: W)
section
variable {f f' : Fr} {Hz H Hz' H' : Hp}
theorem Pr.gv {L : En} {W : St} {O : List Addr} (h : Pr f Hz H L W O) : ∀ {L1 L2 : En}, L = L1 ++ L2 → L1.length = W.length → Gv f.A L1 W := by
  induction h with
  | nil =>
    intro L1 L2 e hl
    obtain rfl := List.length_eq_zero_iff.mp hl
    exact .nil
  | gs l _ _ =>
    intro L1 L2 e hl
    obtain rfl := List.length_eq_zero_iff.mp hl
    exact .nil
  | skip p ih =>
    intro L1 L2 e hl
    cases L1 with
    | nil => cases hl
    | cons x L1 => cases e; exact .no (ih rfl (Nat.succ.inj hl))
  | dat d p ih =>
    intro L1 L2 e hl
    cases L1 with
    | nil => cases hl
    | cons x L1 => cases e; exact .dat (ih rfl (Nat.succ.inj hl))
  | ob q1 q2 q3 p ih =>
    intro L1 L2 e hl
    cases L1 with
    | nil => cases hl
    | cons x L1 => cases e; exact .ob q3 (ih rfl (Nat.succ.inj hl))
theorem pr_outs : ∀ {args e : En} {W σ : St} {O : List Addr}, Gv f.A args W → Pr f Hz' H' e σ O → ∃ O', O'.Sublist O ∧ Pr f Hz' H' (outsOf args e) W O'
  | [], _, _, _, _, .nil, h => ⟨[], List.nil_sublist _, by rw [outs_nil]; exact .nil⟩
  | _ :: as, [], _, _, _, h0, .nil => by
    cases h0 with
    | no p =>
      obtain ⟨O', h1, h2⟩ := pr_outs p .nil
      exact ⟨O', h1, by unfold outsOf; exact .skip h2⟩
    | dat p =>
      obtain ⟨O', h1, h2⟩ := pr_outs p .nil
      exact ⟨O', h1, by unfold outsOf; exact .skip h2⟩
    | ob _ p =>
      obtain ⟨O', h1, h2⟩ := pr_outs p .nil
      exact ⟨O', h1, by unfold outsOf; exact .skip h2⟩
  | a :: as, _ :: _, _, _, _, h0, .gs l _ _ => by
    have key : ∀ {w : Option V} {W : St} (a : Option B), Gv f.A as W → ∃ O2, O2.Sublist (l.map (·.1)) ∧ Pr f Hz' H' (none :: outsOf as []) (w :: W) O2 := fun a p => by
      obtain ⟨O2, h1, h2⟩ := pr_outs p (Pr.nil (f := f) (Hz := Hz') (H := H'))
      have : O2 = [] := List.sublist_nil.mp h1
      subst this
      exact ⟨[], List.nil_sublist _, .skip h2⟩
    cases h0 with
    | no p => exact key none p
    | dat p => rename_i x d W; exact key (some (.dat d)) p
    | @ob a0 t o _ W q p =>
      have e1 : ∀ G, outsOf (some (.ob t o) :: as) [some (.gs G)] = none :: outsOf as [] := fun G => by cases t <;> rfl
      rw [e1]
      exact key none p
  | a :: as, x :: es, _, _, _, h0, h => by
    have key : ∀ {w : Option V} {W σ' : St} {O' : List Addr}, Gv f.A as W → Pr f Hz' H' es σ' O' → ∃ O2, O2.Sublist O' ∧ Pr f Hz' H' (none :: outsOf as es) (w :: W) O2 := fun p p' => by
      obtain ⟨O2, h1, h2⟩ := pr_outs p p'
      exact ⟨O2, h1, .skip h2⟩
    cases h0 with
    | no p =>
      have e1 : outsOf (none :: as) (x :: es) = none :: outsOf as es := by cases x <;> rfl
      rw [e1]
      cases h with
      | gs l h1 h2 =>
        obtain ⟨O2, c1, c2⟩ := key (w := _) p (Pr.nil (f := f) (Hz := Hz') (H := H'))
        obtain rfl := List.sublist_nil.mp c1
        exact ⟨[], List.nil_sublist _, c2⟩
      | skip p' => exact key p p'
      | dat _ p' => exact key p p'
      | ob _ _ _ p' =>
        obtain ⟨O2, h1, h2⟩ := key (w := _) p p'
        exact ⟨O2, h1.cons _, h2⟩
    | dat p =>
      have e1 : ∀ d, outsOf (some (.dat d) :: as) (x :: es) = none :: outsOf as es := fun d => by cases x <;> rfl
      rw [e1]
      cases h with
      | gs l h1 h2 =>
        obtain ⟨O2, c1, c2⟩ := key (w := _) p (Pr.nil (f := f) (Hz := Hz') (H := H'))
        obtain rfl := List.sublist_nil.mp c1
        exact ⟨[], List.nil_sublist _, c2⟩
      | skip p' => exact key p p'
      | dat _ p' => exact key p p'
      | ob _ _ _ p' =>
        obtain ⟨O2, h1, h2⟩ := key (w := _) p p'
        exact ⟨O2, h1.cons _, h2⟩
    | @ob a0 t0 o0 _ _ q3 p =>
      cases h with
      | gs l h1 h2 =>
        have e1 : ∀ G, outsOf (some (.ob t0 o0) :: as) [some (.gs G)] = none :: outsOf as [] := fun G => by cases t0 <;> rfl
        rw [e1]
        obtain ⟨O2, c1, c2⟩ := key (w := _) p (Pr.nil (f := f) (Hz := Hz') (H := H'))
        obtain rfl := List.sublist_nil.mp c1
        exact ⟨[], List.nil_sublist _, c2⟩
      | skip p' =>
        have e1 : outsOf (some (.ob t0 o0) :: as) (none :: es) = none :: outsOf as es := by cases t0 <;> rfl
        rw [e1]
        exact key p p'
      | @dat v d _ _ _ _ p' =>
        have e1 : outsOf (some (.ob t0 o0) :: as) (some (.dat d) :: es) = none :: outsOf as es := by cases t0 <;> rfl
        rw [e1]
        exact key p p'
      | @ob a1 t1 o1 _ _ O1 g1 g2 g3 p' =>
        obtain ⟨O2, h1, h2⟩ := pr_outs p p'
        cases t0 with
        | none =>
          have e1 : outsOf (some (.ob none o0) :: as) (some (.ob t1 o1) :: es) = none :: outsOf as es := by cases t1 <;> rfl
          rw [e1]
          exact ⟨O2, h1.cons _, .skip h2⟩
        | some j =>
          cases t1 with
          | none => exact ⟨O2, h1.cons _, .skip h2⟩
          | some j' =>
            show ∃ O', O'.Sublist (a1 :: O1) ∧ Pr f Hz' H' ((if j = j' then some (.ob (some j) o1) else none) :: outsOf as es) _ O'
            by_cases c : j = j'
            · subst c
              rw [if_pos rfl]
              have h5 := q3 j rfl
              have h6 := g3 j rfl
              rw [h5] at h6
              cases h6
              exact ⟨a0 :: O2, h1.cons₂ _, .ob g1 g2 g3 h2⟩
            · rw [if_neg c]
              exact ⟨O2, h1.cons _, .skip h2⟩
theorem Pr.fr {L : En} {W : St} {O : List Addr} (hK : f'.K = f.K) (hA : f'.A = f.A) (h0 : f'.H0 = f.H0) (h : Pr f Hz H L W O) : Pr f' Hz H L W O := by
  induction h with
  | nil => exact .nil
  | gs l h g => exact .gs l h ⟨by rw [hK]; exact g.ok, by rw [hA, h0]; exact g.own⟩
  | skip p ih => exact .skip ih
  | dat d p ih => exact .dat (by rw [hK]; exact d) ih
  | ob q1 q2 q3 p ih => exact .ob (by rw [hK]; exact q1) (by rw [h0]; exact q2) (by rw [hA]; exact q3) ih
theorem Pr.n {m : Nat} {L : En} {W : St} {O : List Addr} (h : Pr f Hz H L W O) : Pr { f with n := m } Hz H L W O := Pr.fr (f := f) (f' := { f with n := m }) rfl rfl rfl h
theorem Sy.outs {L e args : En} {W σ W0 : St} (y : Sy f L W e σ Hz' H') (g : Gv f.A args W0) (hf : f' = { f with n := W0.length }) : Sy f' L W (outsOf args e) W0 Hz' H' := by
  subst hf
  obtain ⟨⟨O1, O2, p1, p2, nd, fr⟩, sm, tz, nw, kp, ka, az, tp, ln⟩ := y
  obtain ⟨O', h1, h2⟩ := pr_outs g p2
  have sub : (O1 ++ O').Sublist (O1 ++ O2) := List.Sublist.append (List.Sublist.refl _) h1
  exact ⟨⟨O1, O', p1.n, h2.n, sub.nodup nd, fun a ha => fr a (sub.subset ha)⟩, sm, tz, nw, kp, ka, az, tp, rfl⟩
/-- slots and shared objects apart -/
theorem Pr.split {L : En} {W : St} {O : List Addr} (h : Pr f Hz H L W O) : ∀ {n : Nat} {G : Gh}, L[n]? = some (some (.gs G)) → ∃ L0 l r, L = L0 ++ [some (.gs G)] ∧ L0.length = W.length ∧ n = W.length ∧ G = lkp l ∧ Pr f Hz H L0 W r ∧ PG f Hz H l ∧ O = r ++ l.map (·.1) := by
  induction h with
  | nil => intro n G e; cases e
  | gs l hl g =>
    intro n G e
    cases n with
    | zero =>
      cases e
      exact ⟨[], l, [], rfl, rfl, rfl, hl, .nil, g, rfl⟩
    | succ n => cases e
  | skip p ih =>
    intro n G e
    cases n with
    | zero => cases e
    | succ n =>
      obtain ⟨L0, l, r, rfl, h2, h3, h4, h5, h6, rfl⟩ := ih e
      exact ⟨none :: L0, l, r, rfl, by simp [h2], by simp [h3], h4, .skip h5, h6, rfl⟩
  | dat d p ih =>
    intro n G e
    cases n with
    | zero => cases e
    | succ n =>
      obtain ⟨L0, l, r, rfl, h2, h3, h4, h5, h6, rfl⟩ := ih e
      exact ⟨_ :: L0, l, r, rfl, by simp [h2], by simp [h3], h4, .dat d h5, h6, rfl⟩
  | @ob a t o L W O q1 q2 q3 p ih =>
    intro n G e
    cases n with
    | zero => cases e
    | succ n =>
      obtain ⟨L0, l, r, rfl, h2, h3, h4, h5, h6, rfl⟩ := ih e
      exact ⟨_ :: L0, l, a :: r, rfl, by simp [h2], by simp [h3], h4, .ob q1 q2 q3 h5, h6, rfl⟩
theorem Pr.join {L : En} {W : St} {O : List Addr} (h : Pr f Hz H L W O) (hl : L.length = W.length) {l : List (Addr × Cell)} (g : PG f Hz H l) : Pr f Hz H (L ++ [some (.gs (lkp l))]) W (O ++ l.map (·.1)) := by
  induction h with
  | nil => exact .gs l rfl g
  | gs _ _ _ => cases hl
  | skip p ih => exact .skip (ih (Nat.succ.inj hl))
  | dat d p ih => exact .dat d (ih (Nat.succ.inj hl))
  | ob q1 q2 q3 p ih => exact .ob q1 q2 q3 (ih (Nat.succ.inj hl))
theorem Pr.more {e : En} {σ : St} {O : List Addr} (h : Pr f Hz H e σ O) (hl : e.length = σ.length) (n : Nat) : Pr f Hz H (e ++ List.replicate n none) (σ ++ List.replicate n none) O := by
  induction h with
  | nil =>
    rw [List.nil_append, List.nil_append]
    induction n with
    | zero => exact .nil
    | succ n ih => exact .skip ih
  | gs _ _ _ => cases hl
  | skip _ ih => exact .skip (ih (Nat.succ.inj hl))
  | dat d _ ih => exact .dat d (ih (Nat.succ.inj hl))
  | ob a b c _ ih => exact .ob a b c (ih (Nat.succ.inj hl))
theorem Sy.more {L e : En} {W σ : St} (y : Sy f L W e σ Hz H) (hl : e.length = σ.length) (n : Nat) (hf : f' = { f with n := σ.length + n }) : Sy f' L W (e ++ List.replicate n none) (σ ++ List.replicate n none) Hz H := by
  subst hf
  obtain ⟨⟨O1, O2, p1, p2, nd, fr⟩, sm, tz, nw, kp, ka, az, tp, ln⟩ := y
  exact ⟨⟨O1, O2, p1.n, (p2.more hl n).n, nd, fr⟩, sm, tz, nw, kp, ka, az, tp, by simp⟩
theorem Sy.moreG {L e : En} {W σ : St} {G : Gh} (y : Sy f L W (e ++ [some (.gs G)]) σ Hz H) (hl : e.length = σ.length) (n : Nat) (hf : f' = { f with n := σ.length + n }) :
    Sy f' L W (e ++ List.replicate n none ++ [some (.gs G)]) (σ ++ List.replicate n none) Hz H := by
  subst hf
  obtain ⟨⟨O1, O2, p1, p2, nd, fr⟩, sm, tz, nw, kp, ka, az, tp, ln⟩ := y
  obtain ⟨e0, l, r, h1, h2, h3, rfl, h5, h6, rfl⟩ := p2.split (n := e.length) (by rw [List.getElem?_append_right (Nat.le_refl _), Nat.sub_self]; rfl)
  have e1 : e = e0 := (List.append_inj' h1 rfl).1
  subst e1
  have q := (h5.more hl n).join (by simp [hl]) h6
  exact ⟨⟨O1, _, p1.n, q.n, nd, fr⟩, sm, tz, nw, kp, ka, az, tp, by simp⟩
end
theorem outs_app : ∀ {args e e0 t : En}, e = e0 ++ t → args.length ≤ e0.length → outsOf args e = outsOf args e0
  | [], e, e0, t, _, _ => by rw [outs_nil, outs_nil]
  | a :: as, e, [], t, _, h => by cases h
  | a :: as, e, x :: e0, t, he, h => by
    subst he
    rw [List.cons_append, outsOf, outsOf, outs_app rfl (Nat.le_of_succ_le_succ h)]
def retP (args : En) (P : Vl → En → Prop) : Po := ⟨fun e => P (.dat .none) (outsOf args e), fun b e => notOwn b = true ∧ P b (outsOf args e), fun _ => False, fun _ => False⟩
theorem retP_nx {args : En} {P : Vl → En → Prop} {e : En} : (retP args P).nx e = P (.dat .none) (outsOf args e) := rfl
theorem retP_rtD {args : En} {P : Vl → En → Prop} {d : PyData} {e : En} : (retP args P).rt (.dat d) e = P (.dat d) (outsOf args e) := by simp [retP, notOwn]
theorem retP_rtO {args : En} {P : Vl → En → Prop} {o : Ob} {e : En} : (retP args P).rt (.ob o) e = P (.ob o) (outsOf args e) := by simp [retP, notOwn]
theorem notOwn_dat {d : PyData} : notOwn (.dat d) = true := rfl
theorem notOwn_ob {o : Ob} : notOwn (.ob o) = true := rfl
/-- the shared objects of a slot's content -/
def gsAt (P : Gh → Prop) : Option (Option B) → Prop
  | some (some (.gs G)) => P G
  | _ => False
theorem gsAt_gs {P : Gh → Prop} {G : Gh} : gsAt P (some (some (.gs G))) = P G := rfl
theorem gsAt_ex {P : Gh → Prop} {x : Option (Option B)} (h : gsAt P x) : ∃ G, x = some (some (.gs G)) ∧ P G := by
  unfold gsAt at h
  split at h
  · exact ⟨_, rfl, h⟩
  · exact h.elim
def retG (n : Nat) (args : En) (P : Vl → En → Gh → Prop) : Po := ⟨fun e => gsAt (fun G => P (.dat .none) (outsOf args e) G) e[n]?, fun b e => notOwn b = true ∧ gsAt (fun G => P b (outsOf args e) G) e[n]?, fun _ => False, fun _ => False⟩
theorem retG_nx {n : Nat} {args : En} {P : Vl → En → Gh → Prop} {e : En} : (retG n args P).nx e = gsAt (fun G => P (.dat .none) (outsOf args e) G) e[n]? := rfl
theorem retG_rtD {n : Nat} {args : En} {P : Vl → En → Gh → Prop} {d : PyData} {e : En} : (retG n args P).rt (.dat d) e = gsAt (fun G => P (.dat d) (outsOf args e) G) e[n]? := by simp [retG, notOwn]
theorem retG_rtO {n : Nat} {args : En} {P : Vl → En → Gh → Prop} {o : Ob} {e : En} : (retG n args P).rt (.ob o) e = gsAt (fun G => P (.ob o) (outsOf args e) G) e[n]? := by simp [retG, notOwn]
/-- a def's body -/
theorem fn_run {K : PySem.W.Frag} {F : FSp} {t : TS} {S : WS} {N : List Str} {vs : List V} {H : Hp} {Q : VK} {E : XK} (h : spD K F vs H Q E) (hs : ∀ A Hz, SS ⟨K, A, Hz, H, N.length⟩ t S)
    (hw : ∀ args P, args.length = vs.length → F args P → S (retP args P) (args ++ List.replicate (N.length - args.length) none)) (hN : vs.length ≤ N.length) : t { nx := fun _ H' => Q .non H', rt := Q } (start N vs) H := by
  obtain ⟨args, A, Hz, P, y, hl, hF, hQ⟩ := h
  have g : Gv A args (vs.map some) := by
    obtain ⟨O1, O2, p1, p2, _⟩ := y.ex
    exact p2.gv (L2 := []) (by rw [List.append_nil]) (by rw [List.length_map]; exact hl)
  have hw' := hw args _ hl hF
  rw [hl] at hw'
  refine (hs A Hz).run hw' (y.more (by rw [List.length_map]; exact hl) (N.length - vs.length) (by rw [List.length_map, Nat.add_sub_cancel' hN])) ⟨?_, ?_, fun a => a.elim, fun a => a.elim⟩
  · intro e σ Hz' H' hP s1 y1
    exact hQ _ _ hP .non Hz' H' (y1.outs g (by rw [List.length_map])) Dp.non
  · intro b e σ v Hz' H' hP s1 y1 l1
    exact hQ _ _ hP.2 v Hz' H' (y1.outs g (by rw [List.length_map])) (val_not rfl l1 hP.1)
theorem fnG_run {K : PySem.W.Frag} {F : GSp} {t : TS} {S : WS} {N : List Str} {vs : List V} {H : Hp} {Q : VK} {E : XK} (h : spG K F vs H Q E) (hs : ∀ A Hz, SS ⟨K, A, Hz, H, N.length⟩ t S)
    (hw : ∀ args G P, args.length = vs.length → F args G P → S (retG N.length args P) (args ++ List.replicate (N.length - args.length) none ++ [some (.gs G)])) (hN : vs.length ≤ N.length) : t { nx := fun _ H' => Q .non H', rt := Q } (start N vs) H := by
  obtain ⟨args, G, A, Hz, P, y, hl, hF, hQ⟩ := h
  have hl' : args.length = (vs.map some).length := by rw [List.length_map]; exact hl
  have g : Gv A args (vs.map some) := by
    obtain ⟨O1, O2, p1, p2, _⟩ := y.ex
    exact p2.gv rfl hl'
  have hw' := hw args G _ hl hF
  rw [hl] at hw'
  have key : ∀ {L : En} {W : St} {e : En} {σ : St} {G' : Gh} {Hz' H' : Hp}, Sy ⟨K, A, Hz, H, N.length⟩ L W e σ Hz' H' → e[N.length]? = some (some (.gs G')) → Sy ⟨K, A, Hz, H, vs.length⟩ L W (outsOf args e ++ [some (.gs G')]) (vs.map some) Hz' H' := fun y1 he => by
    obtain ⟨⟨O1, O2, p1, p2, nd, fr⟩, sm, tz, nw, kp, ka, az, tp, ln⟩ := y1
    obtain ⟨e0, l, r, h1, h2, h3, h4, h5, h6, h7⟩ := p2.split he
    subst h4 h7
    obtain ⟨O', c1, c2⟩ := pr_outs g p2
    obtain ⟨O3, c3, c4⟩ := pr_outs g h5
    subst h1
    have eo : outsOf args (e0 ++ [some (B.gs (lkp l))]) = outsOf args e0 := outs_app rfl (by rw [h2, ln, hl]; exact hN)
    rw [eo]
    have q := c4.join (by rw [outsOf_len, hl']) h6
    have sub : (O1 ++ (O3 ++ l.map (·.1))).Sublist (O1 ++ (r ++ l.map (·.1))) := List.Sublist.append (List.Sublist.refl _) (List.Sublist.append c3 (List.Sublist.refl _))
    exact ⟨⟨O1, _, p1.n, q.n, sub.nodup nd, fun a ha => fr a (sub.subset ha)⟩, sm, tz, nw, kp, ka, az, tp, by rw [List.length_map]⟩
  refine (hs A Hz).run hw' (y.moreG hl' (N.length - vs.length) (by rw [List.length_map, Nat.add_sub_cancel' hN])) ⟨?_, ?_, fun a => a.elim, fun a => a.elim⟩
  · intro e σ Hz' H' hP s1 y1
    obtain ⟨G', he, hP⟩ := gsAt_ex hP
    exact hQ _ _ _ hP (by rw [outsOf_len, hl]) .non Hz' H' (key y1 he) Dp.non
  · intro b e σ v Hz' H' hP s1 y1 l1
    obtain ⟨G', he, hP2⟩ := gsAt_ex hP.2
    exact hQ _ _ _ hP2 (by rw [outsOf_len, hl]) v Hz' H' (key y1 he) (val_not rfl l1 hP.1)
/-! ### calls -/
section
variable {f : Fr} {ta : TA} {A : WA} {F : FSp} {E : XK}
def dats (ds : List PyData) : En := ds.map fun d => some (.dat d)
theorem dats_len (ds : List PyData) : (dats ds).length = ds.length := by simp [dats]
theorem pr_dats {f' : Fr} {Hz H : Hp} (hK : f'.K = f.K) : ∀ {ds : List PyData} {vs : List V}, DpAll f.K Hz vs ds → Pr f' Hz H (dats ds) (vs.map some) []
  | [], _, .nil => .nil
  | d :: ds, _, .cons h1 h2 => .dat (by rw [hK]; exact h1) (pr_dats hK h2)
/-- what a call keeps of the caller's state -/
theorem Sy.called {L e : En} {W σ : St} {Hz H Hz' H' : Hp} {A' : List Addr} {m : Nat} {b : Vl} {v : V} {outs : En} {W0 : St} (y : Sy f L W e σ Hz H) (y' : Sy ⟨f.K, A', Hz, H, m⟩ (tmp b []) (tmv b v []) outs W0 Hz' H')
    {O1 O2 : List Addr} (p1 : Pr f Hz H L W O1) (p2 : Pr f Hz H e σ O2) (nd : (O1 ++ O2).Nodup) (fr : ∀ a ∈ O1 ++ O2, Hz a = none) (dj : ∀ a ∈ O1 ++ O2, a ∉ A') (hA : ∀ a ∈ A', a ∉ f.A → f.H0 a = none) (hb : notOwn b = true) :
    Sy f (tmp b L) (tmv b v W) e σ Hz' H' ∧ Same Hz Hz' ∧ ∃ O1', Pr f Hz' H' (tmp b L) (tmv b v W) O1' ∧ Pr f Hz' H' e σ O2 ∧ (O1' ++ O2).Nodup ∧ (∀ a ∈ O1' ++ O2, Hz' a = none ∧ (a ∈ O1 ++ O2 ∨ H a = none)) := by
  have s1 : Same Hz Hz' := y'.tz
  have keep : ∀ a ∈ O1 ++ O2, H' a = H a := fun a ha => by
    have h1 : H a ≠ none := by
      rcases List.mem_append.mp ha with q | q
      · exact p1.there a q
      · exact p2.there a q
    cases c : H a with
    | none => exact absurd c h1
    | some u => exact y'.kp a u (dj a ha) c
  have hz : ∀ a ∈ O1 ++ O2, Hz' a = none := fun a ha => by
    cases c : Hz' a with
    | none => rfl
    | some u =>
      rcases y'.nw a (by rw [c]; exact Option.some_ne_none _) with q | q
      · exact absurd (fr a ha) q
      · rcases List.mem_append.mp ha with r | r
        · exact absurd q (p1.there a r)
        · exact absurd q (p2.there a r)
  have k1 := p1.keep s1 (fun a ha => keep a (List.mem_append_left _ ha))
  have k2 := p2.keep s1 (fun a ha => keep a (List.mem_append_right _ ha))
  have base : ∀ {L1 : En} {W1 : St} {O : List Addr}, Pr f Hz' H' L1 W1 O → (O ++ O2).Nodup → (∀ a ∈ O ++ O2, Hz' a = none) → Sy f L1 W1 e σ Hz' H' := fun q1 q2 q3 =>
    ⟨⟨_, O2, q1, k2, q2, q3⟩, y'.sm, same_trans y.tz s1, fun a h => by
      rcases y'.nw a h with q | q
      · exact y.nw a q
      · right
        cases c : f.H0 a with
        | none => rfl
        | some u => exact absurd q (y.ka a (by rw [c]; exact Option.some_ne_none _)), fun a u h1 h2 => by
      by_cases c : a ∈ A'
      · rw [hA a c h1] at h2
        cases h2
      · exact y'.kp a u c (y.kp a u h1 h2), fun a h => y'.ka a (y.ka a h), fun a h => by
      obtain ⟨q1, q2⟩ := y.az a h
      refine ⟨q1, ?_⟩
      cases c : Hz' a with
      | none => rfl
      | some u =>
        rcases y'.nw a (by rw [c]; exact Option.some_ne_none _) with r | r
        · exact absurd q2 r
        · exact absurd r (y.ka a q1), y'.tp, y.ln⟩
  cases b with
  | own i => cases hb
  | gob n a => cases hb
  | dat d => exact ⟨base k1 nd hz, s1, O1, k1, k2, nd, fun a ha => ⟨hz a ha, .inl ha⟩⟩
  | ob o =>
    obtain ⟨R1, R2, r1, r2, rd, rf⟩ := y'.ex
    cases r1 with
    | @ob ra _ _ _ _ Rr q1 q2 q3 q4 =>
      have hn : H ra = none := q2 rfl
      have h0 : f.H0 ra = none := by
        cases c : f.H0 ra with
        | none => rfl
        | some u => exact absurd hn (y.ka ra (by rw [c]; exact Option.some_ne_none _))
      have pn : Pr f Hz' H' (some (.ob none o) :: L) (some (.ref ra) :: W) (ra :: O1) := .ob q1 (fun _ => h0) (fun j z => by cases z) k1
      have nin : ra ∉ O1 ++ O2 := fun c => by
        rcases List.mem_append.mp c with r | r
        · exact p1.there ra r hn
        · exact p2.there ra r hn
      have nd2 : ((ra :: O1) ++ O2).Nodup := List.nodup_cons.mpr ⟨nin, nd⟩
      have hz2 : ∀ a ∈ (ra :: O1) ++ O2, Hz' a = none := fun a ha => by
        rcases List.mem_cons.mp ha with rfl | ha
        · exact rf a List.mem_cons_self
        · exact hz a ha
      refine ⟨base pn nd2 hz2, s1, ra :: O1, pn, k2, nd2, fun a ha => ⟨hz2 a ha, ?_⟩⟩
      rcases List.mem_cons.mp ha with rfl | ha
      · exact .inr hn
      · exact .inl ha
/-- f(data, ..) -/
def wCall (F : FSp) (A : WA) (e : En) (P : Vl → En → Prop) : Prop := A e fun ds e1 => F (dats ds) fun b _ => notOwn b = true ∧ P b e1
theorem se_call (h : SA f ta A) : SE f (tCall (spD f.K F) [] E ta) (wCall F A) := ⟨fun {L W e σ Hz H Post Q} w y k => h.run w y fun ds e1 vs Hz1 H1 w1 s1 y1 d1 => by
  rw [List.append_nil]
  have yc : Sy ⟨f.K, [], Hz1, H1, vs.length⟩ [] [] (dats ds) (vs.map some) Hz1 H1 := ⟨⟨[], [], .nil, pr_dats rfl d1, List.nodup_nil, fun a ha => by cases ha⟩, y1.sm, same_refl, fun b h => .inl h, fun b u _ h => h, fun b h => h, (fun a ha => by cases ha), y1.tp, by rw [List.length_map]⟩
  refine ⟨dats ds, [], Hz1, _, yc, by rw [dats_len, dps_len d1], w1, fun b o hb v Hz' H' y' l' => ?_⟩
  obtain ⟨O1, O2, p1, p2, nd, fr⟩ := y1.ex
  obtain ⟨y2, s2, _⟩ := y1.called y' p1 p2 nd fr (fun a _ c => by cases c) (fun a c => by cases c) hb.1
  exact k _ _ _ _ _ hb.2 (same_trans s1 s2) y2 (by
    cases b with
    | dat d => exact l'
    | ob o => trivial
    | own i => cases hb.1
    | gob n a => cases hb.1)⟩
def out0 : En → Option Ob
  | some (.ob (some 0) o) :: _ => some o
  | _ => none
theorem out0_get {outs : En} {o : Ob} (h : out0 outs = some o) : outs[0]? = some (some (.ob (some 0) o)) := by
  unfold out0 at h
  split at h
  · cases h
    rfl
  · cases h
/-- f(x, data, ..), x an object of a slot that the call may change -/
def wCallO (F : FSp) (i : Nat) (A : WA) (e : En) (P : Vl → En → Prop) : Prop := match e[i]? with
  | some (some (.ob _ _)) => A e fun ds e1 => match e1[i]? with
    | some (some (.ob t o)) => F (some (.ob (some 0) o) :: dats ds) fun b outs => notOwn b = true ∧ ob1 (out0 outs) fun o' => P b (e1.set i (some (.ob t o')))
    | _ => False
  | _ => False
theorem se_callO {i : Nat} (h : SA f ta A) : SE f (tCall (spD f.K F) [] E (tCons (tVar i) ta)) (wCallO F i A) := ⟨fun {L W e σ Hz H Post Q} w y k => by
  unfold wCallO at w
  split at w
  · rename_i t0 o0 q0
    obtain ⟨a, ha, _, _⟩ := y.ob q0
    refine ⟨_, ha, h.run w y fun ds e1 vs Hz1 H1 w1 s1 y1 d1 => ?_⟩
    split at w1
    · rename_i t o q
      rw [List.append_nil]
      obtain ⟨O1, O2, p1, p2, nd, fr⟩ := y1.ex
      obtain ⟨a', O', h1, h2, h3, h4, h5, h6⟩ := p2.take q
      rw [ha] at h1
      cases h1
      have hz : Hz1 a = none := fr a (List.mem_append_right _ (h5.mem_iff.mpr List.mem_cons_self))
      have yc : Sy ⟨f.K, [a], Hz1, H1, (V.ref a :: vs).length⟩ [] [] (some (.ob (some 0) o) :: dats ds) ((V.ref a :: vs).map some) Hz1 H1 :=
        ⟨⟨[], [a], .nil, .ob h2 (fun z => by cases z) (fun j z => by cases z; rfl) (pr_dats rfl d1), by simp, fun b hb => by
          rw [List.nil_append, List.mem_singleton] at hb
          rw [hb]
          exact hz⟩, y1.sm, same_refl, fun b h => .inl h, fun b u _ h => h, fun b h => h, fun b hb => by
          rw [List.mem_singleton] at hb
          rw [hb]
          exact ⟨h2.there, hz⟩, y1.tp, by rw [List.length_map]⟩
      refine ⟨_, [a], Hz1, _, yc, by rw [List.length_cons, dats_len, List.length_cons, dps_len d1], w1, fun b outs hb v Hz' H' y' l' => ?_⟩
      obtain ⟨hb1, hb2⟩ := hb
      obtain ⟨o', qo, hb2⟩ := ob1_ex hb2
      replace qo := out0_get qo
      · have nd1 := perm_nodup nd h5
        have pm : (O1 ++ (a :: O')).Perm (a :: (O1 ++ O')) := List.perm_middle
        have nd2 := pm.nodup_iff.mp nd1
        have ndx := List.nodup_cons.mp nd2
        have yx : Sy f L W (e1.set i none) σ Hz1 H1 := ⟨⟨O1, O', p1, h6, ndx.2, fun b hb => fr b (by
          rcases List.mem_append.mp hb with r | r
          · exact List.mem_append_left _ r
          · exact List.mem_append_right _ (h5.mem_iff.mpr (List.mem_cons_of_mem _ r)))⟩, y1.sm, y1.tz, y1.nw, y1.kp, y1.ka, y1.az, y1.tp, y1.ln⟩
        obtain ⟨y2, s2, O1', g1, g2, g3, g4⟩ := yx.called y' p1 h6 ndx.2 (fun b hb => fr b (by
          rcases List.mem_append.mp hb with r | r
          · exact List.mem_append_left _ r
          · exact List.mem_append_right _ (h5.mem_iff.mpr (List.mem_cons_of_mem _ r)))) (fun b hb c => by
            rw [List.mem_singleton] at c
            exact ndx.1 (c ▸ hb)) (fun b hb c => by
            rw [List.mem_singleton] at hb
            rw [hb] at c ⊢
            cases t with
            | none => exact h3 rfl
            | some j => exact absurd (List.mem_of_getElem? (h4 j rfl)) c) hb1
        obtain ⟨ax, x1, x2, x3⟩ := y'.ob qo
        have ea : ax = a := by
          have z : ((V.ref a :: vs).map some)[0]? = some (some (V.ref a)) := rfl
          rw [z] at x1
          cases x1
          rfl
        subst ea
        have hi : i < (e1.set i none).length := by rw [List.length_set]; exact (List.getElem?_eq_some_iff.mp q).1
        obtain ⟨O3, c1, c2⟩ := g2.putO (i := i) x2 h3 h4 (by rw [List.getElem?_set_self (by rw [List.length_set] at hi; exact hi)])
        rw [List.set_set, set_self_some ha] at c2
        have na : ax ∉ O1' ++ O' := fun c => by
          rcases (g4 ax c).2 with r | r
          · exact ndx.1 r
          · exact h2.there r
        have pm2 : (O1' ++ O3).Perm (ax :: (O1' ++ O')) := (c1.append_left O1').trans List.perm_middle
        have y3 : Sy f (tmp b L) (tmv b v W) (e1.set i (some (.ob t o'))) σ Hz' H' := ⟨⟨O1', O3, g1, c2, pm2.nodup_iff.mpr (List.nodup_cons.mpr ⟨na, g3⟩), fun z hz => by
          rcases List.mem_cons.mp (pm2.mem_iff.mp hz) with rfl | r
          · exact x3
          · exact (g4 z r).1⟩, y2.sm, y2.tz, y2.nw, y2.kp, y2.ka, y2.az, y2.tp, y2.ln⟩
        exact k _ _ _ _ _ hb2 (same_trans s1 s2) y3 (by
          cases b with
          | dat d => exact l'
          | ob o => trivial
          | own i => cases hb1
          | gob n a => cases hb1)
    · exact w1.elim
  · exact w.elim⟩
/-! ### calls with shared objects -/
/-- where a call with shared objects starts, and what it leaves -/
theorem Sy.calledG {L e : En} {W σ : St} {Hz H : Hp} {G : Gh} {n : Nat} (y : Sy f L W e σ Hz H) (he : e[n]? = some (some (.gs G))) : ∃ A' : List Addr,
    (∀ {ds : List PyData} {vs : List V}, DpAll f.K Hz vs ds → Sy ⟨f.K, A', Hz, H, vs.length⟩ [] [] (dats ds ++ [some (.gs G)]) (vs.map some) Hz H) ∧
    ∀ {m : Nat} {b : Vl} {v : V} {outs : En} {W0 : St} {G' : Gh} {Hz' H' : Hp}, notOwn b = true → outs.length = W0.length → Sy ⟨f.K, A', Hz, H, m⟩ (tmp b []) (tmv b v []) (outs ++ [some (.gs G')]) W0 Hz' H' →
      Sy f (tmp b L) (tmv b v W) (e.set n (some (.gs G'))) σ Hz' H' ∧ Same Hz Hz' := by
  obtain ⟨O1, O2, p1, p2, nd, fr⟩ := y.ex
  obtain ⟨e0, l, r, rfl, h2, h3, rfl, h5, h6, rfl⟩ := p2.split he
  have nd1 := List.nodup_append.mp nd
  have nd2 := List.nodup_append.mp nd1.2.1
  refine ⟨l.map (·.1), fun {ds vs} d1 => ?_, fun {m b v outs W0 G' Hz' H'} hb ho y' => ?_⟩
  · have pd : Pr ⟨f.K, l.map (·.1), Hz, H, vs.length⟩ Hz H (dats ds) (vs.map some) [] := pr_dats rfl d1
    have g : PG ⟨f.K, l.map (·.1), Hz, H, vs.length⟩ Hz H l := ⟨h6.ok, fun p hp => .inl (List.mem_map.mpr ⟨p, hp, rfl⟩)⟩
    refine ⟨⟨[], _, .nil, pd.join (by rw [dats_len, List.length_map, dps_len d1]) g, by rw [List.nil_append, List.nil_append]; exact nd2.2.1, fun a ha => ?_⟩, y.sm, same_refl, fun b h => .inl h, fun b u _ h => h, fun b h => h, fun a ha => ?_, y.tp, by rw [List.length_map]⟩
    · rw [List.nil_append, List.nil_append] at ha
      exact fr a (List.mem_append_right _ (List.mem_append_right _ ha))
    · obtain ⟨p, hp, rfl⟩ := List.mem_map.mp ha
      exact ⟨(h6.ok p hp).there, fr p.1 (List.mem_append_right _ (List.mem_append_right _ (List.mem_map.mpr ⟨p, hp, rfl⟩)))⟩
  · obtain ⟨R1, R2, c1, c2, cd, cf⟩ := y'.ex
    obtain ⟨o0, l', r', k1, k2, k3, rfl, k5, k6, rfl⟩ := c2.split (n := outs.length) (by rw [List.getElem?_append_right (Nat.le_refl _), Nat.sub_self]; rfl)
    have s1 : Same Hz Hz' := y'.tz
    have cd1 := List.nodup_append.mp cd
    have cd2 := List.nodup_append.mp cd1.2.1
    -- the caller's own objects
    have out : ∀ a ∈ O1 ++ r, a ∉ l.map (·.1) := fun a ha hl => by
      rcases List.mem_append.mp ha with q | q
      · exact nd1.2.2 a q a (List.mem_append_right _ hl) rfl
      · exact nd2.2.2 a q a hl rfl
    have th : ∀ a ∈ O1 ++ r, H a ≠ none := fun a ha => by
      rcases List.mem_append.mp ha with q | q
      · exact p1.there a q
      · exact h5.there a q
    have keep : ∀ a ∈ O1 ++ r, H' a = H a := fun a ha => by
      cases c : H a with
      | none => exact absurd c (th a ha)
      | some u => exact y'.kp a u (out a ha) c
    have hz : ∀ a ∈ O1 ++ r, Hz' a = none := fun a ha => by
      cases c : Hz' a with
      | none => rfl
      | some u =>
        rcases y'.nw a (by rw [c]; exact Option.some_ne_none _) with q | q
        · refine absurd (fr a ?_) q
          rcases List.mem_append.mp ha with z | z
          · exact List.mem_append_left _ z
          · exact List.mem_append_right _ (List.mem_append_left _ z)
        · exact absurd q (th a ha)
    have new0 : ∀ a, H a = none → f.H0 a = none := fun a h => by
      cases c : f.H0 a with
      | none => rfl
      | some u => exact absurd h (y.ka a (by rw [c]; exact Option.some_ne_none _))
    have q1 := p1.keep s1 (fun a ha => keep a (List.mem_append_left _ ha))
    have q2 := h5.keep s1 (fun a ha => keep a (List.mem_append_right _ ha))
    have g' : PG f Hz' H' l' := ⟨k6.ok, fun p hp => by
      rcases k6.own p hp with z | z
      · obtain ⟨p0, hp0, e0⟩ := List.mem_map.mp z
        rw [← e0]
        exact h6.own p0 hp0
      · exact .inr (new0 _ z)⟩
    have lk : ∀ a ∈ l'.map (·.1), a ∉ O1 ++ r := fun a ha hc => by
      obtain ⟨p, hp, rfl⟩ := List.mem_map.mp ha
      rcases k6.own p hp with z | z
      · exact out _ hc z
      · exact th _ hc z
    have lz : ∀ a ∈ l'.map (·.1), Hz' a = none := fun a ha => cf a (List.mem_append_right _ (List.mem_append_right _ ha))
    have pe := q2.join h2 g'
    have ese : (e0 ++ [some (B.gs (lkp l))]).set n (some (.gs (lkp l'))) = e0 ++ [some (.gs (lkp l'))] := by
      rw [h3, ← h2, List.set_append_right _ _ (Nat.le_refl _), Nat.sub_self]
      rfl
    rw [ese]
    have ndr : (O1 ++ r).Nodup := List.nodup_append.mpr ⟨nd1.1, nd2.1, fun a ha b hb => nd1.2.2 a ha b (List.mem_append_left _ hb)⟩
    have base : ∀ {L1 : En} {W1 : St} {O : List Addr}, Pr f Hz' H' L1 W1 O → (O ++ (r ++ l'.map (·.1))).Nodup → (∀ a ∈ O ++ (r ++ l'.map (·.1)), Hz' a = none) → Sy f L1 W1 (e0 ++ [some (.gs (lkp l'))]) σ Hz' H' := fun q1 q2 q3 =>
      ⟨⟨_, _, q1, pe, q2, q3⟩, y'.sm, same_trans y.tz s1, fun a h => by
        rcases y'.nw a h with q | q
        · exact y.nw a q
        · exact .inr (new0 a q), fun a u h1 h2 => by
        by_cases c : a ∈ l.map (·.1)
        · obtain ⟨p, hp, rfl⟩ := List.mem_map.mp c
          rcases h6.own p hp with z | z
          · exact absurd z h1
          · rw [z] at h2; cases h2
        · exact y'.kp a u c (y.kp a u h1 h2), fun a h => y'.ka a (y.ka a h), fun a h => by
        obtain ⟨q1, q2⟩ := y.az a h
        refine ⟨q1, ?_⟩
        cases c : Hz' a with
        | none => rfl
        | some u =>
          rcases y'.nw a (by rw [c]; exact Option.some_ne_none _) with r | r
          · exact absurd q2 r
          · exact absurd r (y.ka a q1), y'.tp, y.ln⟩
    have nd3 : (O1 ++ (r ++ l'.map (·.1))).Nodup := by
      rw [← List.append_assoc]
      exact List.nodup_append.mpr ⟨ndr, cd2.2.1, fun a ha b hb e => lk b hb (e ▸ ha)⟩
    have z3 : ∀ a ∈ O1 ++ (r ++ l'.map (·.1)), Hz' a = none := fun a ha => by
      rw [← List.append_assoc] at ha
      rcases List.mem_append.mp ha with z | z
      · exact hz a z
      · exact lz a z
    cases b with
    | own i => cases hb
    | gob n a => cases hb
    | dat d => exact ⟨base q1 nd3 z3, s1⟩
    | ob o =>
      cases c1 with
      | @ob ra _ _ _ _ Rr w1 w2 w3 w4 =>
        have hn : H ra = none := w2 rfl
        have pn : Pr f Hz' H' (some (.ob none o) :: L) (some (.ref ra) :: W) (ra :: O1) := .ob w1 (fun _ => new0 ra hn) (fun j z => by cases z) q1
        have nin : ra ∉ O1 ++ (r ++ l'.map (·.1)) := fun c => by
          rw [← List.append_assoc] at c
          rcases List.mem_append.mp c with z | z
          · exact th ra z hn
          · exact cd1.2.2 ra List.mem_cons_self ra (List.mem_append_right _ z) rfl
        refine ⟨base pn (List.nodup_cons.mpr ⟨nin, nd3⟩) (fun a ha => ?_), s1⟩
        rcases List.mem_cons.mp ha with rfl | ha
        · exact cf a (List.mem_append_left _ List.mem_cons_self)
        · exact z3 a ha
/-- f(data, ..) with shared objects -/
def wCallG (F : GSp) (n : Nat) (A : WA) (e : En) (P : Vl → En → Prop) : Prop := A e fun ds e1 => gsAt (fun G => F (dats ds) G fun b _ G' => notOwn b = true ∧ P b (e1.set n (some (.gs G')))) e1[n]?
theorem se_callG {F : GSp} {n : Nat} (h : SA f ta A) : SE f (tCall (spG f.K F) [] E ta) (wCallG F n A) := ⟨fun {L W e σ Hz H Post Q} w y k => h.run w y fun ds e1 vs Hz1 H1 w1 s1 y1 d1 => by
  rw [List.append_nil]
  obtain ⟨G, he, w1⟩ := gsAt_ex w1
  obtain ⟨A', st, en⟩ := y1.calledG he
  refine ⟨dats ds, G, A', Hz1, _, st d1, by rw [dats_len, dps_len d1], w1, fun b outs G' hb ho v Hz' H' y' l' => ?_⟩
  obtain ⟨y2, s2⟩ := en hb.1 (by rw [ho, List.length_map]) y'
  exact k _ _ _ _ _ hb.2 (same_trans s1 s2) y2 (by
    cases b with
    | dat d => exact l'
    | ob o => trivial
    | own i => cases hb.1
    | gob n a => cases hb.1)⟩
end
end DL


set_option Elab.async false
set_option linter.all false
set_option maxRecDepth 100000
set_option maxHeartbeats 4000000
/-! From promises by hand to promises over the layer. -/
namespace DL
open PySem L2 TG
open Classical in
noncomputable def grown (Hz H H' : Hp) : Hp := fun b => if H b = none then H' b else Hz b
section
variable {K : PySem.W.Frag} {A : List Addr} {Hz H H' : Hp} {args : En} {W : St}
theorem pr_nones {f : Fr} {Hz' H' : Hp} : ∀ {e : En} {σ : St}, e.length = σ.length → Pr f Hz' H' (e.map fun _ => none) σ []
  | [], [], _ => .nil
  | [], _ :: _, h => by cases h
  | _ :: _, [], h => by cases h
  | _ :: _, _ :: _, h => .skip (pr_nones (Nat.succ.inj h))
theorem Sy.grow (y : Sy ⟨K, A, Hz, H, W.length⟩ [] [] args W Hz H) (hl : args.length = W.length) (s : Same H H') : Sy ⟨K, A, Hz, H, W.length⟩ [] [] (args.map fun _ => none) W (grown Hz H H') H' ∧ Same Hz (grown Hz H H') := by
  have s1 : Same Hz (grown Hz H H') := fun b o q => by
    unfold grown
    rw [if_neg (by rw [y.sm b o q]; exact Option.some_ne_none _)]
    exact q
  obtain ⟨O1, O2, p1, p2, nd, fr⟩ := y.ex
  refine ⟨⟨⟨[], [], .nil, pr_nones hl, List.nodup_nil, fun a ha => by cases ha⟩, ?_, s1, ?_, fun b u _ h => s b u h, ?_, ?_, ?_, rfl⟩, s1⟩
  · intro b o q
    unfold grown at q
    by_cases c : H b = none
    · rw [if_pos c] at q
      exact q
    · rw [if_neg c] at q
      exact s b o (y.sm b o q)
  · intro b q
    by_cases c : H b = none
    · exact .inr c
    · unfold grown at q
      rw [if_neg c] at q
      exact .inl q
  · intro b q
    cases c : H b with
    | none => exact absurd c q
    | some u => rw [s b u c]; exact Option.some_ne_none _
  · intro a ha
    obtain ⟨q1, q2⟩ := y.az a ha
    refine ⟨q1, ?_⟩
    unfold grown
    rw [if_neg q1]
    exact q2
  · intro b u q c
    unfold grown
    cases e : H b with
    | none => rw [if_pos rfl]; exact q
    | some u' =>
      rw [if_neg (Option.some_ne_none _)]
      rw [s b u' e] at q
      cases q
      exact y.tp b u e c
/-- a def that keeps the heap and gives data of tuples -/
theorem hand_dat {args : En} {vs : List V} {P : Vl → En → Prop} {Q : VK} {d' : PyData} {v' : V} (y : Sy ⟨K, A, Hz, H, vs.length⟩ [] [] args (vs.map some) Hz H)
    (hQ : ∀ b outs, P b outs → ∀ v Hz' H', Sy ⟨K, A, Hz, H, vs.length⟩ (tmp b []) (tmv b v []) outs (vs.map some) Hz' H' → Val ⟨K, A, Hz, H, vs.length⟩ b v [] Hz' → Q v H')
    (hl : args.length = vs.length) (hP : P (.dat d') (args.map fun _ => none)) (s : Same H H') (h : Dp K H' v' d') (p : pT d' = true) : Q v' H' := by
  have e : vs.length = (vs.map some).length := by rw [List.length_map]
  rw [e] at y
  obtain ⟨y1, s1⟩ := y.grow (by rw [← e]; exact hl) s
  rw [← e] at y1
  exact hQ _ _ hP v' _ H' y1 (y1.dpz p h)
theorem sy_dat {args : En} {vs : List V} {i : Nat} {d : PyData} (y : Sy ⟨K, A, Hz, H, vs.length⟩ [] [] args (vs.map some) Hz H) (h : args[i]? = some (some (.dat d))) : ∃ v, vs[i]? = some v ∧ Dp K H v d := by
  obtain ⟨v, h1, h2⟩ := y.get h
  rw [List.getElem?_map] at h1
  cases c : vs[i]? with
  | none => rw [c] at h1; cases h1
  | some x =>
    rw [c] at h1
    cases h1
    exact ⟨v, rfl, dp_mono y.sm _ _ h2⟩
/-- one argument -/
theorem sy_one {vs : List V} {d : PyData} (y : Sy ⟨K, A, Hz, H, vs.length⟩ [] [] [some (.dat d)] (vs.map some) Hz H) (hl : 1 = vs.length) : ∃ v, vs = [v] ∧ Dp K H v d := by
  obtain ⟨v, h1, h2⟩ := sy_dat (i := 0) y rfl
  match vs, hl, h1 with
  | [x], _, h1 => cases h1; exact ⟨v, rfl, h2⟩
end
/-! ### the row of draws -/
def rowL (ns : List Int) (i s t : Int) : List PyData := [.list (ns.map PyData.int), .int i, .int s, .int t]
def IsRow (o : Ob) : Prop := ∃ (ns : List Int) (i s t : Int), o = .lst (rowL ns i s t) ∧ ns.length ≤ 63 ∧ 0 ≤ i
def F_law_taken : FSp := fun args P => ∃ (o : Ob) (m : Int), args = [some (.ob (some 0) o), some (.dat (.int m))] ∧ IsRow o ∧ (0 < m ∧ m < 1073741824) ∧ ∀ (d : Int) (o' : Ob), IsRow o' → 0 ≤ d → d < m → P (.dat (.int d)) [some (.ob (some 0) o'), none]
theorem rowL_eq (ns : List Int) (i s t : Int) : rowL ns i s t = [.list (ns.map PyData.int), .int i, .int s, .int t] := rfl
def F_law_pick : FSp := fun args P => ∃ (o : Ob) (ds : List PyData), args = [some (.ob (some 0) o), some (.dat (.list ds))] ∧ IsRow o ∧ (0 < ds.length ∧ ds.length < 1000) ∧ ∀ (d : PyData) (o' : Ob), IsRow o' → d ∈ ds → P (.dat d) [some (.ob (some 0) o'), none]
end DL


set_option Elab.async false
set_option linter.all false
set_option maxRecDepth 100000
set_option maxHeartbeats 4000000
/-! Dicts with keys ints and texts over the layer of values. -/
namespace DL
open PySem L2 TG
def valD {κ : Type} [DecidableEq κ] (kvs : List (κ × PyData)) (k : κ) : Option PyData := (kvs.find? fun kv => decide (kv.1 = k)).map (·.2)
def putD {κ : Type} [DecidableEq κ] (kvs : List (κ × PyData)) (k : κ) (d : PyData) : List (κ × PyData) :=
  if (kvs.any fun kv => decide (kv.1 = k)) = true then kvs.map (fun kv => if kv.1 = k then (kv.1, d) else kv) else kvs ++ [(k, d)]
def mergeD (kvs more : List (Key × PyData)) : List (Key × PyData) := more.foldl (fun acc kv => putD acc kv.1 kv.2) kvs
section
variable {κ : Type} [DecidableEq κ] {K : PySem.W.Frag} {Hz : Hp}
theorem KvR.nil : KvR K Hz ([] : List (κ × V)) [] := ⟨rfl, .nil⟩
theorem kv_cons {p : κ × V} {q : κ × PyData} {ks : List (κ × V)} {kvs : List (κ × PyData)} (h : KvR K Hz (p :: ks) (q :: kvs)) : p.1 = q.1 ∧ Dp K Hz p.2 q.2 ∧ KvR K Hz ks kvs := by
  obtain ⟨h1, h2⟩ := h
  simp only [List.map_cons, List.cons.injEq] at h1
  simp only [List.map_cons] at h2
  cases h2 with
  | cons a b => exact ⟨h1.1, a, h1.2, b⟩
theorem KvR.cons {p : κ × V} {q : κ × PyData} {ks : List (κ × V)} {kvs : List (κ × PyData)} (h1 : p.1 = q.1) (h2 : Dp K Hz p.2 q.2) (h : KvR K Hz ks kvs) : KvR K Hz (p :: ks) (q :: kvs) :=
  ⟨by simp only [List.map_cons, h1, h.1], .cons h2 h.2⟩
theorem KvR.val : ∀ {ks : List (κ × V)} {kvs : List (κ × PyData)} (h : KvR K Hz ks kvs) (k : κ), (valD kvs k = none ∧ valV ks k = none) ∨ ∃ v d, valD kvs k = some d ∧ valV ks k = some v ∧ Dp K Hz v d
  | [], [], h, k => .inl ⟨rfl, rfl⟩
  | [], _ :: _, h, k => by cases h.1
  | _ :: _, [], h, k => by cases h.1
  | p :: ks, q :: kvs, h, k => by
    obtain ⟨h1, h2, h3⟩ := kv_cons h
    by_cases c : p.1 = k
    · have c' : q.1 = k := by rw [← h1]; exact c
      refine .inr ⟨p.2, q.2, ?_, ?_, h2⟩
      · unfold valD
        rw [List.find?_cons_of_pos (by simpa using c')]
        rfl
      · unfold valV
        rw [List.find?_cons_of_pos (by simpa using c)]
        rfl
    · have c' : ¬ q.1 = k := by rw [← h1]; exact c
      have e1 : valD (q :: kvs) k = valD kvs k := by unfold valD; rw [List.find?_cons_of_neg (by simpa using c')]
      have e2 : valV (p :: ks) k = valV ks k := by unfold valV; rw [List.find?_cons_of_neg (by simpa using c)]
      rw [e1, e2]
      exact KvR.val h3 k
theorem KvR.any : ∀ {ks : List (κ × V)} {kvs : List (κ × PyData)} (h : KvR K Hz ks kvs) (k : κ), (ks.any fun kv => decide (kv.1 = k)) = kvs.any fun kv => decide (kv.1 = k)
  | [], [], h, k => rfl
  | [], _ :: _, h, k => by cases h.1
  | _ :: _, [], h, k => by cases h.1
  | p :: ks, q :: kvs, h, k => by
    obtain ⟨h1, h2, h3⟩ := kv_cons h
    rw [List.any_cons, List.any_cons, h1, KvR.any h3 k]
theorem KvR.map : ∀ {ks : List (κ × V)} {kvs : List (κ × PyData)} (h : KvR K Hz ks kvs) {k : κ} {v : V} {d : PyData}, Dp K Hz v d →
    KvR K Hz (ks.map fun kv => if kv.1 = k then (kv.1, v) else kv) (kvs.map fun kv => if kv.1 = k then (kv.1, d) else kv)
  | [], [], h, k, v, d, hd => .nil
  | [], _ :: _, h, k, v, d, hd => by cases h.1
  | _ :: _, [], h, k, v, d, hd => by cases h.1
  | p :: ks, q :: kvs, h, k, v, d, hd => by
    obtain ⟨h1, h2, h3⟩ := kv_cons h
    have ih := KvR.map h3 (k := k) hd
    rw [List.map_cons, List.map_cons]
    by_cases c : p.1 = k
    · rw [if_pos c, if_pos (h1 ▸ c)]
      exact .cons h1 hd ih
    · rw [if_neg c, if_neg (h1 ▸ c)]
      exact .cons h1 h2 ih
theorem KvR.app {ks ks' : List (κ × V)} {kvs kvs' : List (κ × PyData)} (h : KvR K Hz ks kvs) (h' : KvR K Hz ks' kvs') : KvR K Hz (ks ++ ks') (kvs ++ kvs') :=
  ⟨by rw [List.map_append, List.map_append, h.1, h'.1], by rw [List.map_append, List.map_append]; exact dps_app h.2 h'.2⟩
theorem KvR.put {ks : List (κ × V)} {kvs : List (κ × PyData)} (h : KvR K Hz ks kvs) (k : κ) {v : V} {d : PyData} (hd : Dp K Hz v d) : KvR K Hz (putK ks k v) (putD kvs k d) := by
  unfold putK putD
  rw [h.any k]
  split
  · exact h.map hd
  · exact h.app (.cons rfl hd .nil)
theorem KvR.len {ks : List (κ × V)} {kvs : List (κ × PyData)} (h : KvR K Hz ks kvs) : ks.length = kvs.length := by
  have := congrArg List.length h.1
  rwa [List.length_map, List.length_map] at this
theorem KvR.mono {Hz' : Hp} {ks : List (κ × V)} {kvs : List (κ × PyData)} (h : KvR K Hz ks kvs) (s : Same Hz Hz') : KvR K Hz' ks kvs := ⟨h.1, dps_mono s _ _ h.2⟩
end
theorem KvR.merge {K : PySem.W.Frag} {Hz : Hp} : ∀ {ms : List (Key × V)} {mds : List (Key × PyData)} {ks : List (Key × V)} {kvs : List (Key × PyData)}, KvR K Hz ms mds → KvR K Hz ks kvs → KvR K Hz (mergeK ks ms) (mergeD kvs mds)
  | [], [], _, _, _, h => h
  | [], _ :: _, _, _, h, _ => by cases h.1
  | _ :: _, [], _, _, h, _ => by cases h.1
  | p :: ms, q :: mds, ks, kvs, h, g => by
    obtain ⟨h1, h2, h3⟩ := kv_cons h
    show KvR K Hz (mergeK (putK ks p.1 p.2) ms) (mergeD (putD kvs q.1 q.2) mds)
    rw [h1]
    exact KvR.merge h3 (g.put _ h2)
/-- a key as data -/
def keyD : PyData → Option Key
  | .int i => some (.inl i)
  | .str x => some (.inr x)
  | _ => none
theorem key_dp {K : PySem.W.Frag} {Hz : Hp} {v : V} {d : PyData} {k : Key} (h : Dp K Hz v d) (e : keyD d = some k) : v = kV k := by
  cases h with
  | int i => cases e; rfl
  | str x => cases e; rfl
  | _ => cases e
theorem keyD_int {i : Int} : keyD (.int i) = some (.inl i) := rfl
theorem keyD_str {x : Str} : keyD (.str x) = some (.inr x) := rfl
def dkC : Option Cell → Option (List (Key × PyData))
  | some (.ob (.dK kvs)) => some kvs
  | _ => none
def dkG : Option (Option B) → Addr → Option (List (Key × PyData))
  | some (some (.gs G)), a => dkC (G a)
  | _, _ => none
/-- the dict of a value -/
def dkOf : Vl → En → Option (List (Key × PyData))
  | .ob (.dK kvs), _ => some kvs
  | .own i, e => match e[i]? with
    | some (some (.ob _ (.dK kvs))) => some kvs
    | _ => none
  | .gob n a, e => dkG e[n]? a
  | _, _ => none
theorem dk_gob {n : Nat} {a : Addr} {e : En} : dkOf (.gob n a) e = dkG e[n]? a := rfl
theorem dkG_gs {G : Gh} {a : Addr} : dkG (some (some (.gs G))) a = dkC (G a) := rfl
theorem dkC_dK {kvs : List (Key × PyData)} : dkC (some (.ob (.dK kvs))) = some kvs := rfl
def dkS : Option (Option B) → Option (List (Key × PyData))
  | some (some (.ob _ (.dK kvs))) => some kvs
  | _ => none
theorem dk_ob {kvs : List (Key × PyData)} {e : En} : dkOf (.ob (.dK kvs)) e = some kvs := rfl
theorem dk_own {i : Nat} {e : En} : dkOf (.own i) e = dkS e[i]? := by unfold dkOf dkS; rfl
theorem dkS_ob {t : Option Nat} {kvs : List (Key × PyData)} : dkS (some (some (.ob t (.dK kvs)))) = some kvs := rfl
section
variable {f : Fr} {td ty te : TE} {Ed Ey E : WE}
theorem Sy.dk {L e : En} {W σ : St} {Hz H : Hp} {b : Vl} {v : V} {kvs : List (Key × PyData)} (y : Sy f (tmp b L) (tmv b v W) e σ Hz H) (hv : Val f b v σ Hz) (h : dkOf b e = some kvs) : ∃ a ks, v = .ref a ∧ H a = some (.dK ks) ∧ KvR f.K Hz ks kvs := by
  cases b with
  | dat d' => cases h
  | ob o =>
    cases o with
    | dK ds =>
      cases h
      obtain ⟨a, ea, ⟨xs, h1, h2⟩, _⟩ := Sy.top y
      cases ea
      exact ⟨a, xs, rfl, h1, h2⟩
    | _ => cases h
  | own i =>
    rw [dk_own] at h
    generalize q : e[i]? = x at h
    unfold dkS at h
    split at h
    · cases h
      obtain ⟨a, e1, ⟨xs, h1, h2⟩, _⟩ := y.ob q
      have hv' : σ[i]? = some (some v) := hv
      rw [hv'] at e1
      cases e1
      exact ⟨a, xs, rfl, h1, h2⟩
    · cases h
  | gob n a =>
    have hv' : v = .ref a := hv
    subst hv'
    rw [dk_gob] at h
    generalize q : e[n]? = x at h
    unfold dkG at h
    split at h
    · rename_i G
      generalize q2 : G a = c at h
      unfold dkC at h
      split at h
      · cases h
        obtain ⟨ks, h1, h2⟩ := (Sy.gget (Sy.un (b := .gob n a) y) q q2).1
        exact ⟨a, ks, rfl, h1, h2⟩
      · cases h
    · cases h
def wDNewK (e : En) (P : Vl → En → Prop) : Prop := P (.ob (.dK [])) e
theorem se_dnewK : SE f tDNewK wDNewK := ⟨fun {L W e σ Hz H Post Q} w y k p hp => k _ _ _ _ _ w same_refl (y.newO (o := .dK []) hp ⟨[], upd_same, .nil⟩) trivial⟩
/-- d[k] -/
def wDGet (Ed Ey : WE) (e : En) (P : Vl → En → Prop) : Prop := Ed e fun b e1 => wFz Ey e1 fun d e2 => ob1 (keyD d) fun k => ob1 (dkOf b e2) fun kvs => ob1 (valD kvs k) fun d => P (.dat d) e2
theorem se_dget (hd : SE f td Ed) (hy : SE f ty Ey) : SE f (tDGet td ty) (wDGet Ed Ey) := ⟨fun {L W e σ Hz H Post Q} w y k => hd.run w y fun b e1 v Hz1 H1 w1 s1 y1 l1 => fz_run hy w1 y1 fun d e2 v2 Hz2 H2 w2 s2 y2 d2 => by
  obtain ⟨ky, c1, w2⟩ := ob1_ex w2
  obtain ⟨kvs, c2, w2⟩ := ob1_ex w2
  obtain ⟨dv, c3, w2⟩ := ob1_ex w2
  obtain ⟨a, ks, rfl, h1, h2⟩ := y2.dk (l1.mono s2) c2
  rcases h2.val ky with ⟨q1, q2⟩ | ⟨v', d', q1, q2, q3⟩
  · rw [q1] at c3; cases c3
  · rw [q1] at c3
    cases c3
    rw [key_dp d2 c1]
    exact ⟨a, v', rfl, by rw [← q2]; exact DGet.k h1, k _ _ _ _ _ w2 (same_trans s1 s2) y2.un q3⟩⟩
/-- k in d, k not in d -/
def wDIn (neg : Bool) (Ey Ed : WE) (e : En) (P : Vl → En → Prop) : Prop := wFz Ey e fun d e1 => Ed e1 fun b e2 => ob1 (keyD d) fun k => ob1 (dkOf b e2) fun kvs => P (.dat (.bool (if neg then !(valD kvs k).isSome else (valD kvs k).isSome))) e2
theorem val_isSome {κ : Type} [DecidableEq κ] {K : PySem.W.Frag} {Hz : Hp} {ks : List (κ × V)} {kvs : List (κ × PyData)} (h : KvR K Hz ks kvs) (k : κ) : (valV ks k).isSome = (valD kvs k).isSome := by
  rcases h.val k with ⟨q1, q2⟩ | ⟨v', d', q1, q2, q3⟩
  · rw [q1, q2]; rfl
  · rw [q1, q2]; rfl
theorem se_din (hy : SE f ty Ey) (hd : SE f td Ed) : SE f (tDIn ty td) (wDIn false Ey Ed) := ⟨fun {L W e σ Hz H Post Q} w y k => fz_run hy w y fun d e1 v Hz1 H1 w1 s1 y1 d1 => hd.run w1 y1 fun b e2 v2 Hz2 H2 w2 s2 y2 l2 => by
  obtain ⟨ky, c1, w2⟩ := ob1_ex w2
  obtain ⟨kvs, c2, w2⟩ := ob1_ex w2
  obtain ⟨a, ks, rfl, h1, h2⟩ := y2.dk l2 c2
  rw [key_dp d1 c1]
  refine ⟨a, _, rfl, DGet.k h1, ?_⟩
  rw [val_isSome h2]
  exact k _ _ _ _ _ w2 (same_trans s1 s2) y2.un (Dp.bl _)⟩
theorem se_dnotin (hy : SE f ty Ey) (hd : SE f td Ed) : SE f (tDNotIn ty td) (wDIn true Ey Ed) := ⟨fun {L W e σ Hz H Post Q} w y k => fz_run hy w y fun d e1 v Hz1 H1 w1 s1 y1 d1 => hd.run w1 y1 fun b e2 v2 Hz2 H2 w2 s2 y2 l2 => by
  obtain ⟨ky, c1, w2⟩ := ob1_ex w2
  obtain ⟨kvs, c2, w2⟩ := ob1_ex w2
  obtain ⟨a, ks, rfl, h1, h2⟩ := y2.dk l2 c2
  rw [key_dp d1 c1]
  refine ⟨a, _, rfl, DGet.k h1, ?_⟩
  rw [val_isSome h2]
  exact k _ _ _ _ _ w2 (same_trans s1 s2) y2.un (Dp.bl _)⟩
/-- d[k] = v, d the dict of a slot -/
def putS (P : Po) (j : Nat) (k : Key) (d : PyData) (e : En) : Option (Option B) → Prop
  | some (some (.ob t (.dK kvs))) => kvs.length ≤ 100000 ∧ P.nx (e.set j (some (.ob t (.dK (putD kvs k d)))))
  | _ => False
theorem putS_ob {P : Po} {j : Nat} {k : Key} {d : PyData} {e : En} {t : Option Nat} {kvs : List (Key × PyData)} : putS P j k d e (some (some (.ob t (.dK kvs)))) = (kvs.length ≤ 100000 ∧ P.nx (e.set j (some (.ob t (.dK (putD kvs k d)))))) := rfl
theorem var_run {L e : En} {W σ : St} {Hz H : Hp} {j : Nat} {P : Vl → En → Prop} (w : wVar j e P) (y : Sy f L W e σ Hz H) : ∃ v b, σ[j]? = some (some v) ∧ P b e := by
  unfold wVar at w
  generalize q : e[j]? = x at w
  unfold vrS at w
  split at w
  · obtain ⟨v', e1', e2⟩ := y.get q
    exact ⟨v', _, e1', w⟩
  · obtain ⟨v', e1', e2⟩ := y.ob q
    exact ⟨_, _, e1', w⟩
  · exact w.elim
def wDPut (j : Nat) (Ey Ev : WE) (P : Po) (e : En) : Prop := wFz Ev e fun d e1 => wVar j e1 fun _ e1 => wFz Ey e1 fun dk e2 => ob1 (keyD dk) fun k => putS P j k d e2 e2[j]?
theorem ss_dput {j : Nat} (hy : SE f ty Ey) (hv : SE f te E) : SS f (sDPut (tVar j) ty te) (wDPut j Ey E) := ⟨fun {D P e σ Hz H} w y o => fz_run hv w y fun d e1 v Hz1 H1 w1 s1 y1 d1 => by
  obtain ⟨vd, b, hvd, w1⟩ := var_run w1 y1
  refine ⟨vd, hvd, fz_run hy w1 y1 fun dk e2 v2 Hz2 H2 w2 s2 y2 d2 => ?_⟩
  obtain ⟨ky, c1, w2⟩ := ob1_ex w2
  generalize q : e2[j]? = x at w2
  unfold putS at w2
  split at w2
  · obtain ⟨a, h1, ⟨ks, h2, h3⟩, h4⟩ := y2.ob q
    rw [hvd] at h1
    cases h1
    rw [key_dp d2 c1]
    exact ⟨a, _, rfl, DPut.k h2 (line_lt (by rw [h3.len]; exact w2.1)), o.nx w2.2 (same_trans s1 s2) (y2.wr q hvd ⟨_, upd_same, h3.put _ (dp_mono s2 _ _ d1)⟩)⟩
  · exact w2.elim⟩
/-- d.get(k), d.get(k, x), d the dict of a slot -/
def get1S (P : Vl → En → Prop) (k : Key) (e : En) : Option (Option B) → Prop
  | some (some (.ob _ (.dK kvs))) => P (.dat ((valD kvs k).getD .none)) e
  | _ => False
theorem get1S_ob {P : Vl → En → Prop} {k : Key} {e : En} {t : Option Nat} {kvs : List (Key × PyData)} : get1S P k e (some (some (.ob t (.dK kvs)))) = P (.dat ((valD kvs k).getD .none)) e := rfl
/-- {k: v, ..} -/
def wPairs : List (WE × WE) → En → (List (PyData × PyData) → En → Prop) → Prop
  | [], e, P => P [] e
  | (Ek, Ev) :: r, e, P => wFz Ek e fun k e1 => wFz Ev e1 fun v e2 => wPairs r e2 fun ps e3 => P ((k, v) :: ps) e3
inductive SP (f : Fr) : List (TE × TE) → List (WE × WE) → Prop
  | nil : SP f [] []
  | cons {tk tv : TE} {Ek Ev : WE} {trs : List (TE × TE)} {Es : List (WE × WE)} : SE f tk Ek → SE f tv Ev → SP f trs Es → SP f ((tk, tv) :: trs) ((Ek, Ev) :: Es)
theorem SP.run {trs : List (TE × TE)} {Es : List (WE × WE)} (h : SP f trs Es) : ∀ {L W e σ Hz H Post Q}, wPairs Es e Post → Sy f L W e σ Hz H →
    (∀ ps e' vs Hz' H', Post ps e' → Same Hz Hz' → Sy f L W e' σ Hz' H' → DpAll f.K Hz' (vs.map (·.1)) (ps.map (·.1)) → DpAll f.K Hz' (vs.map (·.2)) (ps.map (·.2)) → Q vs H') → tPairs trs σ H Q := by
  induction h with
  | nil => intro L W e σ Hz H Post Q w y k; exact k _ _ _ _ _ w same_refl y .nil .nil
  | cons h1 h2 _ ih =>
    intro L W e σ Hz H Post Q w y k
    exact fz_run h1 w y fun d1 e1 v1 Hz1 H1 w1 s1 y1 q1 => fz_run h2 w1 y1 fun d2 e2 v2 Hz2 H2 w2 s2 y2 q2 => ih w2 y2 fun ps e3 vs Hz3 H3 w3 s3 y3 q3 q4 =>
      k _ _ _ _ _ w3 (same_trans s1 (same_trans s2 s3)) y3 (.cons (dp_mono (same_trans s2 s3) _ _ q1) q3) (.cons (dp_mono s3 _ _ q2) q4)
def keysD : List (PyData × PyData) → Option (List (Key × PyData))
  | [] => some []
  | (k, v) :: r => match keyD k, keysD r with
    | some k, some r => some ((k, v) :: r)
    | _, _ => none
theorem keys_dp {K : PySem.W.Frag} {Hz : Hp} : ∀ {ps : List (PyData × PyData)} {vs : List (V × V)} {kvs : List (Key × PyData)}, DpAll K Hz (vs.map (·.1)) (ps.map (·.1)) → DpAll K Hz (vs.map (·.2)) (ps.map (·.2)) → keysD ps = some kvs →
    ∃ ks : List (Key × V), vs = ks.map (fun kv => (kV kv.1, kv.2)) ∧ KvR K Hz ks kvs ∧ ks.length = ps.length
  | [], [], kvs, _, _, e => by cases e; exact ⟨[], rfl, .nil, rfl⟩
  | [], _ :: _, kvs, h, _, e => by cases h
  | _ :: _, [], kvs, h, _, e => by cases h
  | (k, v) :: ps, (x, y) :: vs, kvs, h1, h2, e => by
    simp only [List.map_cons] at h1 h2
    cases h1 with
    | cons a1 a2 =>
      cases h2 with
      | cons b1 b2 =>
        unfold keysD at e
        cases c : keyD k with
        | none => rw [c] at e; simp at e
        | some ky =>
          cases c2 : keysD ps with
          | none => rw [c, c2] at e; simp at e
          | some r =>
            rw [c, c2] at e
            cases e
            obtain ⟨ks, e1, e2, e3⟩ := keys_dp a2 b2 c2
            refine ⟨(ky, y) :: ks, ?_, .cons rfl b1 e2, by simp [e3]⟩
            rw [e1, key_dp a1 c]
            rfl
def wDisp (Es : List (WE × WE)) (e : En) (P : Vl → En → Prop) : Prop := wPairs Es e fun ps e1 => ob1 (keysD ps) fun kvs => ps.length ≤ 15 ∧ P (.ob (.dK (mergeD [] kvs))) e1
theorem se_disp {trs : List (TE × TE)} {Es : List (WE × WE)} (h : SP f trs Es) : SE f (tDisp trs) (wDisp Es) := ⟨fun {L W e σ Hz H Post Q} w y k p hp => by
  have y0 := y.newO (o := .dK []) (u := .dK []) hp ⟨[], upd_same, .nil⟩
  refine h.run w y0 fun ps e1 vs Hz1 H1 w1 s1 y1 q1 q2 => ?_
  obtain ⟨kvs, c, w1⟩ := ob1_ex w1
  obtain ⟨ks, e2, e3, e4⟩ := keys_dp q1 q2 c
  obtain ⟨a, ea, ⟨xs, h1, h2⟩, _⟩ := y1.top
  cases ea
  have hx : xs = [] := by
    have := h2.len
    cases xs with
    | nil => rfl
    | cons _ _ => simp at this
  rw [hx] at h1
  exact ⟨h1, ks, e2, by rw [e4]; exact w1.1, k _ _ _ _ _ w1.2 s1 (y1.wrT (o' := .dK (mergeD [] kvs)) ⟨_, upd_same, e3.merge .nil⟩) trivial⟩⟩
end
/-! ### dicts with tuple keys -/
def keyT : PyData → Option NestedKey
  | .tuple ds => (keysN ds).map NestedKey.tup
  | _ => none
theorem keyT_ref {K : PySem.W.Frag} {Hz : Hp} {v : V} {d : PyData} {k : NestedKey} (h : Dp K Hz v d) (e : keyT d = some k) (hk : k.depth ≤ 8) : ∃ b, v = .ref b ∧ KeyAt K Hz b k := by
  cases d with
  | tuple ds =>
    obtain ⟨a, xs, rfl, h1, h2⟩ := dp_tup h
    exact ⟨a, rfl, _, by unfold keyN; exact e, .tup h1 h2, hk⟩
  | _ => cases e
abbrev nk (a b : Int) : NestedKey := .tup [.num a, .num b]
theorem keyT_2 (a b : Int) : keyT (.tuple [.int a, .int b]) = some (nk a b) := by simp [keyT, keysN, keyN]
theorem nk_depth (a b : Int) : (nk a b).depth ≤ 8 := by simp [NestedKey.depth, NestedKey.depthAll]
theorem nk_inj {a b c d : Int} : nk a b = nk c d ↔ a = c ∧ b = d := by simp
/-- the dict of a value -/
def dnS (P : Program) (w : World) (x : Option (Option B)) (g : List (NestedKey × PyData) → Prop) : Prop := ∃ t kvs, x = some (some (.ob t (.dN P w kvs))) ∧ g kvs
theorem dnS_ob {P : Program} {w : World} {t : Option Nat} {kvs : List (NestedKey × PyData)} {g : List (NestedKey × PyData) → Prop} : dnS P w (some (some (.ob t (.dN P w kvs)))) g = g kvs := by
  unfold dnS
  apply propext
  constructor
  · rintro ⟨t', kvs', e, h⟩
    cases e
    exact h
  · intro h
    exact ⟨t, kvs, rfl, h⟩
section
variable {f : Fr} {P : Program} {w : World} {td ty te tx : TE} {Ed Ey E Ex : WE}
def wNNew (P : Program) (w : World) (e : En) (Q : Vl → En → Prop) : Prop := Q (.ob (.dN P w [])) e
theorem se_nnew : SE f (tNNew P w) (wNNew P w) := ⟨fun {L W e σ Hz H Post Q} wp y k p hp => k _ _ _ _ _ wp same_refl (y.newO (o := .dN P w []) hp ⟨[], upd_same, (fun _ h => by cases h), .nil⟩) trivial⟩
theorem kn_val {K : PySem.W.Frag} {Hz : Hp} {ks : NEs} {kvs : List (NestedKey × PyData)} (h : KvR K Hz (ks.map fun e => (e.1, e.2.2)) kvs) (k : NestedKey) : (valD kvs k = none ∧ valN ks k = none) ∨ ∃ v d, valD kvs k = some d ∧ valN ks k = some v ∧ Dp K Hz v d := by
  have e : valV (ks.map fun e => (e.1, e.2.2)) k = valN ks k := by
    unfold valV valN
    rw [List.find?_map, Option.map_map]
    rfl
  rcases h.val k with ⟨q1, q2⟩ | ⟨v, d, q1, q2, q3⟩
  · exact .inl ⟨q1, by rw [← e]; exact q2⟩
  · exact .inr ⟨v, d, q1, by rw [← e]; exact q2, q3⟩
theorem keys_same {K : PySem.W.Frag} {Hz H : Hp} {ks : NEs} (h : KeysAt K Hz ks) (s : Same Hz H) : KeysAt K H ks := fun e he => (h e he).mono s
/-- d[k], d of slot j -/
def wNGet (P : Program) (w : World) (j : Nat) (Ey : WE) (e : En) (Q : Vl → En → Prop) : Prop := wVar j e fun _ e => wFz Ey e fun d e2 => ob1 (keyT d) fun k => k.depth ≤ 8 ∧ dnS P w e2[j]? fun kvs => ob1 (valD kvs k) fun d => Q (.dat d) e2
theorem se_nget {j : Nat} (hy : SE f ty Ey) : SE f (tNGet f.K P w (tVar j) ty) (wNGet P w j Ey) := ⟨fun {L W e σ Hz H Post Q} wp y k => by
  obtain ⟨vd, b0, hvd, w1⟩ := var_run wp y
  refine ⟨vd, hvd, fz_run hy w1 y fun d e2 v2 Hz2 H2 w2 s2 y2 d2 => ?_⟩
  obtain ⟨ky, c1, hk, t, kvs, q, w2⟩ := ob1_ex w2
  obtain ⟨dv, c3, w2⟩ := ob1_ex w2
  obtain ⟨a, h1, ⟨ks, h2, h3, h4⟩, _⟩ := y2.ob q
  rw [hvd] at h1
  cases h1
  obtain ⟨b, rfl, hb⟩ := keyT_ref d2 c1 hk
  rcases kn_val h4 ky with ⟨q1, q2⟩ | ⟨v', d', q1, q2, q3⟩
  · rw [q1] at c3; cases c3
  · rw [q1] at c3
    cases c3
    exact ⟨a, ks, b, ky, v', rfl, ⟨rfl, h2, keys_same h3 y2.sm, hb.mono y2.sm⟩, q2, k _ _ _ _ _ w2 s2 y2 q3⟩⟩
/-- k in d, k not in d -/
def wNIn (P : Program) (w : World) (neg : Bool) (Ey : WE) (j : Nat) (e : En) (Q : Vl → En → Prop) : Prop := wFz Ey e fun d e1 => wVar j e1 fun _ e2 => ob1 (keyT d) fun k => k.depth ≤ 8 ∧ dnS P w e2[j]? fun kvs => Q (.dat (.bool (if neg then !(valD kvs k).isSome else (valD kvs k).isSome))) e2
theorem kn_some {K : PySem.W.Frag} {Hz : Hp} {ks : NEs} {kvs : List (NestedKey × PyData)} (h : KvR K Hz (ks.map fun e => (e.1, e.2.2)) kvs) (k : NestedKey) : (valN ks k).isSome = (valD kvs k).isSome := by
  rcases kn_val h k with ⟨q1, q2⟩ | ⟨v, d, q1, q2, q3⟩
  · rw [q1, q2]; rfl
  · rw [q1, q2]; rfl
theorem se_nin {j : Nat} (hy : SE f ty Ey) : SE f (tNIn f.K P w ty (tVar j)) (wNIn P w false Ey j) := ⟨fun {L W e σ Hz H Post Q} wp y k => fz_run hy wp y fun d e1 v Hz1 H1 w1 s1 y1 d1 => by
  obtain ⟨vd, b0, hvd, w1⟩ := var_run w1 y1
  refine ⟨vd, hvd, ?_⟩
  obtain ⟨ky, c1, hk, t, kvs, q, w2⟩ := ob1_ex w1
  obtain ⟨a, h1, ⟨ks, h2, h3, h4⟩, _⟩ := y1.ob q
  rw [hvd] at h1
  cases h1
  obtain ⟨b, rfl, hb⟩ := keyT_ref d1 c1 hk
  refine ⟨a, ks, b, ky, rfl, ⟨rfl, h2, keys_same h3 y1.sm, hb.mono y1.sm⟩, ?_⟩
  rw [kn_some h4]
  exact k _ _ _ _ _ w2 s1 y1 (Dp.bl _)⟩
theorem se_nnotin {j : Nat} (hy : SE f ty Ey) : SE f (tNNotIn f.K P w ty (tVar j)) (wNIn P w true Ey j) := ⟨fun {L W e σ Hz H Post Q} wp y k => fz_run hy wp y fun d e1 v Hz1 H1 w1 s1 y1 d1 => by
  obtain ⟨vd, b0, hvd, w1⟩ := var_run w1 y1
  refine ⟨vd, hvd, ?_⟩
  obtain ⟨ky, c1, hk, t, kvs, q, w2⟩ := ob1_ex w1
  obtain ⟨a, h1, ⟨ks, h2, h3, h4⟩, _⟩ := y1.ob q
  rw [hvd] at h1
  cases h1
  obtain ⟨b, rfl, hb⟩ := keyT_ref d1 c1 hk
  refine ⟨a, ks, b, ky, rfl, ⟨rfl, h2, keys_same h3 y1.sm, hb.mono y1.sm⟩, ?_⟩
  rw [kn_some h4]
  exact k _ _ _ _ _ w2 s1 y1 (Dp.bl _)⟩
/-- d[k] = v -/
def wNPut (P : Program) (w : World) (j : Nat) (Ey Ev : WE) (Q : Po) (e : En) : Prop := wFz Ev e fun d e1 => wVar j e1 fun _ e1 => wFz Ey e1 fun dk e2 => ob1 (keyT dk) fun k => k.depth ≤ 8 ∧ ∃ t kvs, e2[j]? = some (some (.ob t (.dN P w kvs))) ∧ kvs.length ≤ 100000 ∧ Q.nx (e2.set j (some (.ob t (.dN P w (putD kvs k d)))))
theorem putN_map (ks : NEs) (k : NestedKey) (b : Addr) (v : V) : (putN ks k b v).map (fun e => (e.1, e.2.2)) = putK (ks.map fun e => (e.1, e.2.2)) k v := by
  unfold putN putK
  have e : ((ks.map fun e => (e.1, e.2.2)).any fun kv => decide (kv.1 = k)) = ks.any fun e => decide (e.1 = k) := by rw [List.any_map]; rfl
  rw [e]
  split
  · rw [List.map_map, List.map_map]
    refine List.map_congr_left fun x _ => ?_
    show (fun e : NestedKey × Addr × V => (e.1, e.2.2)) (if x.1 = k then (x.1, x.2.1, v) else x) = if x.1 = k then (x.1, v) else (x.1, x.2.2)
    split <;> rfl
  · rw [List.map_append]
    rfl
theorem putN_keys {K : PySem.W.Frag} {Hz : Hp} {ks : NEs} {k : NestedKey} {b : Addr} {v : V} (h : KeysAt K Hz ks) (hk : KeyAt K Hz b k) : KeysAt K Hz (putN ks k b v) := by
  unfold putN
  split
  · intro e he
    obtain ⟨x, hx, rfl⟩ := List.mem_map.mp he
    have := h x hx
    split
    · exact this
    · exact this
  · intro e he
    rcases List.mem_append.mp he with q | q
    · exact h e q
    · rw [List.mem_singleton] at q
      rw [q]
      exact hk
theorem ss_nput {j : Nat} (hy : SE f ty Ey) (hv : SE f te E) : SS f (sNPut f.K P w (tVar j) ty te) (wNPut P w j Ey E) := ⟨fun {D Q e σ Hz H} wp y o => fz_run hv wp y fun d e1 v Hz1 H1 w1 s1 y1 d1 => by
  obtain ⟨vd, b, hvd, w1⟩ := var_run w1 y1
  refine ⟨vd, hvd, fz_run hy w1 y1 fun dk e2 v2 Hz2 H2 w2 s2 y2 d2 => ?_⟩
  obtain ⟨ky, c1, hk, t, kvs, q, hl, w2⟩ := ob1_ex w2
  obtain ⟨a, h1, ⟨ks, h2, h3, h4⟩, _⟩ := y2.ob q
  rw [hvd] at h1
  cases h1
  obtain ⟨b', rfl, hb⟩ := keyT_ref d2 c1 hk
  have hlen := h4.len
  rw [List.length_map] at hlen
  refine ⟨a, ks, b', ky, rfl, ⟨rfl, h2, keys_same h3 y2.sm, hb.mono y2.sm⟩, line_lt (by omega), o.nx w2 (same_trans s1 s2) (y2.wr q hvd ⟨_, upd_same, putN_keys h3 hb, ?_⟩)⟩
  rw [putN_map]
  exact h4.put _ (dp_mono s2 _ _ d1)⟩
/-- d.get(k, x) -/
def wNGet2 (P : Program) (w : World) (j : Nat) (Ey Ex : WE) (e : En) (Q : Vl → En → Prop) : Prop := dnS P w e[j]? fun _ => wFz Ey e fun d e2 => wFz Ex e2 fun dx e3 => ob1 (keyT d) fun k => k.depth ≤ 8 ∧ dnS P w e3[j]? fun kvs => Q (.dat ((valD kvs k).getD dx)) e3
theorem se_nget2 {j : Nat} (hy : SE f ty Ey) (hx : SE f tx Ex) : SE f (tNGet2 f.K P w (tVar j) ty tx) (wNGet2 P w j Ey Ex) := ⟨fun {L W e σ Hz H Post Q} wp y k => by
  obtain ⟨t, kvs0, q0, w1⟩ := wp
  obtain ⟨a, h1, ⟨ks0, h2, h3, h4⟩, _⟩ := y.ob q0
  refine ⟨_, h1, a, ks0, rfl, ⟨h2, keys_same h3 y.sm⟩, fz_run hy w1 y fun d e2 v2 Hz2 H2 w2 s2 y2 d2 => fz_run hx w2 y2 fun dx e3 v3 Hz3 H3 w3 s3 y3 d3 => ?_⟩
  obtain ⟨ky, c1, hk, t, kvs, q, w3⟩ := ob1_ex w3
  obtain ⟨a', g1, ⟨ks, g2, g3, g4⟩, _⟩ := y3.ob q
  rw [h1] at g1
  cases g1
  obtain ⟨b, rfl, hb⟩ := keyT_ref (dp_mono s3 _ _ d2) c1 hk
  refine ⟨ks, b, ky, ⟨rfl, g2, keys_same g3 y3.sm, hb.mono y3.sm⟩, ?_⟩
  rcases kn_val g4 ky with ⟨q1, q2⟩ | ⟨v', d', q1, q2, q3⟩
  · rw [q1] at w3
    rw [q2]
    exact k _ _ _ _ _ w3 (same_trans s2 s3) y3 d3
  · rw [q1] at w3
    rw [q2]
    exact k _ _ _ _ _ w3 (same_trans s2 s3) y3 q3⟩
end
/-! ### the law -/
def spLaw (K : PySem.W.Frag) : Sp := fun vs H Q _ => ∃ (a : Addr) (ns : List Int), vs = [.ref a] ∧ SqL K H a (ns.map V.int) ∧ ns.length ≤ 63 ∧ ∀ H', Q (.bl true) H'
def F_law : FSp := fun args P => ∃ ns : List Int, args = [some (.dat (.list (ns.map PyData.int)))] ∧ ns.length ≤ 63 ∧ P (.dat (.bool true)) [none]
theorem law_imp {K : PySem.W.Frag} (vs : List V) (H : Hp) (Q : VK) (E : XK) (h : spLaw K vs H Q E) : spD K F_law vs H Q E := by
  obtain ⟨a, ns, rfl, hS, hl, q⟩ := h
  refine ⟨[some (.dat (.list (ns.map PyData.int)))], [], H, fun b outs => b = .dat (.bool true) ∧ outs = [none], ⟨⟨[], [], .nil, .dat (.lst hS (ints_dps ns)) .nil, List.nodup_nil, fun a ha => by cases ha⟩, same_refl, same_refl, fun b h => .inl h, fun b u _ h => h, fun b h => h, (fun a ha => by cases ha), fun b u h _ => h, rfl⟩, rfl, ⟨ns, rfl, hl, rfl, rfl⟩, ?_⟩
  rintro b outs ⟨rfl, rfl⟩ v Hz' H' y' l'
  obtain rfl := val_bool l'
  exact q H'
/-- the law with shared objects: none at its start -/
def F_lawG : GSp := fun args G P => ∃ ns : List Int, args = [some (.dat (.list (ns.map PyData.int)))] ∧ G = (fun _ => none) ∧ ns.length ≤ 63 ∧ ∀ G', P (.dat (.bool true)) [none] G'
theorem law_impG {K : PySem.W.Frag} (vs : List V) (H : Hp) (Q : VK) (E : XK) (h : spLaw K vs H Q E) : spG K F_lawG vs H Q E := by
  obtain ⟨a, ns, rfl, hS, hl, q⟩ := h
  refine ⟨[some (.dat (.list (ns.map PyData.int)))], fun _ => none, [], H, fun b outs G => b = .dat (.bool true) ∧ outs = [none], ⟨⟨[], [], .nil, .dat (.lst hS (ints_dps ns)) (.gs [] rfl ⟨fun p hp => (by cases hp), fun p hp => by cases hp⟩), List.nodup_nil, fun a ha => by cases ha⟩, same_refl, same_refl, fun b h => .inl h, fun b u _ h => h, fun b h => h, (fun a ha => by cases ha), fun b u h _ => h, rfl⟩, rfl, ⟨ns, rfl, rfl, hl, fun _ => ⟨rfl, rfl⟩⟩, ?_⟩
  rintro b outs G' ⟨rfl, rfl⟩ _ v Hz' H' y' l'
  obtain rfl := val_bool l'
  exact q H'
theorem isRow_new {ns : List Int} {s : Int} (h : ns.length ≤ 63) : IsRow (.lst [.list (ns.map PyData.int), .int 0, .int s, .int 0]) := ⟨ns, 0, s, 0, rfl, h, Int.le_refl 0⟩
end DL


set_option Elab.async false
set_option linter.all false
set_option maxRecDepth 100000
set_option maxHeartbeats 4000000
/-! Comprehensions with two fors, lists times an int, over the layer of values. -/
namespace DL
open PySem L2 TG
theorem wipe_sub {σ : L2.St} {vs vs1 : List Nat} (h : ∀ i ∈ vs1, i ∈ vs) : wipe (wipe σ vs1) vs = wipe σ vs := by
  refine wipe_congr (wipe_length _ _) fun n hn => ?_
  rw [wipe_get, if_neg (fun c => hn (h n c.1))]
/-- the inner turns -/
def Lc2I (Gt1 : WG) (T1 : WT) (E : WE) (vs1 : List Nat) (acc : List PyData) (out : List PyData → En → Prop) (its1 : List PyData) (e5 : En) : Prop := ∃ Inv1 : Nat → List PyData → En → Prop, Inv1 0 acc (wipeE e5 vs1) ∧
  (∀ j d1 acc1 e6, its1[j]? = some d1 → Inv1 j acc1 e6 → acc1.length ≤ 100000 ∧ Gt1 (.dat d1) e6 fun e7 => T1 e7 fun b e8 => if b = true then wFz E e8 fun y e9 => Inv1 (j + 1) (acc1 ++ [y]) (wipeE e9 vs1) else Inv1 (j + 1) acc1 (wipeE e8 vs1)) ∧
  ∀ acc1 e6, Inv1 its1.length acc1 e6 → out acc1 e6
def Lc2B (Gt : WG) (T : WT) (G1 : WI) (Gt1 : WG) (T1 : WT) (E : WE) (vs vs1 : List Nat) (P : Vl → En → Prop) (its : List PyData) (e1 : En) : Prop := ∃ Inv : Nat → List PyData → En → Prop, Inv 0 [] (wipeE e1 vs) ∧
  (∀ i d acc e2, its[i]? = some d → Inv i acc e2 → Gt (.dat d) e2 fun e3 => T e3 fun b e4 => if b = true then G1 e4 (Lc2I Gt1 T1 E vs1 acc fun acc1 e6 => Inv (i + 1) acc1 (wipeE e6 vs)) else Inv (i + 1) acc (wipeE e4 vs)) ∧
  ∀ acc e2, Inv its.length acc e2 → e2.length = e1.length ∧ P (.ob (.lst acc)) (back e1 vs (wipeE e2 vs))
def wLc2 (G : WI) (Gt : WG) (T : WT) (G1 : WI) (Gt1 : WG) (T1 : WT) (E : WE) (vs vs1 : List Nat) (e : En) (P : Vl → En → Prop) : Prop := G e (Lc2B Gt T G1 Gt1 T1 E vs vs1 P)
theorem lc2_use {G : WI} {Gt : WG} {T : WT} {G1 : WI} {Gt1 : WG} {T1 : WT} {E : WE} {vs vs1 : List Nat} {e : En} {P : Vl → En → Prop} (h : G e (Lc2B Gt T G1 Gt1 T1 E vs vs1 P)) : wLc2 G Gt T G1 Gt1 T1 E vs vs1 e P := h
section
variable {f : Fr} {te : TE} {E : WE} {tt tt1 : TT} {T T1 : WT} {wi wi1 : TI} {G G1 : WI} {g g1 : TG} {Gt Gt1 : WG} {sl sl1 : List Nat}
theorem se_lc2 {vs vs1 : List Nat} (hi : SI f wi G) (hg : SG f g Gt sl) (ht : ST f tt T) (hi1 : SI f wi1 G1) (hg1 : SG f g1 Gt1 sl1) (ht1 : ST f tt1 T1) (he : SE f te E) (hv : ∀ i ∈ sl, i ∈ vs) (hv1 : ∀ i ∈ sl1, i ∈ vs1) (hvv : ∀ i ∈ vs1, i ∈ vs) (hn : vs.all (fun v => Nat.blt v f.n) = true := by rfl) (hn1 : vs1.all (fun v => Nat.blt v f.n) = true := by rfl) :
    SE f (tLc2 wi g tt wi1 g1 tt1 te vs vs1) (wLc2 G Gt T G1 Gt1 T1 E vs vs1) := ⟨fun {L W e σ Hz H Post Q} w y k => hi.run w y fun J its e1 Hz1 H1 w1 s1 y1 hw D hD => by
  have hb : ∀ v ∈ vs, v < f.n := fun v h => Nat.le_of_ble_eq_true (List.all_eq_true.mp hn v h)
  have hb1 : ∀ v ∈ vs1, v < f.n := fun v h => Nat.le_of_ble_eq_true (List.all_eq_true.mp hn1 v h)
  obtain ⟨Inv, i0, step, fin⟩ := w1
  have ys : Sy f (some (.ob none (.lst [])) :: L) (some (.ref D) :: W) (wipeE e1 vs) (wipe σ vs) Hz1 (upd H1 D (.lst [])) := (y1.newO (o := .lst []) hD ⟨[], upd_same, .nil⟩).wiped vs hb
  refine ⟨fun i m H => m = its.length - i ∧ i ≤ its.length ∧ ∃ acc e Hz, Inv i acc e ∧ Same Hz1 Hz ∧ Sy f (some (.ob none (.lst acc)) :: L) (some (.ref D) :: W) e (wipe σ vs) Hz H,
    ⟨its.length, rfl, Nat.zero_le _, [], _, Hz1, i0, same_refl, ys⟩, ?_⟩
  rintro i m H ⟨rfl, hi', acc, e2, Hz2, i2, s2, y2⟩
  by_cases hlt : i < its.length
  · refine .inr ⟨hw.go i H hlt (same_trans s2 y2.sm), fun H' => ∃ acc e Hz, Inv (i + 1) acc e ∧ Same Hz1 Hz ∧ Sy f (some (.ob none (.lst acc)) :: L) (some (.ref D) :: W) e (wipe σ vs) Hz H',
      fun H' ⟨acc, e, Hz, a, b, c⟩ => ⟨its.length - (i + 1), by omega, rfl, hlt, acc, e, Hz, a, b, c⟩, fun x H' hy => ?_⟩
    have st := step i _ acc e2 (List.getElem?_eq_getElem hlt) i2
    refine step_item hw s2 y2 hy (List.getElem?_eq_getElem hlt) hg st fun e3 σ3 Hz3 H3 w3 s3 y3 c3 => ?_
    have cw : wipe σ3 vs = wipe σ vs := by rw [c3 vs hv, wipe_wipe]
    refine ⟨cw, ht.run w3 y3 fun b e4 Hz4 H4 w4 s4 y4 => ?_⟩
    by_cases c : b = true
    · rw [if_pos c] at w4 ⊢
      refine hi1.run w4 y4 fun J1 its1 e5 Hz5 H5 w5 s5 y5 hw1 => ?_
      obtain ⟨Inv1, j0, step1, fin1⟩ := w5
      refine ⟨fun j m H => m = its1.length - j ∧ j ≤ its1.length ∧ ∃ acc e Hz, Inv1 j acc e ∧ Same Hz5 Hz ∧ Sy f (some (.ob none (.lst acc)) :: L) (some (.ref D) :: W) e (wipe σ3 vs1) Hz H,
        ⟨its1.length, rfl, Nat.zero_le _, acc, _, Hz5, j0, same_refl, y5.wiped vs1 hb1⟩, ?_⟩
      rintro j m H ⟨rfl, hj', acc1, e6, Hz6, j6, s6, y6⟩
      by_cases hlt1 : j < its1.length
      · refine .inr ⟨hw1.go j H hlt1 (same_trans s6 y6.sm), fun H' => ∃ acc e Hz, Inv1 (j + 1) acc e ∧ Same Hz5 Hz ∧ Sy f (some (.ob none (.lst acc)) :: L) (some (.ref D) :: W) e (wipe σ3 vs1) Hz H',
          fun H' ⟨acc, e, Hz, a, b, c⟩ => ⟨its1.length - (j + 1), by omega, rfl, hlt1, acc, e, Hz, a, b, c⟩, fun x H' hy => ?_⟩
        obtain ⟨hl, st1⟩ := step1 j _ acc1 e6 (List.getElem?_eq_getElem hlt1) j6
        refine step_item hw1 s6 y6 hy (List.getElem?_eq_getElem hlt1) hg1 st1 fun e7 σ7 Hz7 H7 w7 s7 y7 c7 => ?_
        have cw1 : wipe σ7 vs1 = wipe σ3 vs1 := by rw [c7 vs1 hv1, wipe_wipe]
        refine ⟨cw1, ht1.run w7 y7 fun b e8 Hz8 H8 w8 s8 y8 => ?_⟩
        by_cases c : b = true
        · rw [if_pos c] at w8 ⊢
          refine fz_run he w8 y8 fun d e9 v Hz9 H9 w9 s9 y9 d9 => ?_
          obtain ⟨a, ea, ⟨xs, hx, hd⟩, _⟩ := y9.top
          cases ea
          refine ⟨xs, hx, line_lt (by rw [dps_len hd]; exact hl), acc1 ++ [d], wipeE e9 vs1, Hz9, w9, same_trans s6 (same_trans s7 (same_trans s8 s9)), ?_⟩
          have y10 := (y9.wrT (u := .lst (xs ++ [v])) (o' := .lst (acc1 ++ [d])) ⟨_, upd_same, dps_snoc hd d9⟩).wiped vs1 hb1
          rw [cw1] at y10
          exact y10
        · rw [if_neg c] at w8 ⊢
          have y10 := y8.wiped vs1 hb1
          rw [cw1] at y10
          exact ⟨acc1, wipeE e8 vs1, Hz8, w8, same_trans s6 (same_trans s7 s8), y10⟩
      · have : j = its1.length := by omega
        subst this
        have y7 := y6.wiped vs hb
        rw [wipe_sub hvv, cw] at y7
        exact .inl ⟨hw1.stop H (same_trans s6 y6.sm), acc1, wipeE e6 vs, Hz6, fin1 acc1 e6 j6, same_trans s2 (same_trans s3 (same_trans s4 (same_trans s5 s6))), y7⟩
    · rw [if_neg c] at w4 ⊢
      have y6 := y4.wiped vs hb
      rw [cw] at y6
      exact ⟨acc, wipeE e4 vs, Hz4, w4, same_trans s2 (same_trans s3 s4), y6⟩
  · have : i = its.length := by omega
    subst this
    obtain ⟨hl, hf⟩ := fin acc e2 i2
    refine .inl ⟨hw.stop H (same_trans s2 y2.sm), k _ _ _ _ _ hf (same_trans s1 s2) (Sy.back y1 s2 (y2.unwipe hb) (by rw [wipeE_len, hl]) vs) trivial⟩⟩
/-- xs * n -/
def wRep (Ea Eb : WE) (e : En) (P : Vl → En → Prop) : Prop := Ea e fun b1 e1 => wFz Eb e1 fun d e2 => ob1 (trk b1 e2) fun ds => match d with
  | .int k => (-(2 ^ 63) ≤ k ∧ k < 2 ^ 63) ∧ ds.length * k.toNat ≤ 100000 ∧ P (.ob (.lst (List.replicate k.toNat ds).flatten)) e2
  | _ => False
theorem dps_rep2 {K : PySem.W.Frag} {Hz : Hp} {xs : List V} {ds : List PyData} (h : DpAll K Hz xs ds) : ∀ n : Nat, DpAll K Hz (List.replicate n xs).flatten (List.replicate n ds).flatten
  | 0 => .nil
  | n + 1 => by
    rw [List.replicate_succ, List.replicate_succ, List.flatten_cons, List.flatten_cons]
    exact dps_app h (dps_rep2 h n)
theorem se_rep {ta tb : TE} {Ea Eb : WE} (ha : SE f ta Ea) (hb : SE f tb Eb) : SE f (tOp rRep ta tb) (wRep Ea Eb) := ⟨fun {L W e σ Hz H Post Q} w y k => ha.run w y fun b1 e1 v1 Hz1 H1 w1 s1 y1 l1 => fz_run hb w1 y1 fun d e2 v2 Hz2 H2 w2 s2 y2 d2 => by
  obtain ⟨ds, c, w2⟩ := ob1_ex w2
  obtain ⟨a, xs, rfl, h1, h2⟩ := y2.trk (l1.mono s2) c
  split at w2
  · cases d2
    obtain ⟨⟨w3, w4⟩, w5, w6⟩ := w2
    refine ⟨a, _, xs, rfl, rfl, h1, w3, w4, Evl.sz_of (by rw [dps_len h2]; exact w5), fun p hp => ?_⟩
    exact k _ _ _ _ _ w6 (same_trans s1 s2) (y2.un.newO (o := .lst _) hp ⟨_, upd_same, dps_rep2 h2 _⟩) trivial
  · exact w2.elim⟩
end
end DL


set_option Elab.async false
set_option linter.all false
set_option maxRecDepth 100000
set_option maxHeartbeats 4000000
/-! Dicts with keys of tuples of ints and strings (the hand layer's kind) as objects of the layer; promises by hand that give a new one. -/
namespace DL
open PySem L2 TG
def keysL : List PyData → Option (List Key)
  | [] => some []
  | d :: r => match keyD d, keysL r with
    | some k, some ks => some (k :: ks)
    | _, _ => none
theorem keysL_dp {K : PySem.W.Frag} {Hz : Hp} : ∀ {ds : List PyData} {vs : List V} {ks : List Key}, DpAll K Hz vs ds → keysL ds = some ks → vs = ks.map kV
  | [], _, _, .nil, e => by cases e; rfl
  | d :: r, _, ks, .cons h1 h2, e => by
    unfold keysL at e
    split at e
    · rename_i k ks' e1 e2
      cases e
      rw [key_dp h1 e1, keysL_dp h2 e2]
      rfl
    · cases e
theorem keysL_2 (a b : Int) : keysL [.int a, .int b] = some [.inl a, .inl b] := rfl
def dtOf : Vl → En → Option (List (List Key × PyData))
  | .ob (.dT kvs), _ => some kvs
  | .own i, e => match e[i]? with
    | some (some (.ob _ (.dT kvs))) => some kvs
    | _ => none
  | _, _ => none
def dtS : Option (Option B) → Option (List (List Key × PyData))
  | some (some (.ob _ (.dT kvs))) => some kvs
  | _ => none
theorem dt_own {i : Nat} {e : En} : dtOf (.own i) e = dtS e[i]? := by unfold dtOf dtS; rfl
theorem dt_ob {kvs : List (List Key × PyData)} {e : En} : dtOf (.ob (.dT kvs)) e = some kvs := rfl
theorem dtS_ob {t : Option Nat} {kvs : List (List Key × PyData)} : dtS (some (some (.ob t (.dT kvs)))) = some kvs := rfl
section
variable {f : Fr} {td tx : TE} {ta : TA} {Ed Ex : WE} {A : WA}
theorem Sy.dt {L e : En} {W σ : St} {Hz H : Hp} {b : Vl} {v : V} {kvs : List (List Key × PyData)} (y : Sy f (tmp b L) (tmv b v W) e σ Hz H) (hv : Val f b v σ Hz) (h : dtOf b e = some kvs) : ∃ a ks, v = .ref a ∧ H a = some (.dT ks) ∧ KvR f.K Hz ks kvs := by
  cases b with
  | dat d' => cases h
  | ob o =>
    cases o with
    | dT ds =>
      cases h
      obtain ⟨a, ea, ⟨xs, h1, h2⟩, _⟩ := Sy.top y
      cases ea
      exact ⟨a, xs, rfl, h1, h2⟩
    | _ => cases h
  | own i =>
    rw [dt_own] at h
    generalize q : e[i]? = x at h
    unfold dtS at h
    split at h
    · cases h
      obtain ⟨a, e1, ⟨xs, h1, h2⟩, _⟩ := y.ob q
      have hv' : σ[i]? = some (some v) := hv
      rw [hv'] at e1
      cases e1
      exact ⟨a, xs, rfl, h1, h2⟩
    · cases h
  | gob n a => cases h
/-- d.get((..), x) -/
def wTGet2 (Ed : WE) (A : WA) (Ex : WE) (e : En) (P : Vl → En → Prop) : Prop := Ed e fun b e1 => ob1 (dtOf b e1) fun _ => A e1 fun ds e2 => ds.length ≤ 100000 ∧ wFz Ex e2 fun dx e3 => ob1 (keysL ds) fun k => ob1 (dtOf b e3) fun kvs => P (.dat ((valD kvs k).getD dx)) e3
theorem se_tget2 (hd : SE f td Ed) (ha : SA f ta A) (hx : SE f tx Ex) : SE f (tDGet2 td (tTup ta) tx) (wTGet2 Ed A Ex) := ⟨fun {L W e σ Hz H Post Q} w y k => hd.run w y fun b e1 v Hz1 H1 w1 s1 y1 l1 => by
  obtain ⟨kvs0, c0, w1⟩ := ob1_ex w1
  obtain ⟨a, ks0, rfl, g1, g2⟩ := y1.dt l1 c0
  refine ⟨a, rfl, .inr ⟨ks0, .inl g1⟩, ha.run w1 y1 fun ds e2 vs Hz2 H2 w2 s2 y2 d2 => ⟨Evl.sz_of (by rw [dps_len d2]; exact w2.1), fun p hp => ?_⟩⟩
  have s3 := same_new (y2.hz hp) (.tup vs)
  refine fz_run hx w2.2 (y2.newT (u := .tup vs) hp) fun dx e3 v3 Hz3 H3 w3 s4 y4 d4 => ?_
  obtain ⟨ky, c1, w3⟩ := ob1_ex w3
  obtain ⟨kvs, c2, w3⟩ := ob1_ex w3
  obtain ⟨a', ks, ea, h1, h2⟩ := y4.dt (l1.mono (same_trans s2 (same_trans s3 s4))) c2
  cases ea
  have hb : H3 p = some (.tup (ky.map kV)) := by
    rw [← keysL_dp d2 c1]
    exact y4.sm _ _ (s4 _ _ upd_same)
  refine ⟨valV ks ky, .inr ⟨ks, ky, p, .inl h1, rfl, hb, rfl⟩, ?_⟩
  rcases h2.val ky with ⟨q1, q2⟩ | ⟨v', d', q1, q2, q3⟩
  · rw [q1] at w3
    rw [q2]
    exact k _ _ _ _ _ w3 (same_trans s1 (same_trans s2 (same_trans s3 s4))) y4.un d4
  · rw [q1] at w3
    rw [q2]
    exact k _ _ _ _ _ w3 (same_trans s1 (same_trans s2 (same_trans s3 s4))) y4.un q3⟩
end
section
theorem dps_map {K : PySem.W.Frag} {Hz : Hp} {α : Type} {g : α → V} {d : α → PyData} : ∀ {l : List α}, (∀ e ∈ l, Dp K Hz (g e) (d e)) → DpAll K Hz (l.map g) (l.map d)
  | [], _ => .nil
  | a :: r, h => .cons (h a List.mem_cons_self) (dps_map fun e he => h e (List.mem_cons_of_mem _ he))
theorem val_of_mem {κ : Type} [DecidableEq κ] : ∀ {ks : List (κ × V)} {e : κ × V}, (ks.map (·.1)).Nodup → e ∈ ks → valV ks e.1 = some e.2
  | [], _, _, h => by cases h
  | x :: r, e, nd, h => by
    unfold valV
    rw [List.find?_cons]
    rw [List.map_cons, List.nodup_cons] at nd
    rcases List.mem_cons.mp h with rfl | h
    · simp
    · have : x.1 ≠ e.1 := fun c => nd.1 (by rw [c]; exact List.mem_map.mpr ⟨e, h, rfl⟩)
      rw [decide_eq_false this]
      exact val_of_mem nd.2 h
theorem val_map {κ : Type} [DecidableEq κ] (dt : κ → PyData) (k : κ) : ∀ ks : List (κ × V), valD (ks.map fun e => (e.1, dt e.1)) k = (valV ks k).map fun _ => dt k
  | [] => rfl
  | x :: r => by
    have ih := val_map dt k r
    unfold valD valV at ih ⊢
    rw [List.map_cons, List.find?_cons, List.find?_cons]
    by_cases c : x.1 = k
    · rw [decide_eq_true c]
      simp [c]
    · rw [decide_eq_false c]
      exact ih
end
/-! ### is True, is not True -/
def gIsB (neg : Bool) (d1 d2 : PyData) (P : Vl → Prop) : Prop := match d1, d2 with
  | .bool a, .bool b => P (.dat (.bool (if neg then !decide (a = b) else decide (a = b))))
  | _, _ => False
theorem sr_isB {f : Fr} : SR f rIsB (gIsB false) := ⟨fun {L W e σ Hz H x y d1 d2 Post Q} r1 r2 s h k => by
  unfold gIsB at h
  split at h
  · cases r1
    cases r2
    exact ⟨_, _, rfl, rfl, k _ _ _ _ h same_refl s (Dp.bl _)⟩
  · exact h.elim⟩
theorem sr_notB {f : Fr} : SR f rNotB (gIsB true) := ⟨fun {L W e σ Hz H x y d1 d2 Post Q} r1 r2 s h k => by
  unfold gIsB at h
  split at h
  · cases r1
    cases r2
    exact ⟨_, _, rfl, rfl, k _ _ _ _ h same_refl s (Dp.bl _)⟩
  · exact h.elim⟩
theorem eIsB (neg a b : Bool) (P : Vl → Prop) : gIsB neg (.bool a) (.bool b) P = P (.dat (.bool (if neg then !decide (a = b) else decide (a = b)))) := rfl
end DL


set_option Elab.async false
set_option linter.all false
set_option maxRecDepth 100000
set_option maxHeartbeats 4000000
/-! {e for x in it}, e an int: as the hand layer's own for truth values -/
namespace TG
open PySem PySem.Spec PyProof.Rows L2
/-- what a turn does to the new set -/
abbrev AddI (w : World) (B : Addr) (Nx : Hp → Prop) : V → Hp → Prop := fun y G => ∃ (c : Int) (S : Int → Bool) (n : Nat), y = .int c ∧ G B = some (SetO w B S n) ∧ n + 1 < scanBound ∧ Nx (upd G B (SetO w B (fun j => S j || decide (j = c)) (if S c = true then n else n + 1)))
abbrev emptyI (w : World) (B : Addr) : HO := SetO w B (fun _ => false) 0
def tSI (w : World) (wi : TI) (g : TG) (tt : TT) (te : TE) (vs : List Nat) : TE := fun σ G Q => wi σ G fun J G1 => ∀ B, G1 B = none →
  ∃ Z : Nat → Nat → Hp → Prop, (∃ m, Z 0 m (upd G1 B (emptyI w B))) ∧ ∀ i m G, Z i m G → (J.stop i G ∧ Q (.ref B) G) ∨ (J.go i G ∧ ∃ Nx : Hp → Prop, (∀ G', Nx G' → ∃ k, k < m ∧ Z (i + 1) k G') ∧
    ∀ x G', J.yld i G x G' → g x (wipe σ vs) G' fun τ G2 => wipe τ vs = wipe σ vs ∧ tt τ G2 fun b G3 => if b = true then te τ G3 (AddI w B Nx) else Nx G3)
section
variable {X : Cx}
theorem addI_ok {pins : List (Addr × Obj)} {τ : L2.St} {G : Hp} {s : Shared} {B : Addr} {S : Int → Bool} {n : Nat} {y : Int} {tk : Tok} {Er Q : Value → Shared → Prop} (I : Inv X pins τ G s) (hB : G B = some (SetO X.w B S n)) (hr : n + 1 < scanBound)
    (k : ∀ s', Inv X pins τ (upd G B (SetO X.w B (fun j => S j || decide (j = y)) (if S y = true then n else n + 1))) s' → Q .none s') :
    wpAny (model X.prog X.w) X.A (call (.builtin "set.add") [.ref B, .int y tk]) Q Er s := setR_add (setO_get I hB) hr fun h1 same new => by
  obtain ⟨o, _, _, _, ho, _⟩ := id new
  exact k _ (I.write (t' := s.toks + 1) (e := B) (by rw [hB]; trivial) (.inl rfl) (fun c v hc hv => (same.2 c hc).trans hv) ⟨o, ho⟩ (setO_new new))
abbrev BlkG (X : Cx) (scope : Scope) (J : Cx → Prop) : Prop := ∀ (s : Shared) (G : Hp) (C : Addr) (cl : List (PySem.Str × Addr)) (fp : List Addr), J (X.blk s G scope (compEnvC scope cl C X.env) fp)
theorem setcomp_core {pins : List (Addr × Obj)} {s : Shared} {σ : L2.St} {G : Hp} {Q : VK} {el tgt src : Expr} {fs : List Expr} {scope : Scope} {own : List (PySem.Str × Nat)} {p p' : Pos} {wi : TI} {g : TG} {tt : TT} {te : TE} {Qf : Value → Shared → Prop} {use : Option (Value → Sem Unit)}
    (calm : X.calm = true) (nd : X.N.Nodup) (I : Inv X pins σ G s) (wI : PI X tgt src wi) (blk : BlkOk X.N X.env.scope scope own) (wG : BlkG X scope fun Y => PG Y tgt g) (wT : BlkG X scope fun Y => PTs Y fs tt) (wE : BlkG X scope fun Y => PE Y el te)
    (plain : ∀ x, foldedSetIterable src X.env x = pure x) (h : tSI X.w wi g tt te (own.map (·.2)) σ G Q)
    (fin : ∀ B C s' m G', Inv X pins σ G' s' → Q (.ref B) G' → s'.heap.Ns C m → FpOk X pins G' C → compPost (model X.prog X.w) X.A X.xe use Qf (.ref B) C (.ok .next) s') :
    wpAny (model X.prog X.w) X.A (comprehension (.SetComp el [⟨tgt, src, fs, 0⟩] scope p) scope X.env p' (newSet (.type "set")) false (eval src X.env) use) Qf X.xe s := by
  have free : ∀ y ∈ scope.names, y.2 = .free → ∃ c, X.env.cells.lookup y.1 = some c := fun y hy e => by rcases blk.free y hy e with q | q <;> first | exact I.ok.has _ (.inl q) | exact I.ok.has _ (.inr q)
  refine wpAny_comprehension_free (use := use) rfl plain (closure_ok free) blk.kind (fun y hy e => by rw [blk.uniq y hy, e]) (thn (wI.run pins s σ G _ I h) fun _ _ hx => thn hx fun itv s2 hx2 => ?_)
  obtain ⟨it, fp, tn, J, G2, e0, I2, T, at2, fr2, rest⟩ := hx2
  subst e0
  refine PpSet.newSet_ok (newEnv_comp ?_)
  obtain ⟨B, hB⟩ : ∃ B, s2.heap.objs.size = B := ⟨_, rfl⟩
  have B0 : G2 B = none := I2.hok.fresh (Nat.le_of_eq hB)
  obtain ⟨Z, ⟨m0, z0⟩, turn⟩ := rest B B0
  obtain ⟨s3, e3⟩ : ∃ s3 : Shared, { s2 with heap := s2.heap.push (s0 X.w) } = s3 := ⟨_, rfl⟩
  have hp3 : s3.heap = s2.heap.push (s0 X.w) := by rw [← e3]
  have I3 : Inv X pins σ (upd G2 B (emptyI X.w B)) s3 := by
    subst hB e3
    exact I2.laid (t' := s2.toks) (fun c v q => Heap.get?_push_of_some _ q) (Nat.le_refl _) (setO_new (setR_fresh X.w))
  have fr3 : ∀ c ∈ fp, FpOk X pins (upd G2 B (emptyI X.w B)) c ∧ c < s3.heap.objs.size := fun c hc => by
    obtain ⟨o, q, _⟩ := T.obj _ _ at2 c hc
    have lt := Heap.lt_size q
    refine ⟨⟨?_, (fr2 c hc).2⟩, by rw [hp3, Heap.size_push]; exact Nat.lt_succ_of_lt lt⟩
    rw [upd_ne (by rw [← hB]; exact Nat.ne_of_lt lt)]
    exact (fr2 c hc).1
  have at3 : tn 0 s3.heap := T.keep _ _ _ at2 fun c _ o q => by rw [hp3]; exact Heap.get?_push_of_some _ q
  obtain ⟨cl, hcl⟩ : ∃ cl, cellsFrom (s3.heap.objs.size + 1) scope.names (cloFrom X.env.cells scope.names []) = cl := ⟨_, rfl⟩
  have I4 := block_start I3 blk nd fr3
  have dG := wG s3 (upd G2 B (emptyI X.w B)) s3.heap.objs.size cl fp
  have dT := wT s3 (upd G2 B (emptyI X.w B)) s3.heap.objs.size cl fp
  have dE := wE s3 (upd G2 B (emptyI X.w B)) s3.heap.objs.size cl fp
  have none3 : ∀ c ∈ fp, (upd G2 B (emptyI X.w B)) c = none := fun c hc => (fr3 c hc).1.1
  rw [hcl] at I4
  obtain ⟨s4, e4⟩ : ∃ s4 : Shared, { s3 with heap := pushCells (s3.heap.push { cls := .type "dict", data := .dict #[] }) scope.names } = s4 := ⟨_, rfl⟩
  rw [e4] at I4
  have at4 : tn 0 s4.heap := T.keep _ _ _ at3 fun c _ o q => by rw [← e4]; exact pushCells_keeps _ _ _ _ (Heap.get?_push_of_some _ q)
  have nC3 : ∀ G', Inv X pins σ G' s3 → True := fun _ _ => trivial
  obtain ⟨ce, hce⟩ : ∃ ce, compEnvC scope cl s3.heap.objs.size X.env = ce := ⟨_, rfl⟩
  have ceL : ce.locals = s3.heap.objs.size := by subst hce; rfl
  rw [hce] at I4 dG dT dE
  obtain ⟨G3, hG3⟩ : ∃ G3, upd G2 B (emptyI X.w B) = G3 := ⟨_, rfl⟩
  rw [hG3] at I3 I4 dG dT dE z0 none3 fr3
  have ok4 : ∀ {τ : L2.St} {G' : Hp} {s' : Shared}, Inv (X.blk s3 G3 scope ce fp) [] τ G' s' → (∀ c ∈ fp, G' c = none) → ∀ c ∈ fp, FpOk (X.blk s3 G3 scope ce fp) [] G' c := fun I' hn c hc =>
    ⟨hn c hc, (I'.ok.exf c hc).1, I'.ok.exfs c hc, .inl hc, fun x d q => (I'.ok.exf c hc).2 x d q, fun z hz => (List.not_mem_nil hz).elim⟩
  have loop : codeAny (model X.prog X.w) X.A (.compLoop (.SetComp el [⟨tgt, src, fs, 0⟩] scope p) 0 (.ref it) (.ref B) ce) (compPost (model X.prog X.w) X.A X.xe use Qf (.ref B) s3.heap.objs.size) s4 := by
    refine PpSet.compLoopS_any (fun n s' => ∃ i G', Inv (X.blk s3 G3 scope ce fp) [] (wipe σ (own.map (·.2))) G' s' ∧ tn i s'.heap ∧ (∀ c ∈ fp, G' c = none) ∧ Z i n G') (fun n s5 hI => ?_) m0 ⟨0, G3, I4, at4, none3, z0⟩
    obtain ⟨i, G5, I5, at5, none5, z5⟩ := hI
    rcases turn i n G5 z5 with ⟨stop, out⟩ | ⟨go, Nx, next, step⟩
    · refine thnF (T.done (X.blk s3 G3 scope ce fp) rfl rfl rfl calm i [] s5 _ G5 (fun _ _ => False) I5 (ok4 I5 none5) at5 stop) fun r s6 ⟨hr, I6⟩ => ?_
      subst hr
      have free6 : G5 s3.heap.objs.size = none := by
        have z : G5 ce.locals = none := I6.free
        rwa [ceL] at z
      obtain ⟨m, ns, _⟩ := I6.loc
      have ns : s6.heap.Ns ce.locals m := ns
      rw [ceL] at ns
      refine fin B s3.heap.objs.size s6 m G5 (I3.call' (ch := fp) I6.os I6.base I6.hok I6.bare fun c hc => ?_) out ns (I3.fpOk (Nat.le_refl _) free6)
      obtain ⟨a1, a2, a3, a4, a5, a6⟩ := (fr3 c hc).1
      exact ⟨a4, a2, a5, a6⟩
    · refine thnF (T.item (X.blk s3 G3 scope ce fp) rfl rfl rfl calm i [] s5 _ G5 (fun _ _ => False) I5 (ok4 I5 none5) at5 go) fun r s6 ⟨u, hr, h6⟩ => ?_
      subst hr
      refine thnF h6 fun _ s7 ⟨x, G7, I7, r7, y7, at7, none7⟩ => ?_
      refine thnF (dG.run _ s7 _ G7 x u _ (I7.pinned (ok4 I7 none7) (T.obj _ _ at7)) r7 (step x G7 y7)) fun _ s8 ⟨τ8, G8, I8, w8, q8⟩ => ?_
      have back : ∀ {s' : Shared} {G' : Hp}, Inv (X.blk s3 G3 scope ce fp) ([] ++ pinsAt fp s7.heap) τ8 G' s' → Nx G' → ∃ m, m < n ∧ ∃ i G', Inv (X.blk s3 G3 scope ce fp) [] (wipe σ (own.map (·.2))) G' s' ∧ tn i s'.heap ∧ (∀ c ∈ fp, G' c = none) ∧ Z i m G' := fun {s' G'} I' nx => by
        obtain ⟨k, hk, zk⟩ := next G' nx
        have pinned : ∀ c ∈ fp, ∀ o, s7.heap.get? c = some o → s'.heap.get? c = some o ∧ G' c = none := fun c hc o q => by
          have z := I'.pin (c, o) (List.mem_append_right _ (List.mem_append_right _ (mem_pinsAt hc q)))
          exact ⟨z.1, z.2.1⟩
        refine ⟨k, hk, i + 1, G', (I'.unpinned (pins := [])).weak (by rw [← w8, wipe_length]) (fun j v q => ?_), T.keep _ _ _ at7 fun c hc o q => (pinned c hc o q).1, fun c hc => ?_, zk⟩
        · rw [← w8] at q
          exact (wipe_some q).1
        · obtain ⟨o, q, _⟩ := T.obj _ _ at7 c hc
          exact (pinned c hc o q).2
      refine thnF (dT.run _ s8 τ8 G8 _ I8 q8) fun b s9 ⟨G9, I9, q9⟩ => ?_
      cases b with
      | false => exact back I9 q9
      | true =>
        refine thnF (dE.run _ s9 τ8 G9 _ I9 q9) fun z s10 ⟨y, G10, I10, r10, c, S, n', ey, hB10, room, nx⟩ => ?_
        subst ey
        obtain ⟨tk, rfl⟩ : ∃ t, z = Value.int c t := r10
        exact addI_ok (X := X.blk s3 G3 scope ce fp) I10 hB10 room fun s11 I11 => back I11 nx
  have := PpSet.codeAny_compStart_set loop (T.self X.A 0 _ _ _ at4 loop)
  subst e4
  subst hce
  subst hcl
  subst e3
  subst hB
  exact this
theorem pe_setI {el tgt src : Expr} {fs : List Expr} {scope : Scope} {own : List (PySem.Str × Nat)} {p : Pos} {wi : TI} {g : TG} {tt : TT} {te : TE} (calm : X.calm = true) (nd : X.N.Nodup) (wI : PI X tgt src wi) (blk : BlkOk X.N X.env.scope scope own)
    (wG : BlkG X scope fun Y => PG Y tgt g) (wT : BlkG X scope fun Y => PTs Y fs tt) (wE : BlkG X scope fun Y => PE Y el te) (plain : ∀ x, foldedSetIterable src X.env x = pure x := by intro _; rfl) : PE X (.SetComp el [⟨tgt, src, fs, 0⟩] scope p) (tSI X.w wi g tt te (own.map (·.2))) := ⟨fun pins s σ G Q I h => by
  rw [PpSet.eval_SetComp]
  refine setcomp_core calm nd I wI blk wG wT wE plain h fun B C s' m G' I' q ns f => ⟨m, ns, fun h2 sb => ?_⟩
  obtain ⟨f0, f1, f2, f3, f4, f5⟩ := f
  exact ⟨.ref B, G', I'.turned (t' := s'.toks) (fun c o hc e => (sb.2 c hc).trans e) f0 f1 f3 f4 f5, rfl, q⟩⟩
theorem pe_setIK {w : World} (hw : X.w = w) {el tgt src : Expr} {fs : List Expr} {scope : Scope} {own : List (PySem.Str × Nat)} {p : Pos} {wi : TI} {g : TG} {tt : TT} {te : TE} (calm : X.calm = true) (nd : X.N.Nodup) (wI : PI X tgt src wi) (blk : BlkOk X.N X.env.scope scope own)
    (wG : BlkG X scope fun Y => PG Y tgt g) (wT : BlkG X scope fun Y => PTs Y fs tt) (wE : BlkG X scope fun Y => PE Y el te) (plain : ∀ x, foldedSetIterable src X.env x = pure x := by intro _; rfl) : PE X (.SetComp el [⟨tgt, src, fs, 0⟩] scope p) (tSI w wi g tt te (own.map (·.2))) := by
  subst hw
  exact pe_setI calm nd wI blk wG wT wE plain
/-- a if t else b as a test -/
def tIfT (t a b : TT) : TT := fun σ H Q => t σ H fun c H1 => if c = true then a σ H1 Q else b σ H1 Q
theorem pt_ifExp {c a b : Expr} {p : Pos} {tc ta tb : TT} (hc : PT X c tc) (ha : PT X a ta) (hb : PT X b tb) : PT X (.IfExp c a b p) (tIfT tc ta tb) := ⟨fun pins s σ H Q I h => by
  show wpAny (model X.prog X.w) X.A (PySem.isTrue c X.env (eval c X.env) >>= fun k => if k = true then PySem.isTrue a X.env (eval a X.env) else PySem.isTrue b X.env (eval b X.env)) _ _ s
  refine wpAny_bind (thn (hc.run pins s σ H _ I h) fun d s1 ⟨H1, I1, q1⟩ => ?_)
  cases d with
  | true => exact ha.run pins s1 σ H1 Q I1 q1
  | false => exact hb.run pins s1 σ H1 Q I1 q1⟩
end
end TG


set_option Elab.async false
set_option linter.all false
set_option maxRecDepth 100000
set_option maxHeartbeats 4000000
/-! sorted(t), t a tuple of ints -/
namespace TG
open PySem PySem.Spec PyProof.Rows L2 SrtO
section
variable {P : Program} {w : World} {A : Around} {E : Value → Shared → Prop} {s : Shared}
theorem gather_tup {t : Addr} {us : List Value} {Q : List Value → Shared → Prop} (ht : IsTup s.heap t us.toArray) (hz : us.length ≤ sizeLine)
    (k : Q us { s with heap := (s.heap.push (seqObj "list" #[] 0)).update s.heap.objs.size (Obj.mapSeq (· ++ us.toArray)) }) : wpAny (model P w) A (collect (.ref t)) Q E s := by
  obtain ⟨o, ho, hcls, n, hdat⟩ := ht
  have ho2 : (s.heap.push (seqObj "list" #[] 0)).get? t = some o := Heap.get?_push_of_some _ ho
  have hnew : (s.heap.push (seqObj "list" #[] 0)).get? s.heap.objs.size = some (seqObj "list" #[] 0) := Heap.get?_push_size _ rfl
  unfold collect
  refine wpAny_bind (wpAny_runValue (codeAny_builtin entry_proto_collect' ?_))
  refine wpAny_bind (m := newList []) (wpAny_newList (wpAny_pure ⟨Code.quiet_builtin _ (by decide +kernel), codeAny_builtin entry_list_iadd' ?_⟩))
  change wpAny (model P w) _ (Builtin.List.listExtendWith (.ref s.heap.objs.size) (.ref t) (.ref s.heap.objs.size)) _ _ { s with heap := s.heap.push (seqObj "list" #[] 0) }
  unfold Builtin.List.listExtendWith
  refine wpAny_bind (wpAny_typeOf (T := "tuple") ⟨o, ho2, hcls⟩ ?_)
  rw [if_pos (by rw [show (Value.type "tuple" == Value.type "tuple") = true by rfl]; simp)]
  refine wpAny_bind (listItems_at ho2 hdat (wpAny_bind (listItems_at (xs := #[]) (n := 0) hnew rfl ?_)))
  rw [if_neg (by simp)]
  refine wpAny_bind (listUpdate_at (xs := #[]) (n := 0) hnew rfl ?_ (Nat.zero_le _) (by show (#[] ++ us.toArray).size ≤ sizeLine + 1; simp only [Array.size_append, List.size_toArray, List.length_nil]; omega))
  refine wpAny_pure (wpAny_bind (m := load s.heap.objs.size) (wpAny_load (get?_update_seq hnew _) ?_))
  change wpAny (model P w) A (pure ((#[] : Array Value) ++ us.toArray).toList) Q E _
  refine wpAny_pure ?_
  simpa using k
theorem sorted_tup {t : Addr} {us : List Value} {lt : Value → Value → Bool} {Q : Value → Shared → Prop} (O : Swo lt) (ht : IsTup s.heap t us.toArray) (hz : us.length ≤ sizeLine)
    (able : 2 ≤ us.length → ∀ (h₁ : Heap) (a : Addr), h₁.get? a = some (seqObj "list" us.toArray 0) → (∀ b o, s.heap.get? b = some o → b ≠ a ∧ h₁.get? b = some o) → SortableO P w ((A.in1).in1) { s with heap := h₁ } a us lt)
    (k : ∀ out : List Value, Srtd lt out → Stb lt out us → Q (.ref (s.heap.objs.size + 1)) { s with heap := sortedAll s.heap us out.toArray }) : wpAny (model P w) A (call (.builtin "sorted") [.ref t]) Q E s := by
  refine Calls.call_function_entry kind_sorted plain_sorted entry_sorted (args_sorted1 _) ?_
  unfold Builtin.«sorted»
  refine wpAny_bind (m := checkCount "sorted" 1 1 _) (wpAny_pure (wpAny_bind (gather_tup ht hz (wpAny_bind (wpAny_newList ?_ hz)))))
  obtain ⟨Z, hZ⟩ : ∃ Z, (s.heap.push (seqObj "list" #[] 0)).update s.heap.objs.size (Obj.mapSeq (· ++ us.toArray)) = Z := ⟨_, rfl⟩
  have zs : Z.objs.size = s.heap.objs.size + 1 := by rw [← hZ, Heap.size_update, size_push']
  have znew : (Z.push (seqObj "list" us.toArray 0)).get? (s.heap.objs.size + 1) = some (seqObj "list" us.toArray 0) := by
    rw [← zs]
    exact Heap.get?_push_size _ rfl
  have old : ∀ b o, s.heap.get? b = some o → b ≠ s.heap.objs.size + 1 ∧ (Z.push (seqObj "list" us.toArray 0)).get? b = some o := fun b o q => by
    have lt := Heap.lt_size q
    refine ⟨Nat.ne_of_lt (Nat.lt_succ_of_lt lt), Heap.get?_push_of_some _ ?_⟩
    rw [← hZ, Heap.get?_update_ne _ _ _ _ (Nat.ne_of_lt lt)]
    exact Heap.get?_push_of_some _ q
  have k2 : ∀ out : List Value, Srtd lt out → Stb lt out us → Q (.ref (s.heap.objs.size + 1)) { s with heap := sortedHeap (Z.push (seqObj "list" us.toArray 0)) (s.heap.objs.size + 1) us out.toArray } := by
    rw [← hZ]
    exact k
  rw [hZ]
  change wpAny (model P w) _ _ _ _ { s with heap := Z.push (seqObj "list" us.toArray 0) }
  rw [zs]
  refine wpAny_bind (wpAny_holding (wpAny_call_entry slot_list_sort ⟨_, znew, rfl⟩ entry_list_sort (list_sort_ord O znew hz (fun h2 => able h2 _ _ znew old) fun out h1 h2 => ⟨_, rfl, ?_⟩) (args_list_sort _)))
  exact wpAny_pure ⟨_, rfl, k2 out h1 h2⟩
end
def rSortIT (K : PySem.W.Frag) : List V → Hp → VK → Prop := fun vs H Q => ∃ (a : Addr) (ns : List Int), vs = [V.ref a] ∧ SqT K H a (ns.map V.int) ∧ ∀ (ns' : List Int) (p : Addr), ns'.Perm ns → ns'.Pairwise (· ≤ ·) → H p = none → Q (.ref p) (upd H p (.lst (ns'.map V.int)))
theorem cr_sortIT {X : Cx} {K : PySem.W.Frag} (hK : X.K = K) : CallR X (.builtin "sorted") (rSortIT K) := by
  subst hK
  intro pins s σ H vs us Q I r h
  obtain ⟨a, ns, rfl, ha, q⟩ := h
  obtain ⟨its, rv, tp, hz⟩ := I.tuple ha
  rw [Vals.ref1 r]
  refine sorted_tup swo_int tp (by rw [← rv.length]; exact hz) (fun h2 _ _ _ _ => ints_sortable rv.ints h2) fun out h1 h2 => ?_
  obtain ⟨b1, b2, b3⟩ := ints_out rv.ints h1 h2
  obtain ⟨ep, at'⟩ := sortedAll_at s.heap its out.toArray
  refine ⟨.ref _, upd H (s.heap.objs.size + 1) (.lst ((out.map iv).map V.int)), I.laid (t' := s.toks) (fun _ _ => sortedAll_old) (Nat.le_succ _) ⟨?_, out, ep, vals_of_ints b1, at'⟩, rfl, q _ _ b2 b3 (I.hok.fresh (Nat.le_succ _))⟩
  rw [List.length_map, b2.length_eq]
  rwa [List.length_map] at hz
end TG


set_option Elab.async false
set_option linter.all false
set_option maxRecDepth 100000
set_option maxHeartbeats 4000000
/-! A middle predicate between two statements. -/
namespace DL
open PySem L2 TG
def wCut (S U : WS) (P : Po) (e : En) : Prop := ∃ M : En → Prop, S { P with nx := M } e ∧ ∀ e', M e' → U P e'
theorem cut_use {S U : WS} {P : Po} {e : En} (M : En → Prop) (h : S { P with nx := M } e) (h' : ∀ e', M e' → U P e') : wCut S U P e := ⟨M, h, h'⟩
theorem ss_cut {f : Fr} {t u : TS} {S U : WS} (h1 : SS f t S) (h2 : SS f u U) : SS f (tSeq t u) (wCut S U) := ⟨fun {D P e σ Hz H} w y o => by
  obtain ⟨M, a, b⟩ := w
  exact h1.run a y ⟨fun p s1 y1 => h2.run (b _ p) y1 (o.mono s1), o.rt, o.bk, o.ct⟩⟩
/-! sorted(t), t a tuple of ints -/
def gSortT (d : PyData) (P : Vl → Prop) : Prop := match d with
  | .tuple ds => ob1 (intsD ds) fun ns => ∀ ns' : List Int, ns'.Perm ns → ns'.Pairwise (· ≤ ·) → P (.ob (.lst (ns'.map PyData.int)))
  | _ => False
theorem eSortT {ds : List PyData} {P : Vl → Prop} : gSortT (.tuple ds) P = ob1 (intsD ds) fun ns => ∀ ns' : List Int, ns'.Perm ns → ns'.Pairwise (· ≤ ·) → P (.ob (.lst (ns'.map PyData.int))) := rfl
theorem sc_sortT {f : Fr} : SC f (rSortIT f.K) gSortT := ⟨fun {L W e σ Hz H x d Post Q} r s h k => by
  unfold gSortT at h
  split at h
  · obtain ⟨ns, c, h⟩ := ob1_ex h
    obtain ⟨a, xs, rfl, q1, q2⟩ := rep_tup s.sm r
    rw [intsD_eq c] at q2
    rw [dps_ints q2] at q1
    exact ⟨a, ns, rfl, q1, fun ns' p h1 h2 hp => k _ _ _ _ (h ns' h1 h2) same_refl (s.newO (o := .lst _) hp ⟨_, upd_same, ints_dps ns'⟩) trivial⟩
  · exact h.elim⟩
/-! list(range(n)) -/
def wListRg (E : WE) (e : En) (P : Vl → En → Prop) : Prop := wFz E e fun d e1 => match d with
  | .int n => (0 ≤ n ∧ n ≤ 100000) ∧ P (.ob (.lst (rangeD 0 n.toNat))) e1
  | _ => False
theorem se_listRg {f : Fr} {te : TE} {E : WE} (h : SE f te E) : SE f (tLstRg (tRg1 te)) (wListRg E) := ⟨fun {L W e σ Hz H Post Q} w y k => fz_run h w y fun d e1 v Hz1 H1 h1 s1 y1 d1 => by
  split at h1
  · rename_i n
    cases d1
    obtain ⟨⟨n0, n1⟩, h1⟩ := h1
    refine ⟨n, rfl, RgOk.of_le (Int.le_refl 0) (by omega) (by omega) n0, fun p hp => k _ _ _ _ _ h1 s1 (y1.newO (o := .lst _) hp ⟨_, upd_same, ?_⟩) trivial⟩
    unfold rgV rangeD
    rw [Int.sub_zero]
    exact dps_map fun e _ => .int _
  · exact h1.elim⟩
/-! a if t else b as a test -/
def wIfT (T A B : WT) (e : En) (P : Bool → En → Prop) : Prop := T e fun c e1 => if c = true then A e1 P else B e1 P
theorem st_ifT {f : Fr} {t a b : TT} {T A B : WT} (ht : ST f t T) (ha : ST f a A) (hb : ST f b B) : ST f (tIfT t a b) (wIfT T A B) := ⟨fun {L W e σ Hz H Post Q} w y k => ht.run w y fun c e1 Hz1 H1 w1 s1 y1 => by
  by_cases h : c = true
  · rw [if_pos h] at w1 ⊢
    exact ha.run w1 y1 fun b2 e2 Hz2 H2 w2 s2 y2 => k _ _ _ _ w2 (same_trans s1 s2) y2
  · rw [if_neg h] at w1 ⊢
    exact hb.run w1 y1 fun b2 e2 Hz2 H2 w2 s2 y2 => k _ _ _ _ w2 (same_trans s1 s2) y2⟩
/-! sorted({e for x in it}), e an int -/
def setOb (w : World) (B : Addr) (S : Int → Bool) (n : Nat) : Ob := .ext fun _ _ u => u = some (SetO w B S n)
theorem setOb_ok {K : PySem.W.Frag} {Hz H : Hp} {w : World} {B : Addr} {S : Int → Bool} {n : Nat} (h : H B = some (SetO w B S n)) : OkOb K Hz H B (setOb w B S n) :=
  ⟨by rw [h]; exact Option.some_ne_none _, fun u hu => by rw [h] at hu; cases hu; rfl, h, fun _ _ => h⟩
def ScB (Gt : WG) (T : WT) (E : WE) (vs : List Nat) (P : Vl → En → Prop) (its : List PyData) (e1 : En) : Prop := ∃ Inv : Nat → List Int → En → Prop, Inv 0 [] (wipeE e1 vs) ∧
  (∀ i d acc e2, its[i]? = some d → Inv i acc e2 → acc.length ≤ 62 ∧ Gt (.dat d) e2 fun e3 => T e3 fun b e4 => if b = true then wFz E e4 fun y e5 => ∃ k : Int, y = .int k ∧ Inv (i + 1) (acc ++ [k]) (wipeE e5 vs) else Inv (i + 1) acc (wipeE e4 vs)) ∧
  ∀ acc e2, Inv its.length acc e2 → e2.length = e1.length ∧ acc.length < 64 ∧ ∀ ns' : List Int, ns'.Pairwise (· < ·) → (∀ k, k ∈ ns' ↔ k ∈ acc) → P (.ob (.lst (ns'.map PyData.int))) (back e1 vs (wipeE e2 vs))
def wSc (G : WI) (Gt : WG) (T : WT) (E : WE) (vs : List Nat) (e : En) (P : Vl → En → Prop) : Prop := G e (ScB Gt T E vs P)
theorem sc_use {G : WI} {Gt : WG} {T : WT} {E : WE} {vs : List Nat} {e : En} {P : Vl → En → Prop} (h : G e (ScB Gt T E vs P)) : wSc G Gt T E vs e P := h
theorem sc_acc {Gt : WG} {T : WT} {E : WE} {vs : List Nat} {its : List PyData} {e1 e0 : En} {P : Vl → En → Prop} (acc : Nat → List Int) (h0 : acc 0 = []) (he : e0 = wipeE e1 vs) (hl : ∀ i, i < its.length → (acc i).length ≤ 62)
    (hs : ∀ i d, its[i]? = some d → Gt (.dat d) e0 fun e3 => T e3 fun b e4 => if b = true then wFz E e4 fun y e5 => ∃ k : Int, y = .int k ∧ acc (i + 1) = acc i ++ [k] ∧ wipeE e5 vs = e0 else acc (i + 1) = acc i ∧ wipeE e4 vs = e0)
    (h64 : (acc its.length).length < 64) (hP : ∀ ns' : List Int, ns'.Pairwise (· < ·) → (∀ k, k ∈ ns' ↔ k ∈ acc its.length) → P (.ob (.lst (ns'.map PyData.int))) (back e1 vs (wipeE e0 vs))) : ScB Gt T E vs P its e1 := by
  refine ⟨fun i ac e => acc i = ac ∧ e = e0, ⟨h0, he.symm⟩, ?_, ?_⟩
  · rintro i d ac e2 hd ⟨rfl, rfl⟩
    exact ⟨hl i (List.getElem?_eq_some_iff.mp hd).1, hs i d hd⟩
  · rintro ac e2 ⟨rfl, rfl⟩
    exact ⟨by rw [he, wipeE_len], h64, hP⟩
section
variable {f : Fr} {te : TE} {E : WE} {tt : TT} {T : WT} {wi : TI} {G : WI} {g : TG} {Gt : WG} {sl : List Nat}
theorem se_sortC {w : World} {vs : List Nat} (hi : SI f wi G) (hg : SG f g Gt sl) (ht : ST f tt T) (he : SE f te E) (hv : ∀ i ∈ sl, i ∈ vs) (hnv : vs.all (fun v => Nat.blt v f.n) = true := by rfl) : SE f (tCB (rSortedSet w) (tCons (tSI w wi g tt te vs) tNil)) (wSc G Gt T E vs) := ⟨fun {L W e σ Hz H Post Q} wp y k => hi.run wp y fun J its e1 Hz1 H1 w1 s1 y1 hw B hB => by
  have hb : ∀ v ∈ vs, v < f.n := fun v h => Nat.le_of_ble_eq_true (List.all_eq_true.mp hnv v h)
  obtain ⟨Inv, i0, step, fin⟩ := w1
  have ys : Sy f (some (.ob none (setOb w B (fun _ => false) 0)) :: L) (some (.ref B) :: W) (wipeE e1 vs) (wipe σ vs) Hz1 (upd H1 B (emptyI w B)) := (y1.newO (o := setOb w B (fun _ => false) 0) hB (setOb_ok upd_same)).wiped vs hb
  refine ⟨fun i m H => m = its.length - i ∧ i ≤ its.length ∧ ∃ acc S n e Hz, Inv i acc e ∧ n ≤ acc.length ∧ (∀ k, S k = decide (k ∈ acc)) ∧ Same Hz1 Hz ∧ Sy f (some (.ob none (setOb w B S n)) :: L) (some (.ref B) :: W) e (wipe σ vs) Hz H,
    ⟨its.length, rfl, Nat.zero_le _, [], _, _, _, Hz1, i0, Nat.le_refl _, fun k => by simp, same_refl, ys⟩, ?_⟩
  rintro i m H ⟨rfl, hi', acc, S, n, e2, Hz2, i2, hn, hS, s2, y2⟩
  by_cases hlt : i < its.length
  · refine .inr ⟨hw.go i H hlt (same_trans s2 y2.sm), fun H' => ∃ acc S n e Hz, Inv (i + 1) acc e ∧ n ≤ acc.length ∧ (∀ k, S k = decide (k ∈ acc)) ∧ Same Hz1 Hz ∧ Sy f (some (.ob none (setOb w B S n)) :: L) (some (.ref B) :: W) e (wipe σ vs) Hz H',
      fun H' ⟨acc, S, n, e, Hz, a, a2, a3, b, c⟩ => ⟨its.length - (i + 1), by omega, rfl, hlt, acc, S, n, e, Hz, a, a2, a3, b, c⟩, fun x H' hy => ?_⟩
    obtain ⟨hl, st⟩ := step i _ acc e2 (List.getElem?_eq_getElem hlt) i2
    refine step_item hw s2 y2 hy (List.getElem?_eq_getElem hlt) hg st fun e3 σ3 Hz3 H3 w3 s3 y3 c3 => ?_
    have cw : wipe σ3 vs = wipe σ vs := by rw [c3 vs hv, wipe_wipe]
    refine ⟨cw, ht.run w3 y3 fun b e4 Hz4 H4 w4 s4 y4 => ?_⟩
    by_cases c : b = true
    · rw [if_pos c] at w4 ⊢
      refine fz_run he w4 y4 fun d e5 v Hz5 H5 w5 s5 y5 d5 => ?_
      obtain ⟨kk, rfl, w5⟩ := w5
      cases d5
      obtain ⟨a, ea, ho, _⟩ := y5.top
      cases ea
      refine ⟨kk, S, n, rfl, ho.2.2.1, by unfold scanBound; omega, acc ++ [kk], (fun j => S j || decide (j = kk)), (if S kk = true then n else n + 1), wipeE e5 vs, Hz5, w5, ?_, fun j => ?_, same_trans s2 (same_trans s3 (same_trans s4 s5)), ?_⟩
      · rw [List.length_append, List.length_singleton]
        split <;> omega
      · show (S j || decide (j = kk)) = _
        rw [hS j, Bool.eq_iff_iff]
        simp
      · have y6 := (y5.wrT (u := SetO w B (fun j => S j || decide (j = kk)) (if S kk = true then n else n + 1)) (setOb_ok upd_same)).wiped vs hb
        rw [cw] at y6
        exact y6
    · rw [if_neg c] at w4 ⊢
      have y6 := y4.wiped vs hb
      rw [cw] at y6
      exact ⟨acc, S, n, wipeE e4 vs, Hz4, w4, hn, hS, same_trans s2 (same_trans s3 s4), y6⟩
  · have : i = its.length := by omega
    subst this
    obtain ⟨hl, h64, hf⟩ := fin acc e2 i2
    obtain ⟨a, ea, ho, _⟩ := y2.top
    cases ea
    refine .inl ⟨hw.stop H (same_trans s2 y2.sm), B, S, n, rfl, ho.2.2.1, by omega, fun ns' q h3 h4 h5 hq => ?_⟩
    have y7 := Sy.back y1 s2 (y2.unwipe hb) (by rw [wipeE_len, hl]) vs
    exact k _ _ _ _ _ (hf ns' h3 fun kk => by rw [h4 kk, hS kk, decide_eq_true_iff]) (same_trans s1 s2) (y7.pop.newO (o := .lst _) hq ⟨_, upd_same, ints_dps ns'⟩) trivial⟩
end
/-! slices -/
theorem cut_to (xs : List PyData) (n : Nat) : cutD xs none (some (n : Int)) = xs.take n := by
  show (xs.drop 0).take (HT.sIx xs.length xs.length (some (n : Int)) - 0) = xs.take n
  rw [HT.sIx_nat, List.drop_zero, Nat.sub_zero, ← List.take_eq_take_min]
theorem cut_from (xs : List PyData) (n : Nat) : cutD xs (some (n : Int)) none = xs.drop n := by
  show (xs.drop (HT.sIx xs.length 0 (some (n : Int)))).take (xs.length - HT.sIx xs.length 0 (some (n : Int))) = xs.drop n
  rw [HT.sIx_nat]
  by_cases c : n ≤ xs.length
  · rw [Nat.min_eq_left c, List.take_of_length_le (by rw [List.length_drop]; omega)]
  · rw [Nat.min_eq_right (by omega), List.drop_eq_nil_of_le (Nat.le_refl _), List.drop_eq_nil_of_le (by omega), List.take_nil]
theorem cut_from1 (xs : List PyData) : cutD xs (some 1) none = xs.drop 1 := cut_from xs 1
theorem cut_initial (xs : List PyData) : cutD xs none (some (-1)) = xs.dropLast := by
  show (xs.drop 0).take ((if (-1 : Int) < 0 then ((-1 : Int) + (xs.length : Int)).toNat else 0) - 0) = xs.dropLast
  rw [List.drop_zero, Nat.sub_zero, if_pos (by decide), List.dropLast_eq_take]
  congr 1
  omega
end DL


set_option Elab.async false
set_option linter.all false
set_option maxRecDepth 100000
set_option maxHeartbeats 4000000
/-! enumerate(str) in a for, over the hand layer -/
namespace TG
open PySem PySem.Spec PyProof.Rows L2
/-- the signs of a text at each turn, each in a new pair -/
def IteS (z : Str) : It :=
  ⟨fun i H => i < z.cps.size, fun i H v H' => ∃ T c, v = .ref T ∧ H T = none ∧ H' = upd H T (.tup [.int (i : Nat), .str ⟨#[c]⟩]) ∧ z.cps[i]? = some c, fun i H => z.cps.size = i⟩
theorem strIter_at {h h' : Heap} {a : Addr} {ty : String} {x : Str} {t : Tok} {i : Nat} (y : h.IsStrIter a ty x t i) (k : ∀ o, h.get? a = some o → h'.get? a = some o) : h'.IsStrIter a ty x t i :=
  let ⟨o, ho, r⟩ := y; ⟨o, k o ho, r⟩
theorem drawsS {prog : Program} {w : World} {A : Around} (hh : A.handled = none) (it : Addr) (x : Str) (t : Tok) (ty : String) (hty : ty = "str_ascii_iterator" ∨ ty = "str_iterator") :
    Draws prog w A it [it] x.cps.size (fun i v => ∃ c u, x.cps[i]? = some c ∧ v = .str ⟨#[c]⟩ u) (fun i h => h.IsStrIter it ty x t i) := by
  rcases hty with e | e
  · rw [e]; exact Draws.strAscii hh it x t
  · rw [e]; exact Draws.strWide hh it x t
theorem turn_enumS {P : Program} {w : World} {K : PySem.W.Frag} {elts : List Expr} {kk : Nat} {tpos : Pos} (e it : Addr) (x : Str) (t : Tok) (ty : String) (hty : ty = "str_ascii_iterator" ∨ ty = "str_iterator") :
    Turn P w K (.Tuple elts kk tpos) (IteS x) [e, it] e (fun i h => (∃ old, IsEnum h e it ((i : Nat) : Int) old) ∧ h.IsStrIter it ty x t i ∧ e ≠ it) where
  mem := by simp
  obj := fun i h st b hb => by
    obtain ⟨⟨old, he⟩, ⟨o, ho, hc, hd⟩, _⟩ := st
    have e' : b = e ∨ b = it := by simpa using hb
    rcases e' with z | z
    · rw [z]; exact ⟨_, he, fun v q => nomatch q⟩
    · rw [z]; exact ⟨o, ho, fun v q => by rw [hd] at q; cases q⟩
  keep := fun i h h' st k => let ⟨⟨old, he⟩, hi, hne⟩ := st; ⟨⟨old, k e (by simp) _ he⟩, strIter_at hi fun o q => k it (by simp) o q, hne⟩
  item := by
    intro X hP hw hK hc i pins s σ H E I hf st hg
    subst hP hw hK
    obtain ⟨⟨old, he⟩, hit, hne⟩ := st
    have hel : e < s.heap.objs.size := Heap.lt_size he
    have hil : it < s.heap.objs.size := by obtain ⟨_, q, _⟩ := hit; exact Heap.lt_size q
    have D := drawsS (prog := X.prog) (w := X.w) (A := X.A.in1) (I.ok.hd hc) it x t ty hty
    refine wpAny_pyNext_enum_itemD D he hit hg hne (by simp [hne]) fun x' h' tk hP' ho hit' hT hsz hk => ?_
    obtain ⟨c, u, hcx, rfl⟩ := hP'
    refine ⟨_, rfl, wpAny_letOwnedTupleGo_enum (s := { s with heap := h', toks := tk + 1 }) ho fun h'' he' sb => ?_⟩
    have hT2 : h''.get? s.heap.objs.size = some { cls := .type "tuple", data := .seq #[.int i tk, .str ⟨#[c]⟩ u] } := (sb.2 _ (Nat.ne_of_gt hel)).trans hT
    have new : ObjOk X.prog X.w (upd H s.heap.objs.size (.tup [.int (i : Nat), .str ⟨#[c]⟩])) h'' s.heap.objs.size (.tup [.int (i : Nat), .str ⟨#[c]⟩]) :=
      ⟨by show 2 ≤ sizeLine; decide, [.int i tk, .str ⟨#[c]⟩ u], .cons ⟨_, rfl⟩ (.cons ⟨_, rfl⟩ .nil), ⟨_, hT2, rfl, _, rfl⟩⟩
    have I1 : Inv X pins σ (upd H s.heap.objs.size (.tup [.int (i : Nat), .str ⟨#[c]⟩])) { s with heap := h'', toks := tk + 1 } :=
      I.turnedNew (ch := [e, it]) (fun b ob hb q => (sb.2 b (fun z => hb (by simp [z]))).trans (hk b ob (fun z => hb (by simp [z])) (fun z => hb (by simp [z])) q)) hf (Nat.le_refl _) new
    refine ⟨.ref s.heap.objs.size, _, I1, rfl, ⟨_, c, rfl, I.hok.fresh (Nat.le_refl _), rfl, hcx⟩, ⟨⟨.str ⟨#[c]⟩ u, ?_⟩, strIter_at hit' fun o q => (sb.2 it (Ne.symm hne)).trans q, hne⟩, fun b hb => ?_⟩
    · have e1 : ((i + 1 : Nat) : Int) = (i : Int) + 1 := by omega
      rw [e1]; exact he'
    · have hb' : b < s.heap.objs.size := by
        have e' : b = e ∨ b = it := by simpa using hb
        rcases e' with z | z
        · rw [z]; exact hel
        · rw [z]; exact hil
      rw [upd_ne (Nat.ne_of_lt hb')]
      exact (hf b hb).1
  done := by
    intro X hP hw hK hc i pins s σ H E I hf st hg
    subst hP hw hK
    obtain ⟨⟨old, he⟩, hit, hne⟩ := st
    obtain ⟨f0, f1, f2, f3, f4, f5⟩ := hf it (by simp)
    have D := drawsS (prog := X.prog) (w := X.w) (A := X.A.in1) (I.ok.hd hc) it x t ty hty
    have hi : x.cps.size = i := hg
    rw [← hi] at hit
    exact wpAny_pyNext_enum_endD D he hit fun h' eb => ⟨rfl, I.turned (t' := s.toks) (fun b o hb q => eb b o hb q) f0 f1 f3 f4 f5⟩
  self := fun A i s Q E st h => let ⟨⟨_, he⟩, _⟩ := st; wpAny_pyIter_enum he h
def iEnumS (ta : TA) : TI := fun σ H R => ta σ H fun vs H1 => ∃ z, vs = [.str z] ∧ R (IteS z) H1
theorem pi_enumS {X : Cx} {e : Expr} {ta : TA} {p pos tpos : Pos} {elts : List Expr} {kk : Nat} (hg : Gl X "enumerate") (hm : X.mg "enumerate" = none) (ha : PA X [e] ta) (hs : starEach [e] X.env = [(false, eval e X.env)] := by rfl) :
    PI X (.Tuple elts kk tpos) (.Call (.Name "enumerate" p) [e] [] pos) (iEnumS ta) := by
  refine ⟨fun pins s σ H R I h => ?_⟩
  refine Call_ (ld_blt I hg hm boot_enumerate (PyProof.Rows.callWith_type1 (thn (ha.run pos pins s σ H _ I h) fun us s1 ⟨vs, H1, I1, r1, q1⟩ => ?_) hs rfl))
  obtain ⟨z, ex, q⟩ := q1
  subst ex
  cases r1 with
  | cons r rr =>
    cases rr
    obtain ⟨t, rfl⟩ := r
    refine call_enumerate_str fun h' he hit hsz hk => wpAny_pyIter_enum he ?_
    have I2 : Inv X pins σ H1 { s1 with heap := h' } := I1.kept (t' := s1.toks) hk
    have hty : strIterType z = "str_ascii_iterator" ∨ strIterType z = "str_iterator" := by
      unfold strIterType
      split
      · exact .inl rfl
      · exact .inr rfl
    refine ⟨s1.heap.objs.size + 1, [s1.heap.objs.size + 1, s1.heap.objs.size], _, _, H1, rfl, I2, turn_enumS (s1.heap.objs.size + 1) s1.heap.objs.size z t (strIterType z) hty, ⟨⟨.none, he⟩, hit, Nat.succ_ne_self _⟩, fun b hb => ?_, q⟩
    have e' : b = s1.heap.objs.size + 1 ∨ b = s1.heap.objs.size := by simpa using hb
    have hle : s1.heap.objs.size ≤ b := by
      rcases e' with z | z
      · rw [z]; exact Nat.le_add_right _ _
      · rw [z]; exact Nat.le_refl _
    exact I1.fpOk hle (I1.hok.fresh hle)
end TG


set_option Elab.async false
set_option linter.all false
set_option maxRecDepth 100000
set_option maxHeartbeats 4000000
/-! Strings in the layer; calls of built-ins of two ints; a datum of the top. -/
namespace DL
open PySem L2 TG
variable {f : Fr} {te : TE} {E : WE}
def gAddS (d1 d2 : PyData) (P : Vl → Prop) : Prop := match d1, d2 with
  | .str i, .str j => i.length + j.length ≤ sizeLine ∧ P (.dat (.str (i ++ j)))
  | _, _ => False
theorem eAddS {i j : Str} {P : Vl → Prop} : gAddS (.str i) (.str j) P = (i.length + j.length ≤ sizeLine ∧ P (.dat (.str (i ++ j)))) := rfl
theorem sr_addS : SR f (fun x y H Q => ∃ i j, x = .str i ∧ y = .str j ∧ i.length + j.length ≤ sizeLine ∧ Q (.str (i ++ j)) H) gAddS := ⟨fun {L W e σ Hz H x y d1 d2 Post Q} r1 r2 s h k => by
  unfold gAddS at h
  split at h
  · cases r1
    cases r2
    exact ⟨_, _, rfl, rfl, h.1, k _ _ _ _ h.2 same_refl s (Dp.str _)⟩
  · exact h.elim⟩
def gInS (neg : Bool) (d1 d2 : PyData) (P : Vl → Prop) : Prop := match d1, d2 with
  | .str x, .str z => ∃ c, x = ⟨#[c]⟩ ∧ P (.dat (.bool (if neg then !decide (c ∈ z.cps.toList) else decide (c ∈ z.cps.toList))))
  | _, _ => False
theorem eInS {neg : Bool} {x z : Str} {P : Vl → Prop} : gInS neg (.str x) (.str z) P = (∃ c, x = ⟨#[c]⟩ ∧ P (.dat (.bool (if neg then !decide (c ∈ z.cps.toList) else decide (c ∈ z.cps.toList))))) := rfl
theorem sr_inS : SR f (fun x y H Q => ∃ (c : Nat) (z : Str), x = .str ⟨#[c]⟩ ∧ y = .str z ∧ Q (.bl (decide (c ∈ z.cps.toList))) H) (gInS false) := ⟨fun {L W e σ Hz H x y d1 d2 Post Q} r1 r2 s h k => by
  unfold gInS at h
  split at h
  · obtain ⟨c, rfl, h⟩ := h
    cases r1
    cases r2
    exact ⟨_, _, rfl, rfl, k _ _ _ _ h same_refl s (Dp.bl _)⟩
  · exact h.elim⟩
theorem sr_notInS : SR f (fun x y H Q => ∃ (c : Nat) (z : Str), x = .str ⟨#[c]⟩ ∧ y = .str z ∧ Q (.bl (!decide (c ∈ z.cps.toList))) H) (gInS true) := ⟨fun {L W e σ Hz H x y d1 d2 Post Q} r1 r2 s h k => by
  unfold gInS at h
  split at h
  · obtain ⟨c, rfl, h⟩ := h
    cases r1
    cases r2
    exact ⟨_, _, rfl, rfl, k _ _ _ _ h same_refl s (Dp.bl _)⟩
  · exact h.elim⟩
def gLenS (d : PyData) (P : Vl → Prop) : Prop := match d with
  | .str z => z.length ≤ sizeLine ∧ P (.dat (.int z.length))
  | _ => False
theorem eLenS {z : Str} {P : Vl → Prop} : gLenS (.str z) P = (z.length ≤ sizeLine ∧ P (.dat (.int z.length))) := rfl
theorem sc_lenS : SC f (fun xs H Q => ∃ z, xs = [.str z] ∧ z.length ≤ sizeLine ∧ Q (.int z.length) H) gLenS := ⟨fun {L W e σ Hz H x d Post Q} r s h k => by
  unfold gLenS at h
  split at h
  · cases r
    exact ⟨_, rfl, h.1, k _ _ _ _ h.2 same_refl s (Dp.int _)⟩
  · exact h.elim⟩
def wSlS (E : WE) (A B : WO) (e : En) (P : Vl → En → Prop) : Prop := wFz E e fun d e1 => A e1 fun lo e2 => B e2 fun hi e3 => match d with
  | .str z => z.length ≤ sizeLine ∧ P (.dat (.str (cutS z lo hi))) e3
  | _ => False
theorem se_slS {tl th : TO} {A B : WO} (h : SE f te E) (hl : SO f tl A) (hh : SO f th B) : SE f (tSl rSlS te tl th) (wSlS E A B) := ⟨fun {L W e σ Hz H Post Q} w y k =>
  fz_run h w y fun d e1 v Hz1 H1 w1 s1 y1 d1 => hl.run w1 y1 fun lo e2 Hz2 H2 w2 s2 y2 => hh.run w2 y2 fun hi e3 Hz3 H3 w3 s3 y3 => by
    split at w3
    · cases d1
      exact ⟨_, rfl, w3.1, k _ _ _ _ _ w3.2 (same_trans s1 (same_trans s2 s3)) y3 (Dp.str _)⟩
    · exact w3.elim⟩
/-- a built-in of two ints -/
def wI2 (g : Int → Int → V) (A : WA) (e : En) (P : Vl → En → Prop) : Prop := A e fun ds e1 => match ds with
  | [.int i, .int j] => P (.dat (vD (g i j))) e1
  | _ => False
theorem se_cbI2 {r : List V → Hp → VK → Prop} {g : Int → Int → V} {ta : TA} {A : WA} (hr : ∀ i j H Q, Q (g i j) H → r [.int i, .int j] H Q) (hg : ∀ i j, scV (g i j) = true) (h : SA f ta A) : SE f (tCB r ta) (wI2 g A) := ⟨fun {L W e σ Hz H Post Q} w y k => h.run w y fun ds e1 vs Hz1 H1 h1 s1 y1 d1 => by
  split at h1
  · cases d1 with
    | cons a1 a2 =>
      cases a1
      cases a2 with
      | cons b1 b2 =>
        cases b1
        cases b2
        exact hr _ _ _ _ (k _ _ _ _ _ h1 s1 y1 (dp_sc (hg _ _)))
  · exact h1.elim⟩
def gMx (i j : Int) : V := .int (if j > i then j else i)
def gMn (i j : Int) : V := .int (if j < i then j else i)
def gGcd (i j : Int) : V := .int ((Nat.gcd i.natAbs j.natAbs : Nat) : Int)
theorem se_max2 {ta : TA} {A : WA} (h : SA f ta A) : SE f (tCB (fun xs H Q => ∃ i j, xs = [.int i, .int j] ∧ Q (.int (if j > i then j else i)) H) ta) (wI2 gMx A) := se_cbI2 (fun i j H Q q => ⟨i, j, rfl, q⟩) (fun _ _ => rfl) h
theorem se_min2 {ta : TA} {A : WA} (h : SA f ta A) : SE f (tCB (fun xs H Q => ∃ i j, xs = [.int i, .int j] ∧ Q (.int (if j < i then j else i)) H) ta) (wI2 gMn A) := se_cbI2 (fun i j H Q q => ⟨i, j, rfl, q⟩) (fun _ _ => rfl) h
theorem se_gcd {ta : TA} {A : WA} (h : SA f ta A) : SE f (tCB rGcd ta) (wI2 gGcd A) := se_cbI2 (fun i j H Q q => ⟨i, j, rfl, q⟩) (fun _ _ => rfl) h
theorem evd_mx {i j : Int} : vD (gMx i j) = .int (if j > i then j else i) := rfl
theorem evd_mn {i j : Int} : vD (gMn i j) = .int (if j < i then j else i) := rfl
theorem evd_gcd {i j : Int} : vD (gGcd i j) = .int ((Nat.gcd i.natAbs j.natAbs : Nat) : Int) := rfl
/-- a datum that stands in the top -/
theorem se_gd {v : V} {d : PyData} (h : ∀ H, Dp f.K H v d) : SE f (tC v) (wC d) := ⟨fun w y k => k _ _ _ _ _ w same_refl y (h _)⟩
/-- the signs of a text -/
def sgD (z : Str) : List PyData := z.cps.toList.map fun c => .str ⟨#[c]⟩
theorem sgD_len (z : Str) : (sgD z).length = z.cps.size := by simp [sgD]
theorem sgD_get {z : Str} {i : Nat} {d : PyData} (h : (sgD z)[i]? = some d) : ∃ c, z.cps[i]? = some c ∧ d = .str ⟨#[c]⟩ := by
  unfold sgD at h
  rw [List.getElem?_map] at h
  cases hc : z.cps.toList[i]? with
  | none => rw [hc] at h; cases h
  | some c => rw [hc] at h; cases h; exact ⟨c, by rw [← hc]; simp, rfl⟩
theorem walk_str {K : PySem.W.Frag} {Hz : Hp} (z : Str) : Walk K (Its z) Hz (sgD z) where
  stop := fun H s => by show z.cps.size ≤ _; rw [sgD_len]; exact Nat.le_refl _
  go := fun i H hi s => by rw [sgD_len] at hi; exact hi
  yld := fun i H x H' d s y e => by
    obtain ⟨rfl, c, hc, rfl⟩ := y
    obtain ⟨c', hc', rfl⟩ := sgD_get e
    rw [hc] at hc'
    cases hc'
    exact .inl ⟨rfl, Dp.str _⟩
theorem walk_enumS {K : PySem.W.Frag} {Hz : Hp} (z : Str) : Walk K (IteS z) Hz (enumD (sgD z)) where
  stop := fun H s => by show z.cps.size = _; rw [enumD_len, sgD_len]
  go := fun i H hi s => by rw [enumD_len, sgD_len] at hi; exact hi
  yld := fun i H x H' d s y e => by
    obtain ⟨T, c, rfl, h1, rfl, hc⟩ := y
    obtain ⟨dx, e1, rfl⟩ := enumD_get e
    obtain ⟨c', hc', rfl⟩ := sgD_get e1
    rw [hc] at hc'
    cases hc'
    exact .inr ⟨T, _, _, rfl, h1, rfl, rfl, .cons (.int _) (.cons (Dp.str _) .nil)⟩
def wIStr (E : WE) (e : En) (P : List PyData → En → Prop) : Prop := wFz E e fun d e1 => match d with
  | .str z => P (sgD z) e1
  | _ => False
theorem si_str (h : SE f te E) : SI f (iStr te) (wIStr E) := ⟨fun {L W e σ Hz H Post R} w y k => fz_run h w y fun d e1 v Hz1 H1 h1 s1 y1 d1 => by
  split at h1
  · cases d1
    exact ⟨_, rfl, k _ _ _ _ _ h1 s1 y1 (walk_str _)⟩
  · exact h1.elim⟩
def wIEnumS (E : WE) (e : En) (P : List PyData → En → Prop) : Prop := wFz E e fun d e1 => match d with
  | .str z => P (enumD (sgD z)) e1
  | _ => False
theorem si_enumS (h : SE f te E) : SI f (iEnumS (tCons te tNil)) (wIEnumS E) := ⟨fun {L W e σ Hz H Post R} w y k => fz_run h w y fun d e1 v Hz1 H1 h1 s1 y1 d1 => by
  split at h1
  · cases d1
    exact ⟨_, rfl, k _ _ _ _ _ h1 s1 y1 (walk_enumS _)⟩
  · exact h1.elim⟩
end DL


set_option Elab.async false
set_option linter.all false
set_option maxRecDepth 100000
set_option maxHeartbeats 4000000
/-! join, str of an int, int of a text. -/
namespace DL
open PySem L2 TG
def rJoinK (K : PySem.W.Frag) : V → List V → Hp → VK → Prop := fun x xs H Q => ∃ a p, ∃ ys : List Str, x = .str a ∧ xs = [.ref p] ∧ (SqL K H p (ys.map V.str) ∨ SqT K H p (ys.map V.str)) ∧ (ys.map (·.length)).sum + ys.length * a.length ≤ 16777216 ∧ Q (.str (Txt.join a ys)) H
theorem pe_joinK {X : Cx} {K : PySem.W.Frag} {o e : Expr} {to te : TE} (hK : X.K = K) {apos pos : Pos} (ho : PE X o to) (he : PE X e te) (hs : starEach [e] X.env = [(false, eval e X.env)] := by rfl) (hbase : attributeBase o "join" X.env (eval o X.env) = eval o X.env := by rfl) (hline : (apos.endLine == pos.line) = true := by rfl) :
    PE X (.Call (.Attribute o "join" apos) [e] [] pos) (tM1 (rJoinK K) to te) := by
  subst hK
  exact pe_join ho he hs hbase hline
variable {f : Fr} {te to : TE} {E Eo : WE}
def strsD : List PyData → Option (List Str)
  | [] => some []
  | .str i :: ds => (strsD ds).map (i :: ·)
  | _ :: _ => none
theorem strsD_map (ns : List Str) : strsD (ns.map PyData.str) = some ns := by
  induction ns with
  | nil => rfl
  | cons n ns ih => simp [strsD, ih]
theorem strsD_eq : ∀ {ds : List PyData} {ns : List Str}, strsD ds = some ns → ds = ns.map PyData.str
  | [], ns, h => by cases h; rfl
  | .str i :: ds, ns, h => by
    unfold strsD at h
    cases c : strsD ds with
    | none => rw [c] at h; cases h
    | some ms =>
      rw [c] at h
      cases h
      rw [strsD_eq c]
      rfl
  | .none :: _, _, h => by cases h
  | .int _ :: _, _, h => by cases h
  | .bool _ :: _, _, h => by cases h
  | .list _ :: _, _, h => by cases h
  | .tuple _ :: _, _, h => by cases h
  | .dict _ :: _, _, h => by cases h
theorem dps_strs {K : PySem.W.Frag} {Hz : Hp} : ∀ {ns : List Str} {vs : List V}, DpAll K Hz vs (ns.map PyData.str) → vs = ns.map V.str
  | [], _, .nil => rfl
  | n :: ns, _, .cons h1 h2 => by
    cases h1
    rw [dps_strs h2]
    rfl
def jnS (a : Str) (d2 : PyData) (P : Vl → En → Prop) (e2 : En) : Prop := match d2 with
  | .list ds => ob1 (strsD ds) fun ys => (ys.map (·.length)).sum + ys.length * a.length ≤ 16777216 ∧ P (.dat (.str (Txt.join a ys))) e2
  | .tuple ds => ob1 (strsD ds) fun ys => (ys.map (·.length)).sum + ys.length * a.length ≤ 16777216 ∧ P (.dat (.str (Txt.join a ys))) e2
  | _ => False
theorem eJnL {a : Str} {ds : List PyData} {P : Vl → En → Prop} {e2 : En} : jnS a (.list ds) P e2 = ob1 (strsD ds) fun ys => (ys.map (·.length)).sum + ys.length * a.length ≤ 16777216 ∧ P (.dat (.str (Txt.join a ys))) e2 := rfl
theorem eJnT {a : Str} {ds : List PyData} {P : Vl → En → Prop} {e2 : En} : jnS a (.tuple ds) P e2 = ob1 (strsD ds) fun ys => (ys.map (·.length)).sum + ys.length * a.length ≤ 16777216 ∧ P (.dat (.str (Txt.join a ys))) e2 := rfl
def wJoin (Eo E : WE) (e : En) (P : Vl → En → Prop) : Prop := wFz Eo e fun d1 e1 => match d1 with
  | .str a => wFz E e1 fun d2 e2 => jnS a d2 P e2
  | _ => False
theorem se_join (ho : SE f to Eo) (he : SE f te E) : SE f (tM1 (rJoinK f.K) to te) (wJoin Eo E) := ⟨fun {L W e σ Hz H Post Q} w y k => fz_run ho w y fun d1 e1 v1 Hz1 H1 h1 s1 y1 p1 => by
  split at h1
  · cases p1
    refine ⟨⟨_, rfl⟩, fz_run he h1 y1 fun d2 e2 v2 Hz2 H2 h2 s2 y2 p2 => ?_⟩
    unfold jnS at h2
    split at h2
    · obtain ⟨ys, c, h3, h4⟩ := ob1_ex h2
      rw [strsD_eq c] at p2
      cases p2 with
      | lst q1 q2 =>
        rw [dps_strs q2] at q1
        exact ⟨_, _, ys, rfl, rfl, .inl (sqL y2.sm q1), h3, k _ _ _ _ _ h4 (same_trans s1 s2) y2 (Dp.str _)⟩
    · obtain ⟨ys, c, h3, h4⟩ := ob1_ex h2
      rw [strsD_eq c] at p2
      cases p2 with
      | tup q1 q2 =>
        rw [dps_strs q2] at q1
        exact ⟨_, _, ys, rfl, rfl, .inr (sqT y2.sm q1), h3, k _ _ _ _ _ h4 (same_trans s1 s2) y2 (Dp.str _)⟩
    · exact h2.elim
  · exact h1.elim⟩
/-- str(i) -/
def gStrI (d : PyData) (P : Vl → Prop) : Prop := match d with
  | .int i => i.natAbs.log2 < 1920 ∧ P (.dat (.str (toString i)))
  | _ => False
theorem eStrI {i : Int} {P : Vl → Prop} : gStrI (.int i) P = (i.natAbs.log2 < 1920 ∧ P (.dat (.str (toString i)))) := rfl
theorem sc_strI : SC f (fun xs H Q => ∃ i, xs = [.int i] ∧ i.natAbs.log2 < 1920 ∧ Q (.str (toString i)) H) gStrI := ⟨fun {L W e σ Hz H x d Post Q} r s h k => by
  unfold gStrI at h
  split at h
  · cases r
    exact ⟨_, rfl, h.1, k _ _ _ _ h.2 same_refl s (Dp.str _)⟩
  · exact h.elim⟩
/-- int(text) -/
def gIntS (d : PyData) (P : Vl → Prop) : Prop := match d with
  | .str a => a.length ≤ 640 ∧ ob1 (PySem.intText? a) fun n => P (.dat (.int n))
  | _ => False
theorem eIntS {a : Str} {P : Vl → Prop} : gIntS (.str a) P = (a.length ≤ 640 ∧ ob1 (PySem.intText? a) fun n => P (.dat (.int n))) := rfl
theorem sc_intS : SC f (fun xs H Q => ∃ a n, xs = [.str a] ∧ PySem.intText? a = some n ∧ a.length ≤ 640 ∧ Q (.int n) H) gIntS := ⟨fun {L W e σ Hz H x d Post Q} r s h k => by
  unfold gIntS at h
  split at h
  · obtain ⟨h1, h⟩ := h
    obtain ⟨n, c, h⟩ := ob1_ex h
    cases r
    exact ⟨_, n, rfl, c, h1, k _ _ _ _ h same_refl s (Dp.int _)⟩
  · exact h.elim⟩
end DL


set_option Elab.async false
set_option linter.all false
set_option maxRecDepth 100000
set_option maxHeartbeats 4000000
/-! A written dict of one entry whose key is a tuple. -/
namespace DL
open PySem PySem.Spec PyProof.Rows L2 TG
def tNDisp (P : Program) (w : World) (K : PySem.W.Frag) (tk tv : TE) : TE := fun σ H Q => ∀ p, H p = none → tk σ (upd H p (dnO P w p [])) fun y H1 => tv σ H1 fun v H2 => ∃ b k, y = .ref b ∧ H2 p = some (dnO P w p []) ∧ KeyAt K H2 b k ∧ Q (.ref p) (upd H2 p (dnO P w p [(k, b, v)]))
theorem dictOne {X : Cx} {key value : Expr} {pos : Pos} {s : Shared} {Q : Value → Shared → Prop} (hu : (nestedKind X.prog X.w).room X.A)
    (h : wpAny (model X.prog X.w) X.A (evalPairs (pairTrees [some key] [value] X.env pos)) (fun vs s1 => ∃ e : NestedKey × Addr × Value, CarriesH (nestedKind X.prog X.w) s1.heap vs [e] ∧ s1.heap.DictOfH (nestedKind X.prog X.w) s.heap.objs.size [] ∧
      ∀ h' tk, h'.DictOfH (nestedKind X.prog X.w) s.heap.objs.size [e] → Heap.SameBut s.heap.objs.size s1.heap h' → Q (.ref s.heap.objs.size) { s1 with heap := h', toks := tk }) X.xe
      { s with heap := s.heap.push { cls := .type "dict", data := .dict #[] } }) :
    wpAny (model X.prog X.w) X.A (eval (.Dict [some key] [value] pos) X.env) Q X.xe s := by
  have hs : (evalEachOpt [some key] X.env).zip ((evalEach [value] X.env).map fun v => do let x ← v; standAt pos; pure x) = (pairTrees [some key] [value] X.env pos).map fun p => (some p.1, p.2) := rfl
  rw [arm_eval_Dict, hs, dictDisplay_pairs _ (by simp [pairTrees]) (by simp [pairTrees])]
  refine wpAny_bind (wpAny_standAt (wpAny_bind ?_))
  refine wpAny_subDictH (knd := nestedKind X.prog X.w) (Q := fun d s' => wpAny (model X.prog X.w) X.A (pure (Value.ref d)) Q X.xe s') hu (by simp [pairTrees]) ?_
  refine wpAny_mono h (fun vs s1 q => ?_) fun _ _ z => z
  obtain ⟨e, c1, c2, c3⟩ := q
  exact ⟨[e], c1, c2, fun h' tk a b => wpAny_pure (c3 h' tk a b)⟩
theorem pe_ndisp {X : Cx} {K : PySem.W.Frag} {P : Program} {w : World} {pos : Pos} {key value : Expr} {tk tv : TE} (hK : X.K = K) (hP : X.prog = P) (hw : X.w = w) (hu : X.A.units + 64 < cLine) (hk : PE X key tk) (hv : PE X value tv) :
    PE X (.Dict [some key] [value] pos) (tNDisp P w K tk tv) := by
  subst hK hP hw
  refine ⟨fun pins s σ H Q I q => ?_⟩
  have hn := I.hok.fresh (Nat.le_refl s.heap.objs.size)
  have I1 := I.laid (a := s.heap.objs.size) (o := dnO X.prog X.w s.heap.objs.size []) (h' := s.heap.push { cls := .type "dict", data := .dict #[] }) (t' := s.toks) (fun _ _ q => Heap.get?_push_of_some _ q) (Nat.le_refl _)
    (dn_ok ⟨Nat.zero_le _, beq_eq_false_iff_ne.mpr (Ne.symm (Nat.ne_of_lt I.big)), [], .nil, _, #[], 0, Heap.get?_push_size _ rfl, ⟨rfl, rfl, rfl⟩, rfl, rfl, List.nodup_nil⟩)
  refine dictOne (by show X.A.units + 8 < cLine; omega) ?_
  have q2 : tPairs [(tk, tv)] σ (upd H s.heap.objs.size (dnO X.prog X.w s.heap.objs.size [])) (fun ps H2 => match ps with
    | [(y, v)] => ∃ b k, y = .ref b ∧ H2 s.heap.objs.size = some (dnO X.prog X.w s.heap.objs.size []) ∧ KeyAt X.K H2 b k ∧ Q (.ref s.heap.objs.size) (upd H2 s.heap.objs.size (dnO X.prog X.w s.heap.objs.size [(k, b, v)]))
    | _ => False) := q _ hn
  refine thn ((pps_cons (pos := pos) hk hv pps_nil).run pins _ σ _ _ I1 q2) ?_
  rintro vs s2 ⟨ps, H2, I2, rel, h2⟩
  match ps, vs, rel, h2 with
  | [(y, v)], [(u1, u2)], .cons ⟨r1, r2⟩ .nil, ⟨b, k, e1, e2, e3, e4⟩ =>
    subst e1
    obtain rfl : u1 = Value.ref b := r1
    obtain ⟨z, hd, xs, r, dd⟩ := dn_at I2 e2 (fun _ h => by cases h)
    cases r
    refine ⟨(k, b, u2), ⟨rfl, rfl, e3.is I2, trivial⟩, dd, fun h' tk dd' hs => ⟨.ref s.heap.objs.size, _, ?_, rfl, e4⟩⟩
    obtain ⟨o, es, ep, g1, g2, g3, g4, g5, g6⟩ := dd'
    exact d_write I2 (by rw [e2]; exact True.intro) hs ⟨o, g1⟩ (dn_ok ⟨by show 1 ≤ sizeLine; decide, hd, _, .cons ⟨rfl, rfl, r2⟩ .nil, o, es, ep, g1, g2, g3, g4, g6⟩)
end DL


set_option Elab.async false
set_option linter.all false
set_option maxRecDepth 100000
set_option maxHeartbeats 4000000
/-! Instances, methods, shared lists and dicts over the layer of values. -/
namespace DL
open PySem L2 TG
/-! ### names of attributes -/
theorem char_inj {a b : Char} (h : a.toNat = b.toNat) : a = b := by
  apply Char.ext
  apply UInt32.toNat_inj.mp
  exact h
theorem ofString_inj {s t : String} (h : Str.ofString s = Str.ofString t) : s = t := by
  rw [Str.ofString_eq_toList, Str.ofString_eq_toList] at h
  injection h with h
  have h2 : s.toList.map Char.toNat = t.toList.map Char.toNat := by
    have := congrArg Array.toList h
    simpa using this
  have inj : ∀ {l m : List Char}, l.map Char.toNat = m.map Char.toNat → l = m := by
    intro l
    induction l with
    | nil => intro m h; cases m with
      | nil => rfl
      | cons _ _ => cases h
    | cons a l ih => intro m h; cases m with
      | nil => cases h
      | cons b m =>
        simp only [List.map_cons, List.cons.injEq] at h
        rw [char_inj h.1, ih h.2]
  exact String.toList_inj.mp (inj h2)
theorem beq_ofString (s t : String) : (Str.ofString s == Str.ofString t) = (s == t) := by
  by_cases h : s = t
  · subst h
    simp
  · rw [beq_eq_false_iff_ne.mpr h, beq_eq_false_iff_ne.mpr (fun c => h (ofString_inj c))]
theorem PF.get {K : PySem.W.Frag} {Hz : Hp} {fs : List (String × PyData)} {vs : List (Str × V)} (h : PF K Hz fs vs) {s : String} {d : PyData} (e : fs.lookup s = some d) : ∃ v, vs.lookup (Str.ofString s) = some v ∧ Dp K Hz v d := by
  induction h with
  | nil => cases e
  | @cons t v d' fs vs q p ih =>
    rw [List.lookup_cons] at e ⊢
    rw [beq_ofString]
    cases c : s == t with
    | true =>
      rw [c] at e
      cases e
      exact ⟨v, rfl, q⟩
    | false =>
      rw [c] at e
      exact ih e
theorem PF.no {K : PySem.W.Frag} {Hz : Hp} {fs : List (String × PyData)} {vs : List (Str × V)} (h : PF K Hz fs vs) {s : String} (e : fs.lookup s = none) : vs.lookup (Str.ofString s) = none := by
  induction h with
  | nil => rfl
  | @cons t v d' fs vs q p ih =>
    rw [List.lookup_cons] at e ⊢
    rw [beq_ofString]
    cases c : s == t with
    | true => rw [c] at e; cases e
    | false => rw [c] at e; exact ih e
def putA (s : String) (d : PyData) : List (String × PyData) → List (String × PyData)
  | [] => [(s, d)]
  | (t, x) :: r => if t = s then (t, d) :: r else (t, x) :: putA s d r
theorem putA_nil {s : String} {d : PyData} : putA s d [] = [(s, d)] := rfl
theorem putA_cons {s t : String} {d x : PyData} {r : List (String × PyData)} : putA s d ((t, x) :: r) = if t = s then (t, d) :: r else (t, x) :: putA s d r := rfl
theorem PF.put {K : PySem.W.Frag} {Hz : Hp} {fs : List (String × PyData)} {vs : List (Str × V)} (h : PF K Hz fs vs) {s : String} {d : PyData} {v : V} (q : Dp K Hz v d) : PF K Hz (putA s d fs) (putF (Str.ofString s) v vs) := by
  induction h with
  | nil => exact .cons q .nil
  | @cons t x d' fs vs q' p ih =>
    rw [putA_cons]
    show PF K Hz _ (if Str.ofString t = Str.ofString s then (Str.ofString t, v) :: vs else (Str.ofString t, x) :: putF (Str.ofString s) v vs)
    by_cases c : t = s
    · subst c
      rw [if_pos rfl, if_pos rfl]
      exact .cons q p
    · rw [if_neg c, if_neg (fun z => c (ofString_inj z))]
      exact .cons q' ih
theorem PF.len {K : PySem.W.Frag} {Hz : Hp} {fs : List (String × PyData)} {vs : List (Str × V)} (h : PF K Hz fs vs) : vs.length = fs.length := by
  induction h with
  | nil => rfl
  | cons _ _ ih => rw [List.length_cons, List.length_cons, ih]
/-! ### pointers -/
def unp : PyData → Option Addr
  | .dict [(.none, .int (.ofNat a))] => some a
  | _ => none
theorem unp_ptr {a : Addr} : unp (ptr a) = some a := rfl
theorem unp_eq {d : PyData} {a : Addr} (h : unp d = some a) : d = ptr a := by
  unfold unp at h
  split at h
  · cases h
    rfl
  · cases h
theorem dp_ptr {K : PySem.W.Frag} {Hz : Hp} {v : V} {a : Addr} (h : Dp K Hz v (ptr a)) : v = .ref a := by
  generalize e : ptr a = d at h
  cases h with
  | ptr b => rw [ptr_inj e]
  | dic _ => cases e
  | _ => cases e
/-- the object that a value points to -/
def ptrK (P : Addr → En → Prop) (b : Vl) (e : En) : Prop := match b with
  | .dat d => ob1 (unp d) fun a => P a e
  | .gob _ a => P a e
  | _ => False
theorem ptrK_dat {P : Addr → En → Prop} {d : PyData} {e : En} : ptrK P (.dat d) e = ob1 (unp d) fun a => P a e := rfl
theorem ptrK_gob {P : Addr → En → Prop} {n : Nat} {a : Addr} {e : En} : ptrK P (.gob n a) e = P a e := rfl
def insAt (C : Addr) (x : Option Cell) (g : List (String × PyData) → Prop) : Prop := ∃ fs, x = some (.ins C fs) ∧ g fs
theorem insAt_ins {C : Addr} {fs : List (String × PyData)} {g : List (String × PyData) → Prop} : insAt C (some (.ins C fs)) g = g fs := by
  apply propext
  constructor
  · rintro ⟨fs', e, h⟩
    cases e
    exact h
  · intro h
    exact ⟨fs, rfl, h⟩
def lstAt (x : Option Cell) (g : List PyData → Prop) : Prop := match x with
  | some (.ob (.lst ds)) => g ds
  | _ => False
theorem lstAt_lst {ds : List PyData} {g : List PyData → Prop} : lstAt (some (.ob (.lst ds))) g = g ds := rfl
def dnAt (P : Program) (w : World) (x : Option Cell) (g : List (NestedKey × PyData) → Prop) : Prop := ∃ kvs, x = some (.ob (.dN P w kvs)) ∧ g kvs
theorem dnAt_dN {P : Program} {w : World} {kvs : List (NestedKey × PyData)} {g : List (NestedKey × PyData) → Prop} : dnAt P w (some (.ob (.dN P w kvs))) g = g kvs := by
  apply propext
  constructor
  · rintro ⟨fs', e, h⟩
    cases e
    exact h
  · intro h
    exact ⟨kvs, rfl, h⟩
def dkAt (x : Option Cell) (g : List (Key × PyData) → Prop) : Prop := match x with
  | some (.ob (.dK kvs)) => g kvs
  | _ => False
theorem dkAt_dK {kvs : List (Key × PyData)} {g : List (Key × PyData) → Prop} : dkAt (some (.ob (.dK kvs))) g = g kvs := rfl
section
variable {f : Fr} {te td ty tx : TE} {E Ed Ey Ex : WE} {ta : TA} {A : WA}
/-- running to a pointer -/
theorem ptr_run (h : SE f te E) {L W e σ Hz H} {Post : Addr → En → Prop} {Q : VK} (w : E e (ptrK Post)) (y : Sy f L W e σ Hz H) (k : ∀ a e' Hz' H', Post a e' → Same Hz Hz' → Sy f L W e' σ Hz' H' → Q (.ref a) H') : te σ H Q :=
  h.run w y fun b e1 v Hz1 H1 w1 s1 y1 l1 => by
    cases b with
    | dat d =>
      rw [ptrK_dat] at w1
      obtain ⟨a, c, w1⟩ := ob1_ex w1
      have l1' : Dp f.K Hz1 v d := l1
      rw [unp_eq c] at l1'
      rw [dp_ptr l1']
      exact k _ _ _ _ w1 s1 y1
    | gob n a =>
      have l1' : v = .ref a := l1
      rw [l1']
      exact k _ _ _ _ w1 s1 y1
    | ob o => exact w1.elim
    | own i => exact w1.elim
/-- o.s -/
def wFld (n : Nat) (C : Addr) (s : String) (E : WE) (e : En) (P : Vl → En → Prop) : Prop := E e (ptrK fun a e1 => gsAt (fun G => insAt C (G a) fun fs => ob1 (fs.lookup s) fun d => P (.dat d) e1) e1[n]?)
theorem se_fld {n : Nat} {C : Addr} {s : String} (hc : Cls f.K C) (hn : NoAttr f.K C (Str.ofString s)) (h : SE f te E) : SE f (tFld f.K te (Str.ofString s)) (wFld n C s E) := ⟨fun {L W e σ Hz H Post Q} w y k => ptr_run h w y fun a e1 Hz1 H1 w1 s1 y1 => by
  obtain ⟨G, he, fs, hG, w1⟩ := gsAt_ex w1
  obtain ⟨d, hd, w1⟩ := ob1_ex w1
  obtain ⟨⟨dx, vs, hH, pf⟩, hz⟩ := y1.gget he hG
  obtain ⟨v, hv, dv⟩ := pf.get hd
  exact ⟨a, C, dx, vs, v, rfl, hH, hc, hn, hv, k _ _ _ _ _ w1 s1 y1 dv⟩⟩
/-- the object itself, to be read -/
def wDr (n : Nat) (E : WE) (e : En) (P : Vl → En → Prop) : Prop := E e (ptrK fun a e1 => P (.gob n a) e1)
theorem se_dr {n : Nat} (h : SE f te E) : SE f te (wDr n E) := ⟨fun {L W e σ Hz H Post Q} w y k => ptr_run h w y fun a e1 Hz1 H1 w1 s1 y1 => k (.gob n a) _ _ _ _ w1 s1 y1 rfl⟩
/-- a new object becomes a shared one -/
def toGK (n : Nat) (P : Vl → En → Prop) (b : Vl) (e1 : En) : Prop := match b with
  | .ob o => gsAt (fun G => ∀ p, G p = none → P (.dat (ptr p)) (e1.set n (some (.gs (upG G p (.ob o)))))) e1[n]?
  | .dat d => P (.dat d) e1
  | _ => False
theorem toGK_ob {n : Nat} {P : Vl → En → Prop} {o : Ob} {e1 : En} : toGK n P (.ob o) e1 = gsAt (fun G => ∀ p, G p = none → P (.dat (ptr p)) (e1.set n (some (.gs (upG G p (.ob o)))))) e1[n]? := rfl
theorem toGK_dat {n : Nat} {P : Vl → En → Prop} {d : PyData} {e1 : En} : toGK n P (.dat d) e1 = P (.dat d) e1 := rfl
def wToG (n : Nat) (E : WE) (e : En) (P : Vl → En → Prop) : Prop := E e (toGK n P)
theorem se_toG {n : Nat} (h : SE f te E) : SE f te (wToG n E) := ⟨fun {L W e σ Hz H Post Q} w y k => h.run w y fun b e1 v Hz1 H1 w1 s1 y1 l1 => by
  cases b with
  | dat d => exact k _ _ _ _ _ w1 s1 y1 l1
  | ob o =>
    rw [toGK_ob] at w1
    obtain ⟨G, he, w1⟩ := gsAt_ex w1
    obtain ⟨a, ea, _, _⟩ := Sy.top y1
    cases ea
    obtain ⟨y2, hn⟩ := Sy.gmv y1 he
    exact k _ _ _ _ _ (w1 a hn) s1 y2 (Dp.ptr a)
  | own i => exact w1.elim
  | gob n a => exact w1.elim⟩
/-- o.s = e -/
def wSFld (n : Nat) (C : Addr) (s : String) (E Eo : WE) (P : Po) (e : En) : Prop := wFz E e fun d e1 => Eo e1 (ptrK fun a e2 => gsAt (fun G => insAt C (G a) fun fs => fs.length < 1000 ∧ P.nx (e2.set n (some (.gs (upG G a (.ins C (putA s d fs))))))) e2[n]?)
theorem ss_fld {n : Nat} {C : Addr} {s : String} (hc : Cls f.K C) (hn : NoAttr f.K C (Str.ofString s)) (ho : SE f td Ed) (hv : SE f te E) : SS f (sFld f.K td te (Str.ofString s)) (wSFld n C s E Ed) := ⟨fun {D P e σ Hz H} w y o => fz_run hv w y fun d e1 v Hz1 H1 w1 s1 y1 d1 => ptr_run ho w1 y1 fun a e2 Hz2 H2 w2 s2 y2 => by
  obtain ⟨G, he, fs, hG, hl, w2⟩ := gsAt_ex w2
  obtain ⟨⟨dx, vs, hH, pf⟩, hz⟩ := y2.gget he hG
  refine ⟨a, C, dx, vs, rfl, hH, hc, hn, by rw [pf.len]; exact hl, o.nx w2 (same_trans s1 s2) (y2.gset he hG ⟨dx, _, upd_same, pf.put (dp_mono s2 _ _ d1)⟩)⟩⟩
/-- o.append(e), o shared -/
def wAppG (n : Nat) (Ed E : WE) (e : En) (P : Vl → En → Prop) : Prop := Ed e (ptrK fun a e1 => gsAt (fun G => lstAt (G a) fun _ => wFz E e1 fun d e2 => gsAt (fun G' => lstAt (G' a) fun ds => ds.length ≤ 100000 ∧ P (.dat .none) (e2.set n (some (.gs (upG G' a (.ob (.lst (ds ++ [d])))))))) e2[n]?) e1[n]?)
theorem lstAt_ex {x : Option Cell} {g : List PyData → Prop} (h : lstAt x g) : ∃ ds, x = some (.ob (.lst ds)) ∧ g ds := by
  unfold lstAt at h
  split at h
  · exact ⟨_, rfl, h⟩
  · exact h.elim
theorem dkAt_ex {x : Option Cell} {g : List (Key × PyData) → Prop} (h : dkAt x g) : ∃ ds, x = some (.ob (.dK ds)) ∧ g ds := by
  unfold dkAt at h
  split at h
  · exact ⟨_, rfl, h⟩
  · exact h.elim
theorem se_appG {n : Nat} (hd : SE f td Ed) (h : SE f te E) : SE f (tBM f.K "list" rAppend td (tCons te tNil)) (wAppG n Ed E) := ⟨fun {L W e σ Hz H Post Q} w y k => ptr_run hd w y fun a e1 Hz1 H1 w1 s1 y1 => by
  obtain ⟨G, he, w1⟩ := gsAt_ex w1
  obtain ⟨ds0, hG, w1⟩ := lstAt_ex w1
  obtain ⟨⟨xs, hx, _⟩, _⟩ := y1.gget he hG
  refine .inl ⟨rfl, xs, SqL.of hx⟩ |> fun z => ⟨z, ?_⟩
  refine fz_run h w1 y1 fun d e2 v Hz2 H2 w2 s2 y2 d2 => ?_
  obtain ⟨G', he', w2⟩ := gsAt_ex w2
  obtain ⟨ds, hG', hl, w2⟩ := lstAt_ex w2
  obtain ⟨⟨xs2, hx2, dv⟩, _⟩ := y2.gget he' hG'
  exact ⟨a, xs2, v, rfl, rfl, hx2, line_lt (by rw [dps_len dv]; exact hl), k _ _ _ _ _ w2 (same_trans s1 s2) (y2.gset he' hG' ⟨_, upd_same, dps_snoc dv d2⟩) Dp.non⟩⟩
/-! ### shared dicts -/
variable {P : Program} {w : World}
/-- d[k] -/
def wNGetG (P : Program) (w : World) (n : Nat) (Ed Ey : WE) (e : En) (Q : Vl → En → Prop) : Prop := Ed e (ptrK fun a e1 => wFz Ey e1 fun d e2 => ob1 (keyT d) fun k => k.depth ≤ 8 ∧ gsAt (fun G => dnAt P w (G a) fun kvs => ob1 (valD kvs k) fun d => Q (.dat d) e2) e2[n]?)
theorem se_ngetG {n : Nat} (hd : SE f td Ed) (hy : SE f ty Ey) : SE f (tNGet f.K P w td ty) (wNGetG P w n Ed Ey) := ⟨fun {L W e σ Hz H Post Q} wp y k => ptr_run hd wp y fun a e1 Hz1 H1 w1 s1 y1 => fz_run hy w1 y1 fun d e2 v2 Hz2 H2 w2 s2 y2 d2 => by
  obtain ⟨ky, c1, hk, w2⟩ := ob1_ex w2
  obtain ⟨G, he, kvs, hG, w2⟩ := gsAt_ex w2
  obtain ⟨dv, c3, w2⟩ := ob1_ex w2
  obtain ⟨⟨ks, h2, h3, h4⟩, _⟩ := y2.gget he hG
  obtain ⟨b, rfl, hb⟩ := keyT_ref d2 c1 hk
  rcases kn_val h4 ky with ⟨q1, q2⟩ | ⟨v', d', q1, q2, q3⟩
  · rw [q1] at c3; cases c3
  · rw [q1] at c3
    cases c3
    exact ⟨a, ks, b, ky, v', rfl, ⟨rfl, h2, keys_same h3 y2.sm, hb.mono y2.sm⟩, q2, k _ _ _ _ _ w2 (same_trans s1 s2) y2 q3⟩⟩
/-- k in d, k not in d -/
def wNInG (P : Program) (w : World) (n : Nat) (neg : Bool) (Ey Ed : WE) (e : En) (Q : Vl → En → Prop) : Prop := wFz Ey e fun d e1 => Ed e1 (ptrK fun a e2 => ob1 (keyT d) fun k => k.depth ≤ 8 ∧ gsAt (fun G => dnAt P w (G a) fun kvs => Q (.dat (.bool (if neg then !(valD kvs k).isSome else (valD kvs k).isSome))) e2) e2[n]?)
theorem se_ninG {n : Nat} (hy : SE f ty Ey) (hd : SE f td Ed) : SE f (tNIn f.K P w ty td) (wNInG P w n false Ey Ed) := ⟨fun {L W e σ Hz H Post Q} wp y k => fz_run hy wp y fun d e1 v Hz1 H1 w1 s1 y1 d1 => ptr_run hd w1 y1 fun a e2 Hz2 H2 w2 s2 y2 => by
  obtain ⟨ky, c1, hk, w2⟩ := ob1_ex w2
  obtain ⟨G, he, kvs, hG, w2⟩ := gsAt_ex w2
  obtain ⟨⟨ks, h2, h3, h4⟩, _⟩ := y2.gget he hG
  obtain ⟨b, rfl, hb⟩ := keyT_ref (dp_mono s2 _ _ d1) c1 hk
  refine ⟨a, ks, b, ky, rfl, ⟨rfl, h2, keys_same h3 y2.sm, hb.mono y2.sm⟩, ?_⟩
  rw [kn_some h4]
  exact k _ _ _ _ _ w2 (same_trans s1 s2) y2 (Dp.bl _)⟩
theorem se_nnotinG {n : Nat} (hy : SE f ty Ey) (hd : SE f td Ed) : SE f (tNNotIn f.K P w ty td) (wNInG P w n true Ey Ed) := ⟨fun {L W e σ Hz H Post Q} wp y k => fz_run hy wp y fun d e1 v Hz1 H1 w1 s1 y1 d1 => ptr_run hd w1 y1 fun a e2 Hz2 H2 w2 s2 y2 => by
  obtain ⟨ky, c1, hk, w2⟩ := ob1_ex w2
  obtain ⟨G, he, kvs, hG, w2⟩ := gsAt_ex w2
  obtain ⟨⟨ks, h2, h3, h4⟩, _⟩ := y2.gget he hG
  obtain ⟨b, rfl, hb⟩ := keyT_ref (dp_mono s2 _ _ d1) c1 hk
  refine ⟨a, ks, b, ky, rfl, ⟨rfl, h2, keys_same h3 y2.sm, hb.mono y2.sm⟩, ?_⟩
  rw [kn_some h4]
  exact k _ _ _ _ _ w2 (same_trans s1 s2) y2 (Dp.bl _)⟩
/-- d[k] = v -/
def wNPutG (P : Program) (w : World) (n : Nat) (Ed Ey Ev : WE) (Q : Po) (e : En) : Prop := wFz Ev e fun d e1 => Ed e1 (ptrK fun a e2 => wFz Ey e2 fun dk e3 => ob1 (keyT dk) fun k => k.depth ≤ 8 ∧ gsAt (fun G => dnAt P w (G a) fun kvs => kvs.length ≤ 100000 ∧ Q.nx (e3.set n (some (.gs (upG G a (.ob (.dN P w (putD kvs k d)))))))) e3[n]?)
theorem ss_nputG {n : Nat} (hd : SE f td Ed) (hy : SE f ty Ey) (hv : SE f te E) : SS f (sNPut f.K P w td ty te) (wNPutG P w n Ed Ey E) := ⟨fun {D Q e σ Hz H} wp y o => fz_run hv wp y fun d e1 v Hz1 H1 w1 s1 y1 d1 => ptr_run hd w1 y1 fun a e2 Hz2 H2 w2 s2 y2 => fz_run hy w2 y2 fun dk e3 v3 Hz3 H3 w3 s3 y3 d3 => by
  obtain ⟨ky, c1, hk, w3⟩ := ob1_ex w3
  obtain ⟨G, he, kvs, hG, hl, w3⟩ := gsAt_ex w3
  obtain ⟨⟨ks, h2, h3, h4⟩, _⟩ := y3.gget he hG
  obtain ⟨b', rfl, hb⟩ := keyT_ref d3 c1 hk
  have hlen := h4.len
  rw [List.length_map] at hlen
  refine ⟨a, ks, b', ky, rfl, ⟨rfl, h2, keys_same h3 y3.sm, hb.mono y3.sm⟩, line_lt (by omega), o.nx w3 (same_trans s1 (same_trans s2 s3)) (y3.gset he hG ⟨_, upd_same, putN_keys h3 hb, ?_⟩)⟩
  rw [putN_map]
  exact h4.put _ (dp_mono (same_trans s2 s3) _ _ d1)⟩
/-- d[k] = v, keys ints and texts -/
def wDPutG (n : Nat) (Ed Ey Ev : WE) (Q : Po) (e : En) : Prop := wFz Ev e fun d e1 => Ed e1 (ptrK fun a e2 => wFz Ey e2 fun dk e3 => ob1 (keyD dk) fun k => gsAt (fun G => dkAt (G a) fun kvs => kvs.length ≤ 100000 ∧ Q.nx (e3.set n (some (.gs (upG G a (.ob (.dK (putD kvs k d)))))))) e3[n]?)
theorem ss_dputG {n : Nat} (hd : SE f td Ed) (hy : SE f ty Ey) (hv : SE f te E) : SS f (sDPut td ty te) (wDPutG n Ed Ey E) := ⟨fun {D Q e σ Hz H} wp y o => fz_run hv wp y fun d e1 v Hz1 H1 w1 s1 y1 d1 => ptr_run hd w1 y1 fun a e2 Hz2 H2 w2 s2 y2 => fz_run hy w2 y2 fun dk e3 v3 Hz3 H3 w3 s3 y3 d3 => by
  obtain ⟨ky, c1, w3⟩ := ob1_ex w3
  obtain ⟨G, he, w3⟩ := gsAt_ex w3
  obtain ⟨kvs, hG, hl, w3⟩ := dkAt_ex w3
  obtain ⟨⟨ks, h2, h3⟩, _⟩ := y3.gget he hG
  rw [key_dp d3 c1]
  exact ⟨a, _, rfl, DPut.k h2 (line_lt (by rw [h3.len]; exact hl)), o.nx w3 (same_trans s1 (same_trans s2 s3)) (y3.gset he hG ⟨_, upd_same, h3.put _ (dp_mono (same_trans s2 s3) _ _ d1)⟩)⟩⟩
/-- {k: v}, k a tuple -/
def wNDisp (P : Program) (w : World) (Ek Ev : WE) (e : En) (Q : Vl → En → Prop) : Prop := wFz Ek e fun dk e1 => wFz Ev e1 fun dv e2 => ob1 (keyT dk) fun k => k.depth ≤ 8 ∧ Q (.ob (.dN P w [(k, dv)])) e2
theorem se_ndisp (hk : SE f ty Ey) (hv : SE f te E) : SE f (tNDisp P w f.K ty te) (wNDisp P w Ey E) := ⟨fun {L W e σ Hz H Post Q} wp y k p hp => by
  have y0 := y.newO (o := .dN P w []) (u := dnO P w p []) hp ⟨[], upd_same, (fun _ h => by cases h), .nil⟩
  refine fz_run hk wp y0 fun dk e1 v1 Hz1 H1 w1 s1 y1 d1 => fz_run hv w1 y1 fun dv e2 v2 Hz2 H2 w2 s2 y2 d2 => ?_
  obtain ⟨ky, c, hd, w2⟩ := ob1_ex w2
  obtain ⟨b, rfl, hb⟩ := keyT_ref (dp_mono s2 _ _ d1) c hd
  obtain ⟨a, ea, ⟨ks, h1, h2, h3⟩, _⟩ := y2.top
  cases ea
  have hx : ks = [] := by
    have := h3.len
    cases ks with
    | nil => rfl
    | cons _ _ => simp at this
  rw [hx] at h1
  refine ⟨b, ky, rfl, h1, hb.mono y2.sm, k _ _ _ _ _ w2 (same_trans s1 s2) (y2.wrT (o' := .dN P w [(ky, dv)]) ⟨[(ky, b, v2)], upd_same, fun e he => ?_, .cons rfl d2 .nil⟩) trivial⟩
  rw [List.mem_singleton.mp he]
  exact hb⟩
/-! ### methods, making -/
variable {F : GSp} {XE : XK}
/-- o.m(data, ..) -/
def wMeth (F : GSp) (n : Nat) (C : Addr) (m : String) (Eo : WE) (A : WA) (e : En) (P : Vl → En → Prop) : Prop := Eo e (ptrK fun a e1 => gsAt (fun G => insAt C (G a) fun fs => fs.lookup m = none ∧ A e1 fun ds e2 => gsAt (fun G => F (dats (ptr a :: ds)) G fun b _ G' => notOwn b = true ∧ P b (e2.set n (some (.gs G')))) e2[n]?) e1[n]?)
theorem se_meth {n : Nat} {C : Addr} {m : String} (ho : SE f td Ed) (h : SA f ta A) : SE f (tMeth C (Str.ofString m) (spG f.K F) [] XE td ta) (wMeth F n C m Ed A) := ⟨fun {L W e σ Hz H Post Q} w y k => ptr_run ho w y fun a e1 Hz1 H1 w1 s1 y1 => by
  obtain ⟨G0, he0, fs, hG0, hm, w1⟩ := gsAt_ex w1
  obtain ⟨⟨dx, vs0, hH, pf⟩, _⟩ := y1.gget he0 hG0
  refine ⟨a, dx, vs0, rfl, hH, pf.no hm, h.run w1 y1 fun ds e2 vs Hz2 H2 w2 s2 y2 d2 => ?_⟩
  rw [List.append_nil]
  obtain ⟨G, he, w2⟩ := gsAt_ex w2
  obtain ⟨A', st, en⟩ := y2.calledG he
  have d3 : DpAll f.K Hz2 (.ref a :: vs) (ptr a :: ds) := .cons (.ptr a) d2
  refine ⟨dats (ptr a :: ds), G, A', Hz2, _, st d3, by rw [dats_len, dps_len d3], w2, fun b outs G' hb ho v Hz' H' y' l' => ?_⟩
  obtain ⟨y3, s3⟩ := en hb.1 (by rw [ho, List.length_map]) y'
  exact k _ _ _ _ _ hb.2 (same_trans s1 (same_trans s2 s3)) y3 (by
    cases b with
    | dat d => exact l'
    | ob o => trivial
    | own i => cases hb.1
    | gob n a => cases hb.1)⟩
/-- C(data, ..) -/
def wMake (F : GSp) (n : Nat) (C : Addr) (A : WA) (e : En) (P : Vl → En → Prop) : Prop := A e fun ds e1 => gsAt (fun G => ∀ x, G x = none → F (dats (ptr x :: ds)) (upG G x (.ins C [])) fun b _ G' => b = .dat .none ∧ P (.dat (ptr x)) (e1.set n (some (.gs G')))) e1[n]?
theorem se_make {n : Nat} {C : Addr} (h : SA f ta A) : SE f (tMake C (spG f.K F) [] XE ta) (wMake F n C A) := ⟨fun {L W e σ Hz H Post Q} w y k => h.run w y fun ds e1 vs Hz1 H1 w1 s1 y1 d1 x dx nx ndx nex => by
  rw [List.append_nil]
  obtain ⟨G, he, w1⟩ := gsAt_ex w1
  have y2 := y1.newX (u := .own x) ndx rfl
  have nx2 : upd H1 dx (.own x) x = none := by rw [upd_ne (fun c => nex c.symm)]; exact nx
  have y3 := y2.gnew (u := .ins C dx []) (c := .ins C []) he nx2 ⟨dx, [], upd_same, .nil⟩
  have hx : G x = none := y1.gnone he nx
  have hn : n < e1.length := (List.getElem?_eq_some_iff.mp he).1
  have he3 : (e1.set n (some (.gs (upG G x (.ins C [])))))[n]? = some (some (.gs (upG G x (.ins C [])))) := by rw [List.getElem?_set_self hn]
  obtain ⟨A', st, en⟩ := y3.calledG he3
  have d3 : DpAll f.K Hz1 (.ref x :: vs) (ptr x :: ds) := .cons (.ptr x) d1
  refine ⟨dats (ptr x :: ds), _, A', Hz1, _, st d3, by rw [dats_len, dps_len d3], w1 x hx, fun b outs G' hb ho v Hz' H' y' l' => ?_⟩
  obtain ⟨rfl, hb⟩ := hb
  obtain ⟨y4, s4⟩ := en rfl (by rw [ho, List.length_map]) y'
  rw [List.set_set] at y4
  have l2 : Dp f.K Hz' v .none := l'
  cases l2
  exact ⟨rfl, k _ _ _ _ _ hb (same_trans s1 s4) y4 (Dp.ptr x)⟩⟩
end
end DL


set_option Elab.async false
set_option linter.all false
set_option maxRecDepth 100000
set_option maxHeartbeats 4000000
/-! all rules of the layer as one -/
namespace DL
open PySem L2 TG
theorem WW : (((((((((type_of% @DL.wSeq.eq_1) ∧ (type_of% @DL.wIfS.eq_1)) ∧ ((type_of% @DL.wAsg.eq_1) ∧ (type_of% @DL.wRet.eq_1))) ∧ (((type_of% @DL.rtK_dat) ∧ (type_of% @DL.rtK_ob)) ∧ ((type_of% @DL.rtK_own) ∧ (type_of% @DL.rtK_gob)))) ∧ ((((type_of% @DL.rtS_dat) ∧ (type_of% @DL.rtS_ob)) ∧ ((type_of% @DL.wDrop.eq_1) ∧ (type_of% @DL.wVar.eq_1))) ∧ (((type_of% @DL.vrS_dat) ∧ (type_of% @DL.vrS_ob)) ∧ ((type_of% @DL.chK_bool) ∧ ((type_of% @DL.unK_int) ∧ (type_of% @DL.eI0)))))) ∧ (((((type_of% @DL.eI) ∧ (type_of% @DL.eInD)) ∧ ((type_of% @DL.eInL) ∧ (type_of% @DL.eInT))) ∧ (((type_of% @DL.eIxL) ∧ (type_of% @DL.eIxT)) ∧ ((type_of% @DL.eIx1) ∧ (type_of% @DL.eIx2)))) ∧ ((((type_of% @DL.eIxS) ∧ (type_of% @DL.eIsN)) ∧ ((type_of% @DL.eCat) ∧ (type_of% @DL.eCatT))) ∧ (((type_of% @DL.eLen_list) ∧ (type_of% @DL.eTupOf_list)) ∧ ((type_of% @DL.eListOf_list) ∧ ((type_of% @DL.eLen_tuple) ∧ (type_of% @DL.eTupOf_tuple))))))) ∧ ((((((type_of% @DL.eListOf_tuple) ∧ (type_of% @DL.eSum)) ∧ ((type_of% @DL.eMax) ∧ (type_of% @DL.eMin))) ∧ (((type_of% @DL.eAll) ∧ (type_of% @DL.eAny)) ∧ ((type_of% @DL.eSorted) ∧ (type_of% @DL.eSortSet)))) ∧ ((((type_of% @DL.eInt_int) ∧ (type_of% @DL.eInt_bool)) ∧ ((type_of% @DL.eAbs) ∧ (type_of% @DL.ety_none))) ∧ (((type_of% @DL.eno_none) ∧ (type_of% @DL.efl_none)) ∧ ((type_of% @DL.ety_bool) ∧ ((type_of% @DL.eno_bool) ∧ (type_of% @DL.efl_bool)))))) ∧ (((((type_of% @DL.ety_int) ∧ (type_of% @DL.eno_int)) ∧ ((type_of% @DL.efl_int) ∧ (type_of% @DL.ety_str))) ∧ (((type_of% @DL.eno_str) ∧ (type_of% @DL.efl_str)) ∧ ((type_of% @DL.ety_list) ∧ ((type_of% @DL.eno_list) ∧ (type_of% @DL.efl_list))))) ∧ ((((type_of% @DL.ety_tuple) ∧ (type_of% @DL.eno_tuple)) ∧ ((type_of% @DL.efl_tuple) ∧ (type_of% @DL.etr_none))) ∧ (((type_of% @DL.etr_bool) ∧ (type_of% @DL.etr_int)) ∧ ((type_of% @DL.etr_list) ∧ ((type_of% @DL.etr_tuple) ∧ (type_of% @DL.evd_non)))))))) ∧ (((((((type_of% @DL.evd_bl) ∧ (type_of% @DL.evd_int)) ∧ ((type_of% @DL.evd_str) ∧ (type_of% @DL.etk_ob))) ∧ (((type_of% @DL.ix_1_0) ∧ (type_of% @DL.ix_2_0)) ∧ ((type_of% @DL.ix_2_1) ∧ (type_of% @DL.ix_3_0)))) ∧ ((((type_of% @DL.ix_3_1) ∧ (type_of% @DL.ix_3_2)) ∧ ((type_of% @DL.ix_4_0) ∧ (type_of% @DL.ix_4_1))) ∧ (((type_of% @DL.ix_4_2) ∧ (type_of% @DL.ix_4_3)) ∧ ((type_of% @DL.wRep.eq_1) ∧ ((type_of% @DL.wNNew.eq_1) ∧ (type_of% @DL.wNGet.eq_1)))))) ∧ (((((type_of% @DL.wNIn.eq_1) ∧ (type_of% @DL.wNPut.eq_1)) ∧ ((type_of% @DL.wNGet2.eq_1) ∧ (type_of% @DL.dnS_ob))) ∧ (((type_of% @DL.keyT_2) ∧ (type_of% @DL.eIsB)) ∧ ((type_of% @DL.wTGet2.eq_1) ∧ (type_of% @DL.dt_own)))) ∧ ((((type_of% @DL.dt_ob) ∧ (type_of% @DL.dtS_ob)) ∧ ((type_of% @DL.keysL_2) ∧ (type_of% @DL.nk_depth))) ∧ (((type_of% @DL.wDNewK.eq_1) ∧ (type_of% @DL.wDGet.eq_1)) ∧ ((type_of% @DL.wDIn.eq_1) ∧ ((type_of% @DL.wDPut.eq_1) ∧ (type_of% @DL.putS_ob))))))) ∧ ((((((type_of% @DL.wPairs.eq_1) ∧ (type_of% @DL.wPairs.eq_2)) ∧ ((type_of% @DL.wDisp.eq_1) ∧ (type_of% @DL.keysD.eq_1))) ∧ (((type_of% @DL.keysD.eq_2) ∧ (type_of% @DL.keyD_int)) ∧ ((type_of% @DL.keyD_str) ∧ (type_of% @DL.dk_own)))) ∧ ((((type_of% @DL.dk_ob) ∧ (type_of% @DL.dkS_ob)) ∧ ((type_of% @DL.at_0) ∧ (type_of% @DL.at_1))) ∧ (((type_of% @DL.at_2) ∧ (type_of% @DL.at_3)) ∧ ((type_of% @DL.wC.eq_1) ∧ ((type_of% @DL.wOp.eq_1) ∧ (type_of% @DL.wB.eq_1)))))) ∧ (((((type_of% @DL.wAnd.eq_1) ∧ (type_of% @DL.wOr.eq_1)) ∧ ((type_of% @DL.wNot.eq_1) ∧ (type_of% @DL.wTru.eq_1))) ∧ (((type_of% @DL.wAndV.eq_1) ∧ (type_of% @DL.wOrV.eq_1)) ∧ ((type_of% @DL.wIf.eq_1) ∧ ((type_of% @DL.wChain.eq_1) ∧ (type_of% @DL.wUn.eq_1))))) ∧ ((((type_of% @DL.wTup.eq_1) ∧ (type_of% @DL.wLst.eq_1)) ∧ ((type_of% @DL.wNil.eq_1) ∧ (type_of% @DL.wCons.eq_1))) ∧ (((type_of% @DL.wStar.eq_1) ∧ (type_of% @DL.wFz.eq_1)) ∧ ((type_of% @DL.fzK_dat) ∧ ((type_of% @DL.fzK_lst) ∧ (type_of% @DL.fzK_own))))))))) ∧ ((((((((type_of% @DL.fzS_dat) ∧ (type_of% @DL.fzS_lst)) ∧ ((type_of% @DL.bK_bool) ∧ (type_of% @DL.wC1.eq_1))) ∧ (((type_of% @DL.wIsi.eq_1) ∧ (type_of% @DL.wIsi2.eq_1)) ∧ ((type_of% @DL.nm_dat) ∧ (type_of% @DL.nm_ob)))) ∧ ((((type_of% @DL.nm_gob) ∧ (type_of% @DL.nm_own)) ∧ ((type_of% @DL.nmS_dat) ∧ (type_of% @DL.nmS_ob))) ∧ (((type_of% @DL.wGNil.eq_1) ∧ (type_of% @DL.wGNil.eq_2)) ∧ ((type_of% @DL.wGCons.eq_1) ∧ ((type_of% @DL.wGCons.eq_2) ∧ (type_of% @DL.wGTup.eq_1)))))) ∧ (((((type_of% @DL.wGSub.eq_1) ∧ (type_of% @DL.wGSub.eq_2)) ∧ ((type_of% @DL.wPar.eq_1) ∧ (type_of% @DL.wPar3.eq_1))) ∧ (((type_of% @DL.wAugI.eq_1) ∧ (type_of% @DL.wApp.eq_1)) ∧ ((type_of% @DL.wExt.eq_1) ∧ (type_of% @DL.wPop.eq_1)))) ∧ ((((type_of% @DL.wSlT.eq_1) ∧ (type_of% @DL.wSlL.eq_1)) ∧ ((type_of% @DL.wNoPart.eq_1) ∧ (type_of% @DL.wPart.eq_1))) ∧ (((type_of% @DL.wCall.eq_1) ∧ (type_of% @DL.wCallO.eq_1)) ∧ ((type_of% @DL.gEq.eq_1) ∧ ((type_of% @DL.gNe.eq_1) ∧ (type_of% @DL.wIList.eq_1))))))) ∧ ((((((type_of% @DL.wITup.eq_1) ∧ (type_of% @DL.wIRng1.eq_1)) ∧ ((type_of% @DL.wIRng2.eq_1) ∧ (type_of% @DL.wIEnumT.eq_1))) ∧ (((type_of% @DL.wIEnum.eq_1) ∧ (type_of% @DL.wIZip.eq_1)) ∧ ((type_of% @DL.cont_dat) ∧ (type_of% @DL.cont_lst)))) ∧ ((((type_of% @DL.cont_own) ∧ (type_of% @DL.cont_gob)) ∧ ((type_of% @DL.contG_gs) ∧ (type_of% @DL.contC_lst))) ∧ (((type_of% @DL.dk_gob) ∧ (type_of% @DL.dkG_gs)) ∧ ((type_of% @DL.dkC_dK) ∧ ((type_of% @DL.contS_dat) ∧ (type_of% @DL.contS_lst)))))) ∧ (((((type_of% @DL.ob1_some) ∧ (type_of% @DL.ob1_none)) ∧ ((type_of% @DL.wYes.eq_1) ∧ (type_of% @DL.wNotT.eq_1))) ∧ (((type_of% @DL.wNotV.eq_1) ∧ (type_of% @DL.wNext.eq_1)) ∧ ((type_of% @DL.wNever.eq_1) ∧ ((type_of% @DL.wBreak.eq_1) ∧ (type_of% @DL.wCont.eq_1))))) ∧ ((((type_of% @DL.wRetN.eq_1) ∧ (type_of% @DL.shaped_int)) ∧ ((type_of% @DL.shaped_str) ∧ (type_of% @DL.shaped_bool))) ∧ (((type_of% @DL.shaped_none) ∧ (type_of% @DL.eqv_int)) ∧ ((type_of% @DL.eqv_str) ∧ ((type_of% @DL.eqv_bool) ∧ (type_of% @DL.eqv_nn)))))))) ∧ (((((((type_of% @DL.shaped_nil) ∧ (type_of% @DL.shaped_nilT)) ∧ ((type_of% @DL.eqv_lnil) ∧ (type_of% @DL.eqv_tnil))) ∧ (((type_of% @DL.ept_none) ∧ (type_of% @DL.ept_bool)) ∧ ((type_of% @DL.ept_int) ∧ (type_of% @DL.ept_str)))) ∧ ((((type_of% @DL.ept_list) ∧ (type_of% @DL.ept_tuple)) ∧ ((type_of% @DL.ept_dict) ∧ (type_of% @DL.isPtr_ptr))) ∧ (((type_of% @DL.gsAt_gs) ∧ (type_of% @DL.retG_nx)) ∧ ((type_of% @DL.retG_rtD) ∧ ((type_of% @DL.retG_rtO) ∧ (type_of% @DL.wCallG.eq_1)))))) ∧ (((((type_of% @DL.insAt_ins) ∧ (type_of% @DL.lstAt_lst)) ∧ ((type_of% @DL.dnAt_dN) ∧ (type_of% @DL.dkAt_dK))) ∧ (((type_of% @DL.ptrK_dat) ∧ (type_of% @DL.ptrK_gob)) ∧ ((type_of% @DL.unp_ptr) ∧ (type_of% @DL.wFld.eq_1)))) ∧ ((((type_of% @DL.wDr.eq_1) ∧ (type_of% @DL.toGK_ob)) ∧ ((type_of% @DL.toGK_dat) ∧ (type_of% @DL.wToG.eq_1))) ∧ (((type_of% @DL.wSFld.eq_1) ∧ (type_of% @DL.wAppG.eq_1)) ∧ ((type_of% @DL.wNGetG.eq_1) ∧ ((type_of% @DL.wNInG.eq_1) ∧ (type_of% @DL.wNPutG.eq_1))))))) ∧ ((((((type_of% @DL.wDPutG.eq_1) ∧ (type_of% @DL.wMeth.eq_1)) ∧ ((type_of% @DL.wMake.eq_1) ∧ (type_of% @DL.wNDisp.eq_1))) ∧ (((type_of% @DL.putA_nil) ∧ (type_of% @DL.putA_cons)) ∧ ((type_of% @DL.upG_same) ∧ (type_of% @DL.upG_upG)))) ∧ ((((type_of% @DL.retP_nx) ∧ (type_of% @DL.retP_rtD)) ∧ ((type_of% @DL.retP_rtO) ∧ (type_of% @DL.outs_nil))) ∧ (((type_of% @DL.outs_cons) ∧ (type_of% @DL.out1_dat)) ∧ ((type_of% @DL.out1_none) ∧ ((type_of% @DL.out1_ob) ∧ (type_of% @DL.out0.eq_1)))))) ∧ (((((type_of% @DL.out0.eq_2) ∧ (type_of% @DL.dats.eq_1)) ∧ ((type_of% @DL.notOwn_dat) ∧ (type_of% @DL.notOwn_ob))) ∧ (((type_of% @DL.isT.eq_1) ∧ (type_of% @DL.wipeE.eq_1)) ∧ ((type_of% @DL.wipeE.eq_2) ∧ ((type_of% @DL.back.eq_1) ∧ (type_of% @DL.back.eq_2))))) ∧ ((((type_of% @DL.cast_0) ∧ (type_of% @DL.cast_1)) ∧ ((type_of% @DL.cast_2) ∧ (type_of% @DL.cast_3))) ∧ (((type_of% @DL.cast_4) ∧ (type_of% @DL.cast_5)) ∧ ((type_of% @DL.cast_6) ∧ ((type_of% @DL.cast_7) ∧ (type_of% @DL.cast_8)))))))))) := ⟨⟨⟨⟨⟨⟨⟨⟨@DL.wSeq.eq_1, @DL.wIfS.eq_1⟩, ⟨@DL.wAsg.eq_1, @DL.wRet.eq_1⟩⟩, ⟨⟨@DL.rtK_dat, @DL.rtK_ob⟩, ⟨@DL.rtK_own, @DL.rtK_gob⟩⟩⟩, ⟨⟨⟨@DL.rtS_dat, @DL.rtS_ob⟩, ⟨@DL.wDrop.eq_1, @DL.wVar.eq_1⟩⟩, ⟨⟨@DL.vrS_dat, @DL.vrS_ob⟩, ⟨@DL.chK_bool, ⟨@DL.unK_int, @DL.eI0⟩⟩⟩⟩⟩, ⟨⟨⟨⟨@DL.eI, @DL.eInD⟩, ⟨@DL.eInL, @DL.eInT⟩⟩, ⟨⟨@DL.eIxL, @DL.eIxT⟩, ⟨@DL.eIx1, @DL.eIx2⟩⟩⟩, ⟨⟨⟨@DL.eIxS, @DL.eIsN⟩, ⟨@DL.eCat, @DL.eCatT⟩⟩, ⟨⟨@DL.eLen_list, @DL.eTupOf_list⟩, ⟨@DL.eListOf_list, ⟨@DL.eLen_tuple, @DL.eTupOf_tuple⟩⟩⟩⟩⟩⟩, ⟨⟨⟨⟨⟨@DL.eListOf_tuple, @DL.eSum⟩, ⟨@DL.eMax, @DL.eMin⟩⟩, ⟨⟨@DL.eAll, @DL.eAny⟩, ⟨@DL.eSorted, @DL.eSortSet⟩⟩⟩, ⟨⟨⟨@DL.eInt_int, @DL.eInt_bool⟩, ⟨@DL.eAbs, @DL.ety_none⟩⟩, ⟨⟨@DL.eno_none, @DL.efl_none⟩, ⟨@DL.ety_bool, ⟨@DL.eno_bool, @DL.efl_bool⟩⟩⟩⟩⟩, ⟨⟨⟨⟨@DL.ety_int, @DL.eno_int⟩, ⟨@DL.efl_int, @DL.ety_str⟩⟩, ⟨⟨@DL.eno_str, @DL.efl_str⟩, ⟨@DL.ety_list, ⟨@DL.eno_list, @DL.efl_list⟩⟩⟩⟩, ⟨⟨⟨@DL.ety_tuple, @DL.eno_tuple⟩, ⟨@DL.efl_tuple, @DL.etr_none⟩⟩, ⟨⟨@DL.etr_bool, @DL.etr_int⟩, ⟨@DL.etr_list, ⟨@DL.etr_tuple, @DL.evd_non⟩⟩⟩⟩⟩⟩⟩, ⟨⟨⟨⟨⟨⟨@DL.evd_bl, @DL.evd_int⟩, ⟨@DL.evd_str, @DL.etk_ob⟩⟩, ⟨⟨@DL.ix_1_0, @DL.ix_2_0⟩, ⟨@DL.ix_2_1, @DL.ix_3_0⟩⟩⟩, ⟨⟨⟨@DL.ix_3_1, @DL.ix_3_2⟩, ⟨@DL.ix_4_0, @DL.ix_4_1⟩⟩, ⟨⟨@DL.ix_4_2, @DL.ix_4_3⟩, ⟨@DL.wRep.eq_1, ⟨@DL.wNNew.eq_1, @DL.wNGet.eq_1⟩⟩⟩⟩⟩, ⟨⟨⟨⟨@DL.wNIn.eq_1, @DL.wNPut.eq_1⟩, ⟨@DL.wNGet2.eq_1, @DL.dnS_ob⟩⟩, ⟨⟨@DL.keyT_2, @DL.eIsB⟩, ⟨@DL.wTGet2.eq_1, @DL.dt_own⟩⟩⟩, ⟨⟨⟨@DL.dt_ob, @DL.dtS_ob⟩, ⟨@DL.keysL_2, @DL.nk_depth⟩⟩, ⟨⟨@DL.wDNewK.eq_1, @DL.wDGet.eq_1⟩, ⟨@DL.wDIn.eq_1, ⟨@DL.wDPut.eq_1, @DL.putS_ob⟩⟩⟩⟩⟩⟩, ⟨⟨⟨⟨⟨@DL.wPairs.eq_1, @DL.wPairs.eq_2⟩, ⟨@DL.wDisp.eq_1, @DL.keysD.eq_1⟩⟩, ⟨⟨@DL.keysD.eq_2, @DL.keyD_int⟩, ⟨@DL.keyD_str, @DL.dk_own⟩⟩⟩, ⟨⟨⟨@DL.dk_ob, @DL.dkS_ob⟩, ⟨@DL.at_0, @DL.at_1⟩⟩, ⟨⟨@DL.at_2, @DL.at_3⟩, ⟨@DL.wC.eq_1, ⟨@DL.wOp.eq_1, @DL.wB.eq_1⟩⟩⟩⟩⟩, ⟨⟨⟨⟨@DL.wAnd.eq_1, @DL.wOr.eq_1⟩, ⟨@DL.wNot.eq_1, @DL.wTru.eq_1⟩⟩, ⟨⟨@DL.wAndV.eq_1, @DL.wOrV.eq_1⟩, ⟨@DL.wIf.eq_1, ⟨@DL.wChain.eq_1, @DL.wUn.eq_1⟩⟩⟩⟩, ⟨⟨⟨@DL.wTup.eq_1, @DL.wLst.eq_1⟩, ⟨@DL.wNil.eq_1, @DL.wCons.eq_1⟩⟩, ⟨⟨@DL.wStar.eq_1, @DL.wFz.eq_1⟩, ⟨@DL.fzK_dat, ⟨@DL.fzK_lst, @DL.fzK_own⟩⟩⟩⟩⟩⟩⟩⟩, ⟨⟨⟨⟨⟨⟨⟨@DL.fzS_dat, @DL.fzS_lst⟩, ⟨@DL.bK_bool, @DL.wC1.eq_1⟩⟩, ⟨⟨@DL.wIsi.eq_1, @DL.wIsi2.eq_1⟩, ⟨@DL.nm_dat, @DL.nm_ob⟩⟩⟩, ⟨⟨⟨@DL.nm_gob, @DL.nm_own⟩, ⟨@DL.nmS_dat, @DL.nmS_ob⟩⟩, ⟨⟨@DL.wGNil.eq_1, @DL.wGNil.eq_2⟩, ⟨@DL.wGCons.eq_1, ⟨@DL.wGCons.eq_2, @DL.wGTup.eq_1⟩⟩⟩⟩⟩, ⟨⟨⟨⟨@DL.wGSub.eq_1, @DL.wGSub.eq_2⟩, ⟨@DL.wPar.eq_1, @DL.wPar3.eq_1⟩⟩, ⟨⟨@DL.wAugI.eq_1, @DL.wApp.eq_1⟩, ⟨@DL.wExt.eq_1, @DL.wPop.eq_1⟩⟩⟩, ⟨⟨⟨@DL.wSlT.eq_1, @DL.wSlL.eq_1⟩, ⟨@DL.wNoPart.eq_1, @DL.wPart.eq_1⟩⟩, ⟨⟨@DL.wCall.eq_1, @DL.wCallO.eq_1⟩, ⟨@DL.gEq.eq_1, ⟨@DL.gNe.eq_1, @DL.wIList.eq_1⟩⟩⟩⟩⟩⟩, ⟨⟨⟨⟨⟨@DL.wITup.eq_1, @DL.wIRng1.eq_1⟩, ⟨@DL.wIRng2.eq_1, @DL.wIEnumT.eq_1⟩⟩, ⟨⟨@DL.wIEnum.eq_1, @DL.wIZip.eq_1⟩, ⟨@DL.cont_dat, @DL.cont_lst⟩⟩⟩, ⟨⟨⟨@DL.cont_own, @DL.cont_gob⟩, ⟨@DL.contG_gs, @DL.contC_lst⟩⟩, ⟨⟨@DL.dk_gob, @DL.dkG_gs⟩, ⟨@DL.dkC_dK, ⟨@DL.contS_dat, @DL.contS_lst⟩⟩⟩⟩⟩, ⟨⟨⟨⟨@DL.ob1_some, @DL.ob1_none⟩, ⟨@DL.wYes.eq_1, @DL.wNotT.eq_1⟩⟩, ⟨⟨@DL.wNotV.eq_1, @DL.wNext.eq_1⟩, ⟨@DL.wNever.eq_1, ⟨@DL.wBreak.eq_1, @DL.wCont.eq_1⟩⟩⟩⟩, ⟨⟨⟨@DL.wRetN.eq_1, @DL.shaped_int⟩, ⟨@DL.shaped_str, @DL.shaped_bool⟩⟩, ⟨⟨@DL.shaped_none, @DL.eqv_int⟩, ⟨@DL.eqv_str, ⟨@DL.eqv_bool, @DL.eqv_nn⟩⟩⟩⟩⟩⟩⟩, ⟨⟨⟨⟨⟨⟨@DL.shaped_nil, @DL.shaped_nilT⟩, ⟨@DL.eqv_lnil, @DL.eqv_tnil⟩⟩, ⟨⟨@DL.ept_none, @DL.ept_bool⟩, ⟨@DL.ept_int, @DL.ept_str⟩⟩⟩, ⟨⟨⟨@DL.ept_list, @DL.ept_tuple⟩, ⟨@DL.ept_dict, @DL.isPtr_ptr⟩⟩, ⟨⟨@DL.gsAt_gs, @DL.retG_nx⟩, ⟨@DL.retG_rtD, ⟨@DL.retG_rtO, @DL.wCallG.eq_1⟩⟩⟩⟩⟩, ⟨⟨⟨⟨@DL.insAt_ins, @DL.lstAt_lst⟩, ⟨@DL.dnAt_dN, @DL.dkAt_dK⟩⟩, ⟨⟨@DL.ptrK_dat, @DL.ptrK_gob⟩, ⟨@DL.unp_ptr, @DL.wFld.eq_1⟩⟩⟩, ⟨⟨⟨@DL.wDr.eq_1, @DL.toGK_ob⟩, ⟨@DL.toGK_dat, @DL.wToG.eq_1⟩⟩, ⟨⟨@DL.wSFld.eq_1, @DL.wAppG.eq_1⟩, ⟨@DL.wNGetG.eq_1, ⟨@DL.wNInG.eq_1, @DL.wNPutG.eq_1⟩⟩⟩⟩⟩⟩, ⟨⟨⟨⟨⟨@DL.wDPutG.eq_1, @DL.wMeth.eq_1⟩, ⟨@DL.wMake.eq_1, @DL.wNDisp.eq_1⟩⟩, ⟨⟨@DL.putA_nil, @DL.putA_cons⟩, ⟨@DL.upG_same, @DL.upG_upG⟩⟩⟩, ⟨⟨⟨@DL.retP_nx, @DL.retP_rtD⟩, ⟨@DL.retP_rtO, @DL.outs_nil⟩⟩, ⟨⟨@DL.outs_cons, @DL.out1_dat⟩, ⟨@DL.out1_none, ⟨@DL.out1_ob, @DL.out0.eq_1⟩⟩⟩⟩⟩, ⟨⟨⟨⟨@DL.out0.eq_2, @DL.dats.eq_1⟩, ⟨@DL.notOwn_dat, @DL.notOwn_ob⟩⟩, ⟨⟨@DL.isT.eq_1, @DL.wipeE.eq_1⟩, ⟨@DL.wipeE.eq_2, ⟨@DL.back.eq_1, @DL.back.eq_2⟩⟩⟩⟩, ⟨⟨⟨@DL.cast_0, @DL.cast_1⟩, ⟨@DL.cast_2, @DL.cast_3⟩⟩, ⟨⟨@DL.cast_4, @DL.cast_5⟩, ⟨@DL.cast_6, ⟨@DL.cast_7, @DL.cast_8⟩⟩⟩⟩⟩⟩⟩⟩⟩
end DL


set_option Elab.async false
set_option linter.all false
set_option maxRecDepth 100000
set_option maxHeartbeats 4000000
namespace K74D
open PySem L2 TG DL K74 GM SV
section
variable {P : Program} {w : World} {K : PySem.W.Frag} {mg : Str → Option Value} {base : Heap}
theorem pT_sol (n : Nat) (g : Nat → Nat → Option (Nat × Nat)) : pT (solD n g) = true := by
  unfold solD pT
  exact pTs_all _ fun d hd => by
    obtain ⟨z, _, rfl⟩ := List.mem_map.mp hd
    exact pT_pair g z
theorem fine_w (x : Option (Nat × Nat)) : Fine 1 (wD x) := by
  cases x with
  | none =>
    refine Fine.tup (by simp) fun d hd => ?_
    simp only [List.mem_cons, List.not_mem_nil, or_false] at hd
    rcases hd with rfl | rfl
    · exact .str (by decide +kernel)
    · exact .non
  | some p =>
    refine Fine.tup (by simp) fun d hd => ?_
    simp only [List.mem_cons, List.not_mem_nil, or_false] at hd
    rcases hd with rfl | rfl
    · refine .str ?_
      unfold wordS
      split <;> decide +kernel
    · exact .int _
theorem fine_pair (g : Nat → Nat → Option (Nat × Nat)) (v : Nat) : Fine 2 (pairD g v) := Fine.tup (by simp) fun d hd => by
  simp only [List.mem_cons, List.not_mem_nil, or_false] at hd
  rcases hd with rfl | rfl <;> exact fine_w _
theorem fine_sol {n : Nat} (g : Nat → Nat → Option (Nat × Nat)) (h : n ≤ 60) : Fine 3 (solD n g) := Fine.tup (by rw [List.length_map, List.length_range]; omega) fun d hd => by
  obtain ⟨v, _, rfl⟩ := List.mem_map.mp hd
  exact fine_pair g v
/-! ### the promises by hand, over the layer -/
def F_solution : FSp := fun args P => ∃ L R : List (List Nat), args = [some (.dat (grD L R))] ∧ GrOk L R ∧ P (.dat (solD L.length (gS (op L R)))) [none]
def F_law_told : FSp := F_solution
theorem fine_gr {L R : List (List Nat)} (hok : GrOk L R) : Fine 3 (grD L R) := Fine.tup (by simp) fun d hd => by
  have hrows : ∀ S : List (List Nat), (∀ r ∈ S, OkRow L.length r) → S.length ≤ 60 → Fine 2 (rowsD S) := fun S h1 h2 => fine_rows (by omega) fun r hr => by have := (h1 r hr).2.2; omega
  have h60 := hok.2.2.1
  have hR60 : R.length ≤ 60 := by have := hok.1; omega
  simp only [List.mem_cons, List.not_mem_nil, or_false] at hd
  rcases hd with rfl | rfl
  · exact hrows L hok.2.2.2.1 h60
  · exact hrows R hok.2.2.2.2 hR60
theorem lay_gr {L R : List (List Nat)} (hok : GrOk L R) : PyData.canLay0 (grD L R) = true := (fine_gr hok).small.1
theorem up_solution (vs : List V) (H : Hp) (Q : VK) (E : XK) (h : spD K F_solution vs H Q E) : spSolution K vs H Q E := by
  obtain ⟨args, A, Hz, P, y, hl, ⟨L, R, rfl, hok, hP⟩, hQ⟩ := h
  obtain ⟨v, rfl, hv⟩ := sy_one y hl
  exact ⟨v, L, R, rfl, dp_to _ _ (lay_gr hok) hv, hok, fun v' H' s hd => hand_dat y hQ hl hP s (dp_of _ _ hd) (pT_sol _ _)⟩
theorem up_told (vs : List V) (H : Hp) (Q : VK) (E : XK) (h : spD K F_law_told vs H Q E) : spSolOf K vs H Q E := by
  obtain ⟨args, A, Hz, P, y, hl, ⟨L, R, rfl, ⟨h1, h2, h3, h4, h5⟩, hP⟩, hQ⟩ := h
  obtain ⟨v, rfl, hv⟩ := sy_one y hl
  exact ⟨v, L, R, L.length, rfl, dp_to _ _ (lay_gr ⟨h1, h2, h3, h4, h5⟩) hv, ⟨rfl, h1.symm, by omega⟩, h4, h5, fun v' H' s hd => hand_dat y hQ hl hP s (dp_of _ _ hd) (pT_sol _ _)⟩
end
end K74D


set_option Elab.async false
set_option linter.all false
set_option maxRecDepth 100000
set_option maxHeartbeats 4000000
namespace K74D
open PySem L2 TG DL K74
section
variable {P : Program} {w : World} {K : PySem.W.Frag} {mg : Str → Option Value} {base : Heap}
def F_is_int : FSp := fun args P => ∃ n : Int, args = [some (.dat (.int n))] ∧ P (.dat (.bool true)) [none]
theorem ok_is_int {k : Nat} (T : Txt K mg)  : FnOk P w K mg base CX0 (k + 1) T.a_is_int T.d_is_int ["value"] (spD K F_is_int) := by
  refine (fun (hA : ∀ args P, F_is_int args P → args.length = 1) => T.F_is_int.ok (sp := spD K F_is_int) sc_is_int (fun vs H Q E h => spD_len hA h) (fun cdv A outer s H vs Q E hr h => ⟨_, (pss_one (ps_ret (pe_and (pe_callB (call_isiX (K := K) rfl) rfl T.m_isinstance (by decide +kernel) (pa_cons (pv 0) (pa_cons (pe_bltn (v := .ty "int") (u := .type "int") rfl T.m_int (by decide +kernel) rfl) pa_nil))) (pe_one (pe_not (pe_callB (call_isiX (K := K) rfl) rfl T.m_isinstance (by decide +kernel) (pa_cons (pv 0) (pa_cons (pe_bltn (v := .ty "bool") (u := .type "bool") rfl T.m_bool (by decide +kernel) rfl) pa_nil)))))))), fn_run (N := ["value"]) h (fun A' Hz' => (ss_ret (se_andV (se_isi rfl se_var) (se_notV (se_isi rfl se_var))))) (fun args P hl hF => ?_) (by rw [spD_len hA h]; exact Nat.le_of_ble_eq_true rfl)⟩)) (fun args P hF => ?_)
  rotate_left
  · obtain ⟨n, rfl, _⟩ := hF
    rfl
  obtain ⟨n, rfl, q⟩ := hF
  simp -implicitDefEqProofs only [DL.WW, List.isEmpty_nil, List.lookup_cons, List.lookup_nil, List.map, List.length, List.length_cons, List.length_nil, List.length_set, List.replicate, List.append, List.cons_append, List.nil_append, List.append_nil, List.getElem?_cons_zero, List.getElem?_cons_succ, List.getElem?_nil, List.set_cons_zero, List.set_cons_succ, ↓reduceIte, Bool.false_eq_true, Bool.not_true, Bool.not_false, Bool.true_and, Bool.false_and, Bool.and_true, Bool.and_false, Bool.or_true, Bool.or_false, Bool.true_or, Bool.false_or, Nat.reduceAdd, Nat.reduceSub, Nat.reduceLT, Nat.reduceLeDiff, true_and, and_true, and_self, decide_eq_true_eq, Nat.zero_lt_succ, Nat.lt_add_left_iff_pos, beq_self_eq_true, String.reduceBEq, String.reduceEq, Nat.le_refl, Nat.zero_le, Bool.true_eq_false, decide_true, decide_false, Int.reduceEq, Int.reduceLT, Int.reduceLE, Int.reduceSub, Int.reduceAdd]
  exact q
def F_is_in : FSp := fun args P => ∃ n a b : Int, args = [some (.dat (.int n)), some (.dat (.int a)), some (.dat (.int b))] ∧ P (.dat (.bool (decide (a ≤ n) && decide (n ≤ b)))) [none, none, none]
theorem ok_is_in {k : Nat} (T : Txt K mg) (G_is_int : FnOk P w K mg base CX0 (k) T.a_is_int T.d_is_int ["value"] (spD K F_is_int)) : FnOk P w K mg base CX0 (k + 1) T.a_is_in T.d_is_in ["value", "least", "most"] (spD K F_is_in) := by
  refine (fun (hA : ∀ args P, F_is_in args P → args.length = 3) => T.F_is_in.ok (sp := spD K F_is_in) sc_is_in (fun vs H Q E h => spD_len hA h) (fun cdv A outer s H vs Q E hr h => ⟨_, (pss_one (ps_ret (pe_and (pe_call G_is_int hr rfl T.g_is_int T.F_is_int.kp T.b_is_int .nil pass0 (pa_cons (pv 0) pa_nil)) (pe_one (pe_chain op_le op_le (pv 1) (pv 0) (pv 2)))))), fn_run (N := ["value", "least", "most"]) h (fun A' Hz' => (ss_ret (se_andV (se_call (sa_cons se_var sa_nil)) (se_chain (sr_I0 (fun _ _ => rfl)) (sr_I0 (fun _ _ => rfl)) se_var se_var se_var)))) (fun args P hl hF => ?_) (by rw [spD_len hA h]; exact Nat.le_of_ble_eq_true rfl)⟩)) (fun args P hF => ?_)
  rotate_left
  · obtain ⟨n, a, b, rfl, _⟩ := hF
    rfl
  obtain ⟨n, a, b, rfl, q⟩ := hF
  simp -implicitDefEqProofs only [DL.WW, List.isEmpty_nil, List.lookup_cons, List.lookup_nil, List.map, List.length, List.length_cons, List.length_nil, List.length_set, List.replicate, List.append, List.cons_append, List.nil_append, List.append_nil, List.getElem?_cons_zero, List.getElem?_cons_succ, List.getElem?_nil, List.set_cons_zero, List.set_cons_succ, ↓reduceIte, Bool.false_eq_true, Bool.not_true, Bool.not_false, Bool.true_and, Bool.false_and, Bool.and_true, Bool.and_false, Bool.or_true, Bool.or_false, Bool.true_or, Bool.false_or, Nat.reduceAdd, Nat.reduceSub, Nat.reduceLT, Nat.reduceLeDiff, true_and, and_true, and_self, decide_eq_true_eq, Nat.zero_lt_succ, Nat.lt_add_left_iff_pos, beq_self_eq_true, String.reduceBEq, String.reduceEq, Nat.le_refl, Nat.zero_le, Bool.true_eq_false, decide_true, decide_false, Int.reduceEq, Int.reduceLT, Int.reduceLE, Int.reduceSub, Int.reduceAdd]
  refine ⟨n, rfl, ?_⟩
  simp -implicitDefEqProofs only [DL.WW, List.isEmpty_nil, List.lookup_cons, List.lookup_nil, List.map, List.length, List.length_cons, List.length_nil, List.length_set, List.replicate, List.append, List.cons_append, List.nil_append, List.append_nil, List.getElem?_cons_zero, List.getElem?_cons_succ, List.getElem?_nil, List.set_cons_zero, List.set_cons_succ, ↓reduceIte, Bool.false_eq_true, Bool.not_true, Bool.not_false, Bool.true_and, Bool.false_and, Bool.and_true, Bool.and_false, Bool.or_true, Bool.or_false, Bool.true_or, Bool.false_or, Nat.reduceAdd, Nat.reduceSub, Nat.reduceLT, Nat.reduceLeDiff, true_and, and_true, and_self, decide_eq_true_eq, Nat.zero_lt_succ, Nat.lt_add_left_iff_pos, beq_self_eq_true, String.reduceBEq, String.reduceEq, Nat.le_refl, Nat.zero_le, Bool.true_eq_false, decide_true, decide_false, Int.reduceEq, Int.reduceLT, Int.reduceLE, Int.reduceSub, Int.reduceAdd]
  by_cases h : a ≤ n
  · simp [h] at q ⊢
    exact q
  · simp [h] at q ⊢
    exact q
def F_is_edges : FSp := fun args P => ∃ (n : Nat) (rs : List (List Nat)), args = [some (.dat (.int n)), some (.dat (rowsD rs))] ∧ rs.length = n ∧ n ≤ 60 ∧ (∀ r ∈ rs, OkRow n r) ∧ P (.dat (.bool true)) [none, none]
theorem ok_is_edges {k : Nat} (T : Txt K mg) (G_is_in : FnOk P w K mg base CX0 (k) T.a_is_in T.d_is_in ["value", "least", "most"] (spD K F_is_in)) : FnOk P w K mg base CX0 (k + 1) T.a_is_edges T.d_is_edges ["many", "value"] (spD K F_is_edges) := by
  refine (fun (hA : ∀ args P, F_is_edges args P → args.length = 2) => T.F_is_edges.ok (sp := spD K F_is_edges) sc_is_edges (fun vs H Q E h => spD_len hA h) (fun cdv A outer s H vs Q E hr h => ⟨_, (pss_cons (ps_if (PW.pt (pw_or (pt_not (pt_val (pe_callB (call_isiX (K := K) rfl) rfl T.m_isinstance (by decide +kernel) (pa_cons (pv 1) (pa_cons (pe_bltn (v := .ty "tuple") (u := .type "tuple") rfl T.m_tuple (by decide +kernel) rfl) pa_nil))))) (pw_or1 (pt_cmpR (op_neDK (K := K) rfl hr.units) (pe_callB (call_lenK (K := K) rfl) rfl T.m_len PySem.boot_len (pa_cons (pv 1) pa_nil)) (pv 0) (nomark _)))))
  (pss_one (ps_ret pe_bl))
  pss_nil)
  (pss_cons (ps_for PassesOwn.never rfl (pi_tupK (K := K) rfl (pv 1)) (pg_name (i := 2) sc_is_edges.nd rfl (Or.inr rfl))
  (pss_cons (ps_if (PW.pt (pw_or (pt_not (pt_val (pe_callB (call_isiX (K := K) rfl) rfl T.m_isinstance (by decide +kernel) (pa_cons (pv 2) (pa_cons (pe_bltn (v := .ty "tuple") (u := .type "tuple") rfl T.m_tuple (by decide +kernel) rfl) pa_nil))))) (pw_or1 (pt_not (pt_val (pe_callB (cr_allK (K := K) rfl rfl) rfl T.m_all (by decide +kernel) (pa_cons (pe_lc (own := [("node", 4)]) rfl sc_is_edges.nd (pi_tupK (K := K) rfl (pv 2)) (blkOk_by (N := ["many", "value", "told", "at", "node"]) (sc := defScope s_is_edges) (by decide +kernel)) (fun _ _ _ _ _ => (pg_name (i := 4) sc_is_edges.nd rfl (Or.inl rfl))) (fun _ _ _ _ _ => pts_nil) (fun _ _ _ _ _ => (pe_call G_is_in hr rfl T.g_is_in T.F_is_in.kp T.b_is_in .nil pass0 (pa_cons (pv 4) (pa_cons pe_int (pa_cons (pe_op op_sub (pv 0) pe_int) pa_nil)))))) pa_nil)))))))
  (pss_one (ps_ret pe_bl))
  pss_nil)
  (pss_one (ps_if (pt_not (pt_val (pe_callB (cr_allK (K := K) rfl rfl) rfl T.m_all (by decide +kernel) (pa_cons (pe_lc (own := [("at", 3)]) rfl sc_is_edges.nd (pi_range1 rfl T.m_range (pa_cons (pe_op op_sub (pe_callB (call_lenK (K := K) rfl) rfl T.m_len PySem.boot_len (pa_cons (pv 2) pa_nil)) pe_int) pa_nil)) (blkOk_by (N := ["many", "value", "told", "at", "node"]) (sc := defScope s_is_edges) (by decide +kernel)) (fun _ _ _ _ _ => (pg_name (i := 3) sc_is_edges.nd rfl (Or.inl rfl))) (fun _ _ _ _ _ => pts_nil) (fun _ _ _ _ _ => (pe_cmpR op_lt (pe_ix (ix_tupK (K := K) rfl) (pv 2) (pv 3) (fun _ _ => rfl)) (pe_ix (ix_tupK (K := K) rfl) (pv 2) (pe_op op_add (pv 3) pe_int) (fun _ _ => rfl)) (nomark _)))) pa_nil))))
  (pss_one (ps_ret pe_bl))
  pss_nil))))
  (pss_one (ps_ret pe_bl)))), fn_run (N := ["many", "value", "told", "at", "node"]) h (fun A' Hz' => (ss_seq (ss_if (st_or (st_not (st_B (se_isi rfl se_var))) (st_test (se_op sr_neD (se_cb1 sc_len se_var) se_var)))
  (ss_ret se_bl)
  ss_next)
  (ss_seq (ss_for (si_tup se_var) sg_name
  (ss_seq (ss_if (st_or (st_not (st_B (se_isi rfl se_var))) (st_not (st_B (se_cb1 sc_all (se_lc (si_tup se_var) sg_name st_yes (se_call (sa_cons se_var (sa_cons se_int (sa_cons (se_op (sr_I0 (fun _ _ => rfl)) se_var se_int) sa_nil)))) (by decide))))))
  (ss_ret se_bl)
  ss_next)
  (ss_if (st_not (st_B (se_cb1 sc_all (se_lc (si_rng1 (se_op (sr_I0 (fun _ _ => rfl)) (se_cb1 sc_len se_var) se_int)) sg_name st_yes (se_op (sr_I0 (fun _ _ => rfl)) (se_op sr_ixT se_var se_var) (se_op sr_ixT se_var (se_op (sr_I0 (fun _ _ => rfl)) se_var se_int))) (by decide)))))
  (ss_ret se_bl)
  ss_next)))
  (ss_ret se_bl)))) (fun args P hl hF => ?_) (by rw [spD_len hA h]; exact Nat.le_of_ble_eq_true rfl)⟩)) (fun args P hF => ?_)
  rotate_left
  · obtain ⟨n, rs, rfl, _⟩ := hF
    rfl
  obtain ⟨n, rs, rfl, hn, n60, hok, q⟩ := hF
  unfold rowsD
  simp -implicitDefEqProofs only [DL.WW, List.isEmpty_nil, List.lookup_cons, List.lookup_nil, List.map, List.length, List.length_cons, List.length_nil, List.length_set, List.replicate, List.append, List.cons_append, List.nil_append, List.append_nil, List.getElem?_cons_zero, List.getElem?_cons_succ, List.getElem?_nil, List.set_cons_zero, List.set_cons_succ, ↓reduceIte, Bool.false_eq_true, Bool.not_true, Bool.not_false, Bool.true_and, Bool.false_and, Bool.and_true, Bool.and_false, Bool.or_true, Bool.or_false, Bool.true_or, Bool.false_or, Nat.reduceAdd, Nat.reduceSub, Nat.reduceLT, Nat.reduceLeDiff, true_and, and_true, and_self, decide_eq_true_eq, Nat.zero_lt_succ, Nat.lt_add_left_iff_pos, beq_self_eq_true, String.reduceBEq, String.reduceEq, Nat.le_refl, Nat.zero_le, Bool.true_eq_false, decide_true, decide_false, Int.reduceEq, Int.reduceLT, Int.reduceLE, Int.reduceSub, Int.reduceAdd, List.length_map, hn]
  refine ⟨fun i e => ∃ z2, e = [some (.dat (.int n)), some (.dat (rowsD rs)), z2, none, none], ⟨_, rfl⟩, ?_, ?_⟩
  · rintro i d e hd ⟨z2, rfl⟩
    obtain ⟨r, hr', rfl⟩ := map_get hd
    obtain ⟨ok1, ok2, ok3⟩ := hok r (List.mem_of_getElem? hr')
    have hd2 : rowD r = .tuple (r.map fun n : Nat => .int n) := rfl
    generalize rowsD rs = RS at q
    simp -implicitDefEqProofs only [DL.WW, List.isEmpty_nil, List.lookup_cons, List.lookup_nil, List.map, List.length, List.length_cons, List.length_nil, List.length_set, List.replicate, List.append, List.cons_append, List.nil_append, List.append_nil, List.getElem?_cons_zero, List.getElem?_cons_succ, List.getElem?_nil, List.set_cons_zero, List.set_cons_succ, ↓reduceIte, Bool.false_eq_true, Bool.not_true, Bool.not_false, Bool.true_and, Bool.false_and, Bool.and_true, Bool.and_false, Bool.or_true, Bool.or_false, Bool.true_or, Bool.false_or, Nat.reduceAdd, Nat.reduceSub, Nat.reduceLT, Nat.reduceLeDiff, true_and, and_true, and_self, decide_eq_true_eq, Nat.zero_lt_succ, Nat.lt_add_left_iff_pos, beq_self_eq_true, String.reduceBEq, String.reduceEq, Nat.le_refl, Nat.zero_le, Bool.true_eq_false, decide_true, decide_false, Int.reduceEq, Int.reduceLT, Int.reduceLE, Int.reduceSub, Int.reduceAdd, hd2]
    refine lc_use ?_
    simp -implicitDefEqProofs only [DL.WW, List.isEmpty_nil, List.lookup_cons, List.lookup_nil, List.map, List.length, List.length_cons, List.length_nil, List.length_set, List.replicate, List.append, List.cons_append, List.nil_append, List.append_nil, List.getElem?_cons_zero, List.getElem?_cons_succ, List.getElem?_nil, List.set_cons_zero, List.set_cons_succ, ↓reduceIte, Bool.false_eq_true, Bool.not_true, Bool.not_false, Bool.true_and, Bool.false_and, Bool.and_true, Bool.and_false, Bool.or_true, Bool.or_false, Bool.true_or, Bool.false_or, Nat.reduceAdd, Nat.reduceSub, Nat.reduceLT, Nat.reduceLeDiff, true_and, and_true, and_self, decide_eq_true_eq, Nat.zero_lt_succ, Nat.lt_add_left_iff_pos, beq_self_eq_true, String.reduceBEq, String.reduceEq, Nat.le_refl, Nat.zero_le, Bool.true_eq_false, decide_true, decide_false, Int.reduceEq, Int.reduceLT, Int.reduceLE, Int.reduceSub, Int.reduceAdd]
    refine lc_acc (fun j => List.replicate j (.bool true)) rfl rfl (fun j hj => ?_) (fun j d hd => ?_) ?_
    · rw [List.length_map] at hj
      rw [List.length_replicate]
      omega
    · obtain ⟨x, hx, rfl⟩ := map_get hd
      have hx2 := ok2 x (List.mem_of_getElem? hx)
      simp -implicitDefEqProofs only [DL.WW, List.isEmpty_nil, List.lookup_cons, List.lookup_nil, List.map, List.length, List.length_cons, List.length_nil, List.length_set, List.replicate, List.append, List.cons_append, List.nil_append, List.append_nil, List.getElem?_cons_zero, List.getElem?_cons_succ, List.getElem?_nil, List.set_cons_zero, List.set_cons_succ, ↓reduceIte, Bool.false_eq_true, Bool.not_true, Bool.not_false, Bool.true_and, Bool.false_and, Bool.and_true, Bool.and_false, Bool.or_true, Bool.or_false, Bool.true_or, Bool.false_or, Nat.reduceAdd, Nat.reduceSub, Nat.reduceLT, Nat.reduceLeDiff, true_and, and_true, and_self, decide_eq_true_eq, Nat.zero_lt_succ, Nat.lt_add_left_iff_pos, beq_self_eq_true, String.reduceBEq, String.reduceEq, Nat.le_refl, Nat.zero_le, Bool.true_eq_false, decide_true, decide_false, Int.reduceEq, Int.reduceLT, Int.reduceLE, Int.reduceSub, Int.reduceAdd]
      refine ⟨_, _, _, rfl, ?_⟩
      have e1 : (decide ((0 : Int) ≤ (x : Int)) && decide ((x : Int) ≤ (n : Int) - 1)) = true := by
        rw [decide_eq_true (by omega), decide_eq_true (by omega)]
        rfl
      simp -implicitDefEqProofs only [DL.WW, List.isEmpty_nil, List.lookup_cons, List.lookup_nil, List.map, List.length, List.length_cons, List.length_nil, List.length_set, List.replicate, List.append, List.cons_append, List.nil_append, List.append_nil, List.getElem?_cons_zero, List.getElem?_cons_succ, List.getElem?_nil, List.set_cons_zero, List.set_cons_succ, ↓reduceIte, Bool.false_eq_true, Bool.not_true, Bool.not_false, Bool.true_and, Bool.false_and, Bool.and_true, Bool.and_false, Bool.or_true, Bool.or_false, Bool.true_or, Bool.false_or, Nat.reduceAdd, Nat.reduceSub, Nat.reduceLT, Nat.reduceLeDiff, true_and, and_true, and_self, decide_eq_true_eq, Nat.zero_lt_succ, Nat.lt_add_left_iff_pos, beq_self_eq_true, String.reduceBEq, String.reduceEq, Nat.le_refl, Nat.zero_le, Bool.true_eq_false, decide_true, decide_false, Int.reduceEq, Int.reduceLT, Int.reduceLE, Int.reduceSub, Int.reduceAdd, e1]
      exact rep_succ j _
    · simp -implicitDefEqProofs only [DL.WW, List.isEmpty_nil, List.lookup_cons, List.lookup_nil, List.map, List.length, List.length_cons, List.length_nil, List.length_set, List.replicate, List.append, List.cons_append, List.nil_append, List.append_nil, List.getElem?_cons_zero, List.getElem?_cons_succ, List.getElem?_nil, List.set_cons_zero, List.set_cons_succ, ↓reduceIte, Bool.false_eq_true, Bool.not_true, Bool.not_false, Bool.true_and, Bool.false_and, Bool.and_true, Bool.and_false, Bool.or_true, Bool.or_false, Bool.true_or, Bool.false_or, Nat.reduceAdd, Nat.reduceSub, Nat.reduceLT, Nat.reduceLeDiff, true_and, and_true, and_self, decide_eq_true_eq, Nat.zero_lt_succ, Nat.lt_add_left_iff_pos, beq_self_eq_true, String.reduceBEq, String.reduceEq, Nat.le_refl, Nat.zero_le, Bool.true_eq_false, decide_true, decide_false, Int.reduceEq, Int.reduceLT, Int.reduceLE, Int.reduceSub, Int.reduceAdd, bools_rep, all_rep]
      refine lc_use ?_
      simp -implicitDefEqProofs only [DL.WW, List.isEmpty_nil, List.lookup_cons, List.lookup_nil, List.map, List.length, List.length_cons, List.length_nil, List.length_set, List.replicate, List.append, List.cons_append, List.nil_append, List.append_nil, List.getElem?_cons_zero, List.getElem?_cons_succ, List.getElem?_nil, List.set_cons_zero, List.set_cons_succ, ↓reduceIte, Bool.false_eq_true, Bool.not_true, Bool.not_false, Bool.true_and, Bool.false_and, Bool.and_true, Bool.and_false, Bool.or_true, Bool.or_false, Bool.true_or, Bool.false_or, Nat.reduceAdd, Nat.reduceSub, Nat.reduceLT, Nat.reduceLeDiff, true_and, and_true, and_self, decide_eq_true_eq, Nat.zero_lt_succ, Nat.lt_add_left_iff_pos, beq_self_eq_true, String.reduceBEq, String.reduceEq, Nat.le_refl, Nat.zero_le, Bool.true_eq_false, decide_true, decide_false, Int.reduceEq, Int.reduceLT, Int.reduceLE, Int.reduceSub, Int.reduceAdd, List.length_map]
      refine ⟨by omega, ?_⟩
      refine lc_acc (fun j => List.replicate j (.bool true)) rfl rfl (fun j hj => ?_) (fun j d hd => ?_) ?_
      · rw [range_len] at hj
        rw [List.length_replicate]
        omega
      · obtain ⟨hj, rfl⟩ := range_get hd
        have h1 : j < r.length := by omega
        have h2 : j + 1 < r.length := by omega
        simp -implicitDefEqProofs only [DL.WW, List.isEmpty_nil, List.lookup_cons, List.lookup_nil, List.map, List.length, List.length_cons, List.length_nil, List.length_set, List.replicate, List.append, List.cons_append, List.nil_append, List.append_nil, List.getElem?_cons_zero, List.getElem?_cons_succ, List.getElem?_nil, List.set_cons_zero, List.set_cons_succ, ↓reduceIte, Bool.false_eq_true, Bool.not_true, Bool.not_false, Bool.true_and, Bool.false_and, Bool.and_true, Bool.and_false, Bool.or_true, Bool.or_false, Bool.true_or, Bool.false_or, Nat.reduceAdd, Nat.reduceSub, Nat.reduceLT, Nat.reduceLeDiff, true_and, and_true, and_self, decide_eq_true_eq, Nat.zero_lt_succ, Nat.lt_add_left_iff_pos, beq_self_eq_true, String.reduceBEq, String.reduceEq, Nat.le_refl, Nat.zero_le, Bool.true_eq_false, decide_true, decide_false, Int.reduceEq, Int.reduceLT, Int.reduceLE, Int.reduceSub, Int.reduceAdd, Int.zero_add]
        have a1 : atI (r.map fun n : Nat => PyData.int n) (j : Int) = some (.int r[j]) := atI_nat (by rw [List.getElem?_map, List.getElem?_eq_getElem h1]; rfl)
        have a2 : atI (r.map fun n : Nat => PyData.int n) ((j : Int) + 1) = some (.int r[j + 1]) := atI_nat (j := j + 1) (by rw [List.getElem?_map, List.getElem?_eq_getElem h2]; rfl)
        have a3 : r[j] < r[j + 1] := List.pairwise_iff_getElem.mp ok1 j (j + 1) h1 h2 (by omega)
        simp -implicitDefEqProofs only [DL.WW, List.isEmpty_nil, List.lookup_cons, List.lookup_nil, List.map, List.length, List.length_cons, List.length_nil, List.length_set, List.replicate, List.append, List.cons_append, List.nil_append, List.append_nil, List.getElem?_cons_zero, List.getElem?_cons_succ, List.getElem?_nil, List.set_cons_zero, List.set_cons_succ, ↓reduceIte, Bool.false_eq_true, Bool.not_true, Bool.not_false, Bool.true_and, Bool.false_and, Bool.and_true, Bool.and_false, Bool.or_true, Bool.or_false, Bool.true_or, Bool.false_or, Nat.reduceAdd, Nat.reduceSub, Nat.reduceLT, Nat.reduceLeDiff, true_and, and_true, and_self, decide_eq_true_eq, Nat.zero_lt_succ, Nat.lt_add_left_iff_pos, beq_self_eq_true, String.reduceBEq, String.reduceEq, Nat.le_refl, Nat.zero_le, Bool.true_eq_false, decide_true, decide_false, Int.reduceEq, Int.reduceLT, Int.reduceLE, Int.reduceSub, Int.reduceAdd, a1, a2]
        have a4 : decide (((r[j] : Nat) : Int) < ((r[j + 1] : Nat) : Int)) = true := decide_eq_true (by omega)
        rw [a4]
        exact rep_succ j _
      · simp -implicitDefEqProofs only [DL.WW, List.isEmpty_nil, List.lookup_cons, List.lookup_nil, List.map, List.length, List.length_cons, List.length_nil, List.length_set, List.replicate, List.append, List.cons_append, List.nil_append, List.append_nil, List.getElem?_cons_zero, List.getElem?_cons_succ, List.getElem?_nil, List.set_cons_zero, List.set_cons_succ, ↓reduceIte, Bool.false_eq_true, Bool.not_true, Bool.not_false, Bool.true_and, Bool.false_and, Bool.and_true, Bool.and_false, Bool.or_true, Bool.or_false, Bool.true_or, Bool.false_or, Nat.reduceAdd, Nat.reduceSub, Nat.reduceLT, Nat.reduceLeDiff, true_and, and_true, and_self, decide_eq_true_eq, Nat.zero_lt_succ, Nat.lt_add_left_iff_pos, beq_self_eq_true, String.reduceBEq, String.reduceEq, Nat.le_refl, Nat.zero_le, Bool.true_eq_false, decide_true, decide_false, Int.reduceEq, Int.reduceLT, Int.reduceLE, Int.reduceSub, Int.reduceAdd, bools_rep, all_rep]
        exact ⟨_, rfl⟩
  · rintro e ⟨z2, rfl⟩
    simp -implicitDefEqProofs only [DL.WW, List.isEmpty_nil, List.lookup_cons, List.lookup_nil, List.map, List.length, List.length_cons, List.length_nil, List.length_set, List.replicate, List.append, List.cons_append, List.nil_append, List.append_nil, List.getElem?_cons_zero, List.getElem?_cons_succ, List.getElem?_nil, List.set_cons_zero, List.set_cons_succ, ↓reduceIte, Bool.false_eq_true, Bool.not_true, Bool.not_false, Bool.true_and, Bool.false_and, Bool.and_true, Bool.and_false, Bool.or_true, Bool.or_false, Bool.true_or, Bool.false_or, Nat.reduceAdd, Nat.reduceSub, Nat.reduceLT, Nat.reduceLeDiff, true_and, and_true, and_self, decide_eq_true_eq, Nat.zero_lt_succ, Nat.lt_add_left_iff_pos, beq_self_eq_true, String.reduceBEq, String.reduceEq, Nat.le_refl, Nat.zero_le, Bool.true_eq_false, decide_true, decide_false, Int.reduceEq, Int.reduceLT, Int.reduceLE, Int.reduceSub, Int.reduceAdd]
    exact q
/-! ### a graph -/
def GrOk' (L R : List (List Nat)) : Prop := L.length = R.length ∧ 1 ≤ L.length ∧ L.length ≤ 60 ∧ (∀ r ∈ L, OkRow L.length r) ∧ ∀ r ∈ R, OkRow L.length r
def F_need_graph : FSp := fun args P => ∃ L R : List (List Nat), args = [some (.dat (grD L R))] ∧ GrOk' L R ∧ P (.dat .none) [none]
theorem ok_need_graph {k : Nat} (T : Txt K mg) (G_is_edges : FnOk P w K mg base CX0 (k) T.a_is_edges T.d_is_edges ["many", "value"] (spD K F_is_edges)) : FnOk P w K mg base CX0 (k + 1) T.a_need_graph T.d_need_graph ["value"] (spD K F_need_graph) := by
  refine (fun (hA : ∀ args P, F_need_graph args P → args.length = 1) => T.F_need_graph.ok (sp := spD K F_need_graph) sc_need_graph (fun vs H Q E h => spD_len hA h) (fun cdv A outer s H vs Q E hr h => ⟨_, (pss_cons (ps_if (PW.pt (pw_or (pt_not (pt_val (pe_callB (call_isiX (K := K) rfl) rfl T.m_isinstance (by decide +kernel) (pa_cons (pv 0) (pa_cons (pe_bltn (v := .ty "tuple") (u := .type "tuple") rfl T.m_tuple (by decide +kernel) rfl) pa_nil))))) (pw_or (pt_cmpR (op_neDK (K := K) rfl hr.units) (pe_callB (call_lenK (K := K) rfl) rfl T.m_len PySem.boot_len (pa_cons (pv 0) pa_nil)) pe_int (nomark _)) (pw_or1 (pt_not (pt_val (pe_callB (call_isiX (K := K) rfl) rfl T.m_isinstance (by decide +kernel) (pa_cons (pe_ix (ix_tupK (K := K) rfl) (pv 0) pe_int (fun _ _ => rfl)) (pa_cons (pe_bltn (v := .ty "tuple") (u := .type "tuple") rfl T.m_tuple (by decide +kernel) rfl) pa_nil)))))))))
  (pss_one ps_never)
  pss_nil)
  (pss_cons (ps_set (i := 1) sc_need_graph.nd rfl (Or.inl rfl) (pe_callB (call_lenK (K := K) rfl) rfl T.m_len PySem.boot_len (pa_cons (pe_ix (ix_tupK (K := K) rfl) (pv 0) pe_int (fun _ _ => rfl)) pa_nil)))
  (pss_one (ps_if (PW.pt (pw_or (pt_not (pt_chain op_le op_le pe_int (pv 1) (pe_glob (v := .int 60) rfl T.c_MOST_GRAPH ⟨_, rfl⟩))) (pw_or (pt_not (pt_val (pe_call G_is_edges hr rfl T.g_is_edges T.F_is_edges.kp T.b_is_edges .nil pass0 (pa_cons (pv 1) (pa_cons (pe_ix (ix_tupK (K := K) rfl) (pv 0) pe_int (fun _ _ => rfl)) pa_nil))))) (pw_or1 (pt_not (pt_val (pe_call G_is_edges hr rfl T.g_is_edges T.F_is_edges.kp T.b_is_edges .nil pass0 (pa_cons (pv 1) (pa_cons (pe_ix (ix_tupK (K := K) rfl) (pv 0) pe_int (fun _ _ => rfl)) pa_nil)))))))))
  (pss_one ps_never)
  pss_nil)))), fn_run (N := ["value", "many"]) h (fun A' Hz' => (ss_seq (ss_if (st_or (st_not (st_B (se_isi rfl se_var))) (st_or (st_test (se_op sr_neD (se_cb1 sc_len se_var) se_int)) (st_not (st_B (se_isi rfl (se_op sr_ixT se_var se_int))))))
  ss_never
  ss_next)
  (ss_seq (ss_asg (se_cb1 sc_len (se_op sr_ixT se_var se_int)) sg_name)
  (ss_if (st_or (st_not (st_test (se_chain (sr_I0 (fun _ _ => rfl)) (sr_I0 (fun _ _ => rfl)) se_int se_var se_int))) (st_or (st_not (st_B (se_call (sa_cons se_var (sa_cons (se_op sr_ixT se_var se_int) sa_nil))))) (st_not (st_B (se_call (sa_cons se_var (sa_cons (se_op sr_ixT se_var se_int) sa_nil)))))))
  ss_never
  ss_next)))) (fun args P hl hF => ?_) (by rw [spD_len hA h]; exact Nat.le_of_ble_eq_true rfl)⟩)) (fun args P hF => ?_)
  rotate_left
  · obtain ⟨L, R, rfl, _⟩ := hF
    rfl
  obtain ⟨L, R, rfl, ⟨h1, h2, h3, h4, h5⟩, q⟩ := hF
  have hg : grD L R = .tuple [rowsD L, rowsD R] := rfl
  have hL : rowsD L = .tuple (L.map rowD) := rfl
  have hR : rowsD R = .tuple (R.map rowD) := rfl
  simp -implicitDefEqProofs only [DL.WW, List.isEmpty_nil, List.lookup_cons, List.lookup_nil, List.map, List.length, List.length_cons, List.length_nil, List.length_set, List.replicate, List.append, List.cons_append, List.nil_append, List.append_nil, List.getElem?_cons_zero, List.getElem?_cons_succ, List.getElem?_nil, List.set_cons_zero, List.set_cons_succ, ↓reduceIte, Bool.false_eq_true, Bool.not_true, Bool.not_false, Bool.true_and, Bool.false_and, Bool.and_true, Bool.and_false, Bool.or_true, Bool.or_false, Bool.true_or, Bool.false_or, Nat.reduceAdd, Nat.reduceSub, Nat.reduceLT, Nat.reduceLeDiff, true_and, and_true, and_self, decide_eq_true_eq, Nat.zero_lt_succ, Nat.lt_add_left_iff_pos, beq_self_eq_true, String.reduceBEq, String.reduceEq, Nat.le_refl, Nat.zero_le, Bool.true_eq_false, decide_true, decide_false, Int.reduceEq, Int.reduceLT, Int.reduceLE, Int.reduceSub, Int.reduceAdd, hg, hL, List.length_map]
  have c1 : (1 : Int) ≤ (L.length : Nat) := by omega
  have c2 : ((L.length : Nat) : Int) ≤ 60 := by omega
  simp -implicitDefEqProofs only [DL.WW, List.isEmpty_nil, List.lookup_cons, List.lookup_nil, List.map, List.length, List.length_cons, List.length_nil, List.length_set, List.replicate, List.append, List.cons_append, List.nil_append, List.append_nil, List.getElem?_cons_zero, List.getElem?_cons_succ, List.getElem?_nil, List.set_cons_zero, List.set_cons_succ, ↓reduceIte, Bool.false_eq_true, Bool.not_true, Bool.not_false, Bool.true_and, Bool.false_and, Bool.and_true, Bool.and_false, Bool.or_true, Bool.or_false, Bool.true_or, Bool.false_or, Nat.reduceAdd, Nat.reduceSub, Nat.reduceLT, Nat.reduceLeDiff, true_and, and_true, and_self, decide_eq_true_eq, Nat.zero_lt_succ, Nat.lt_add_left_iff_pos, beq_self_eq_true, String.reduceBEq, String.reduceEq, Nat.le_refl, Nat.zero_le, Bool.true_eq_false, decide_true, decide_false, Int.reduceEq, Int.reduceLT, Int.reduceLE, Int.reduceSub, Int.reduceAdd, c1, c2]
  refine ⟨L.length, L, rfl, rfl, h3, h4, ?_⟩
  simp -implicitDefEqProofs only [DL.WW, List.isEmpty_nil, List.lookup_cons, List.lookup_nil, List.map, List.length, List.length_cons, List.length_nil, List.length_set, List.replicate, List.append, List.cons_append, List.nil_append, List.append_nil, List.getElem?_cons_zero, List.getElem?_cons_succ, List.getElem?_nil, List.set_cons_zero, List.set_cons_succ, ↓reduceIte, Bool.false_eq_true, Bool.not_true, Bool.not_false, Bool.true_and, Bool.false_and, Bool.and_true, Bool.and_false, Bool.or_true, Bool.or_false, Bool.true_or, Bool.false_or, Nat.reduceAdd, Nat.reduceSub, Nat.reduceLT, Nat.reduceLeDiff, true_and, and_true, and_self, decide_eq_true_eq, Nat.zero_lt_succ, Nat.lt_add_left_iff_pos, beq_self_eq_true, String.reduceBEq, String.reduceEq, Nat.le_refl, Nat.zero_le, Bool.true_eq_false, decide_true, decide_false, Int.reduceEq, Int.reduceLT, Int.reduceLE, Int.reduceSub, Int.reduceAdd]
  refine ⟨L.length, R, rfl, h1.symm, h3, h5, ?_⟩
  simp -implicitDefEqProofs only [DL.WW, List.isEmpty_nil, List.lookup_cons, List.lookup_nil, List.map, List.length, List.length_cons, List.length_nil, List.length_set, List.replicate, List.append, List.cons_append, List.nil_append, List.append_nil, List.getElem?_cons_zero, List.getElem?_cons_succ, List.getElem?_nil, List.set_cons_zero, List.set_cons_succ, ↓reduceIte, Bool.false_eq_true, Bool.not_true, Bool.not_false, Bool.true_and, Bool.false_and, Bool.and_true, Bool.and_false, Bool.or_true, Bool.or_false, Bool.true_or, Bool.false_or, Nat.reduceAdd, Nat.reduceSub, Nat.reduceLT, Nat.reduceLeDiff, true_and, and_true, and_self, decide_eq_true_eq, Nat.zero_lt_succ, Nat.lt_add_left_iff_pos, beq_self_eq_true, String.reduceBEq, String.reduceEq, Nat.le_refl, Nat.zero_le, Bool.true_eq_false, decide_true, decide_false, Int.reduceEq, Int.reduceLT, Int.reduceLE, Int.reduceSub, Int.reduceAdd]
  exact q
theorem rowsD_eq (S : List (List Nat)) : rowsD S = .tuple (S.map rowD) := rfl
theorem rowD_eq (S : List Nat) : rowD S = .tuple (S.map fun n : Nat => .int n) := rfl
theorem grD_eq (L R : List (List Nat)) : grD L R = .tuple [rowsD L, rowsD R] := rfl
end
end K74D


set_option Elab.async false
set_option linter.all false
set_option maxRecDepth 100000
set_option maxHeartbeats 4000000
namespace K74D
open PySem L2 TG DL K74 GM SV
namespace Any
section
variable {P : Program} {w : World} {K : PySem.W.Frag} {mg : Str → Option Value} {base : Heap}
/-- a datum without parts -/
inductive Leaf : PyData → Prop
  | non : Leaf .none
  | int (n : Int) : Leaf (.int n)
  | bool (b : Bool) : Leaf (.bool b)
def isI : PyData → Bool
  | .int _ => true
  | _ => false
def inB (a b : Int) : PyData → Bool
  | .int n => decide (a ≤ n) && decide (n ≤ b)
  | _ => false
def F_is_int : FSp := fun args P => ∃ d : PyData, args = [some (.dat d)] ∧ Leaf d ∧ P (.dat (.bool (isI d))) [none]
theorem ok_is_int {k : Nat} (T : Txt K mg)  : FnOk P w K mg base CX0 (k + 1) T.a_is_int T.d_is_int ["value"] (spD K F_is_int) := by
  refine (fun (hA : ∀ args P, F_is_int args P → args.length = 1) => T.F_is_int.ok (sp := spD K F_is_int) sc_is_int (fun vs H Q E h => spD_len hA h) (fun cdv A outer s H vs Q E hr h => ⟨_, (pss_one (ps_ret (pe_and (pe_callB (call_isiX (K := K) rfl) rfl T.m_isinstance (by decide +kernel) (pa_cons (pv 0) (pa_cons (pe_bltn (v := .ty "int") (u := .type "int") rfl T.m_int (by decide +kernel) rfl) pa_nil))) (pe_one (pe_not (pe_callB (call_isiX (K := K) rfl) rfl T.m_isinstance (by decide +kernel) (pa_cons (pv 0) (pa_cons (pe_bltn (v := .ty "bool") (u := .type "bool") rfl T.m_bool (by decide +kernel) rfl) pa_nil)))))))), fn_run (N := ["value"]) h (fun A' Hz' => (ss_ret (se_andV (se_isi rfl se_var) (se_notV (se_isi rfl se_var))))) (fun args P hl hF => ?_) (by rw [spD_len hA h]; exact Nat.le_of_ble_eq_true rfl)⟩)) (fun args P hF => ?_)
  rotate_left
  · obtain ⟨n, rfl, _⟩ := hF
    rfl
  obtain ⟨n, rfl, hn, q⟩ := hF
  cases hn <;> (simp -implicitDefEqProofs only [DL.WW, List.isEmpty_nil, List.lookup_cons, List.lookup_nil, List.map, List.length, List.length_cons, List.length_nil, List.length_set, List.replicate, List.append, List.cons_append, List.nil_append, List.append_nil, List.getElem?_cons_zero, List.getElem?_cons_succ, List.getElem?_nil, List.set_cons_zero, List.set_cons_succ, ↓reduceIte, Bool.false_eq_true, Bool.not_true, Bool.not_false, Bool.true_and, Bool.false_and, Bool.and_true, Bool.and_false, Bool.or_true, Bool.or_false, Bool.true_or, Bool.false_or, Nat.reduceAdd, Nat.reduceSub, Nat.reduceLT, Nat.reduceLeDiff, true_and, and_true, and_self, decide_eq_true_eq, Nat.zero_lt_succ, Nat.lt_add_left_iff_pos, beq_self_eq_true, String.reduceBEq, String.reduceEq, Nat.le_refl, Nat.zero_le, Bool.true_eq_false, decide_true, decide_false, Int.reduceEq, Int.reduceLT, Int.reduceLE, Int.reduceSub, Int.reduceAdd]; exact q)
def F_is_in : FSp := fun args P => ∃ (d : PyData) (a b : Int), args = [some (.dat d), some (.dat (.int a)), some (.dat (.int b))] ∧ Leaf d ∧ P (.dat (.bool (inB a b d))) [none, none, none]
theorem ok_is_in {k : Nat} (T : Txt K mg) (G_is_int : FnOk P w K mg base CX0 (k) T.a_is_int T.d_is_int ["value"] (spD K F_is_int)) : FnOk P w K mg base CX0 (k + 1) T.a_is_in T.d_is_in ["value", "least", "most"] (spD K F_is_in) := by
  refine (fun (hA : ∀ args P, F_is_in args P → args.length = 3) => T.F_is_in.ok (sp := spD K F_is_in) sc_is_in (fun vs H Q E h => spD_len hA h) (fun cdv A outer s H vs Q E hr h => ⟨_, (pss_one (ps_ret (pe_and (pe_call G_is_int hr rfl T.g_is_int T.F_is_int.kp T.b_is_int .nil pass0 (pa_cons (pv 0) pa_nil)) (pe_one (pe_chain op_le op_le (pv 1) (pv 0) (pv 2)))))), fn_run (N := ["value", "least", "most"]) h (fun A' Hz' => (ss_ret (se_andV (se_call (sa_cons se_var sa_nil)) (se_chain (sr_I0 (fun _ _ => rfl)) (sr_I0 (fun _ _ => rfl)) se_var se_var se_var)))) (fun args P hl hF => ?_) (by rw [spD_len hA h]; exact Nat.le_of_ble_eq_true rfl)⟩)) (fun args P hF => ?_)
  rotate_left
  · obtain ⟨n, a, b, rfl, _⟩ := hF
    rfl
  obtain ⟨n, a, b, rfl, hn, q⟩ := hF
  simp -implicitDefEqProofs only [DL.WW, List.isEmpty_nil, List.lookup_cons, List.lookup_nil, List.map, List.length, List.length_cons, List.length_nil, List.length_set, List.replicate, List.append, List.cons_append, List.nil_append, List.append_nil, List.getElem?_cons_zero, List.getElem?_cons_succ, List.getElem?_nil, List.set_cons_zero, List.set_cons_succ, ↓reduceIte, Bool.false_eq_true, Bool.not_true, Bool.not_false, Bool.true_and, Bool.false_and, Bool.and_true, Bool.and_false, Bool.or_true, Bool.or_false, Bool.true_or, Bool.false_or, Nat.reduceAdd, Nat.reduceSub, Nat.reduceLT, Nat.reduceLeDiff, true_and, and_true, and_self, decide_eq_true_eq, Nat.zero_lt_succ, Nat.lt_add_left_iff_pos, beq_self_eq_true, String.reduceBEq, String.reduceEq, Nat.le_refl, Nat.zero_le, Bool.true_eq_false, decide_true, decide_false, Int.reduceEq, Int.reduceLT, Int.reduceLE, Int.reduceSub, Int.reduceAdd]
  refine ⟨n, rfl, hn, ?_⟩
  cases hn with
  | int n =>
    simp -implicitDefEqProofs only [DL.WW, List.isEmpty_nil, List.lookup_cons, List.lookup_nil, List.map, List.length, List.length_cons, List.length_nil, List.length_set, List.replicate, List.append, List.cons_append, List.nil_append, List.append_nil, List.getElem?_cons_zero, List.getElem?_cons_succ, List.getElem?_nil, List.set_cons_zero, List.set_cons_succ, ↓reduceIte, Bool.false_eq_true, Bool.not_true, Bool.not_false, Bool.true_and, Bool.false_and, Bool.and_true, Bool.and_false, Bool.or_true, Bool.or_false, Bool.true_or, Bool.false_or, Nat.reduceAdd, Nat.reduceSub, Nat.reduceLT, Nat.reduceLeDiff, true_and, and_true, and_self, decide_eq_true_eq, Nat.zero_lt_succ, Nat.lt_add_left_iff_pos, beq_self_eq_true, String.reduceBEq, String.reduceEq, Nat.le_refl, Nat.zero_le, Bool.true_eq_false, decide_true, decide_false, Int.reduceEq, Int.reduceLT, Int.reduceLE, Int.reduceSub, Int.reduceAdd, isI]
    by_cases h : a ≤ n
    · simp [h, inB] at q ⊢
      exact q
    · simp [h, inB] at q ⊢
      exact q
  | _ => simp -implicitDefEqProofs only [DL.WW, List.isEmpty_nil, List.lookup_cons, List.lookup_nil, List.map, List.length, List.length_cons, List.length_nil, List.length_set, List.replicate, List.append, List.cons_append, List.nil_append, List.append_nil, List.getElem?_cons_zero, List.getElem?_cons_succ, List.getElem?_nil, List.set_cons_zero, List.set_cons_succ, ↓reduceIte, Bool.false_eq_true, Bool.not_true, Bool.not_false, Bool.true_and, Bool.false_and, Bool.and_true, Bool.and_false, Bool.or_true, Bool.or_false, Bool.true_or, Bool.false_or, Nat.reduceAdd, Nat.reduceSub, Nat.reduceLT, Nat.reduceLeDiff, true_and, and_true, and_self, decide_eq_true_eq, Nat.zero_lt_succ, Nat.lt_add_left_iff_pos, beq_self_eq_true, String.reduceBEq, String.reduceEq, Nat.le_refl, Nat.zero_le, Bool.true_eq_false, decide_true, decide_false, Int.reduceEq, Int.reduceLT, Int.reduceLE, Int.reduceSub, Int.reduceAdd, isI]; exact q
/-- what a place of a value may hold -/
inductive TD : PyData → Prop
  | non : TD .none
  | str {s : Str} : PyData.strOk s = true → TD (.str s)
  | one {s : Str} : PyData.strOk s = true → TD (.tuple [.str s])
  | two {s : Str} {d : PyData} : PyData.strOk s = true → Any.Leaf d → TD (.tuple [.str s, d])
  | lst {s : Str} {d : PyData} : PyData.strOk s = true → Any.Leaf d → TD (.list [.str s, d])
def toldB : PyData → Bool
  | .tuple [.str s, d] => if s = Str.ofString "draw" then isNone d else (decide (Str.ofString "L" = s) || decide (Str.ofString "R" = s)) && Any.inB 0 1000000000 d
  | _ => false
theorem in_pair (x a b : Str) : inV (dV (.str x)) [dV (.str a), dV (.str b)] = (decide (a = x) || decide (b = x)) := by
  have e : ∀ y : Str, eqV (V.str y) (V.str x) = decide (y = x) := fun y => by
    unfold eqV
    by_cases c : y = x
    · subst c
      simp
    · simp [c]
  show ([V.str a, V.str b].any fun y => eqV y (V.str x)) = _
  simp only [List.any_cons, List.any_nil, e, Bool.or_false]
def F_is_told : FSp := fun args P => ∃ d : PyData, args = [some (.dat d)] ∧ TD d ∧ P (.dat (.bool (toldB d))) [none]
theorem ok_is_told {k : Nat} (T : Txt K mg) (G_is_in : FnOk P w K mg base CX0 (k) T.a_is_in T.d_is_in ["value", "least", "most"] (spD K F_is_in)) : FnOk P w K mg base CX0 (k + 1) T.a_is_told T.d_is_told ["value"] (spD K F_is_told) := by
  refine (fun (hA : ∀ args P, F_is_told args P → args.length = 1) => T.F_is_told.ok (sp := spD K F_is_told) sc_is_told (fun vs H Q E h => spD_len hA h) (fun cdv A outer s H vs Q E hr h => ⟨_, (pss_cons (ps_if (PW.pt (pw_or (pt_not (pt_val (pe_callB (call_isiX (K := K) rfl) rfl T.m_isinstance (by decide +kernel) (pa_cons (pv 0) (pa_cons (pe_bltn (v := .ty "tuple") (u := .type "tuple") rfl T.m_tuple (by decide +kernel) rfl) pa_nil))))) (pw_or (pt_cmpR (op_neDK (K := K) rfl hr.units) (pe_callB (call_lenK (K := K) rfl) rfl T.m_len PySem.boot_len (pa_cons (pv 0) pa_nil)) pe_int (nomark _)) (pw_or1 (pt_not (pt_val (pe_callB (call_isiX (K := K) rfl) rfl T.m_isinstance (by decide +kernel) (pa_cons (pe_ix (ix_seqK (K := K) rfl) (pv 0) pe_int (fun _ _ => rfl)) (pa_cons (pe_bltn (v := .ty "str") (u := .type "str") rfl T.m_str (by decide +kernel) rfl) pa_nil)))))))))
  (pss_one (ps_ret pe_bl))
  pss_nil)
  (pss_cons (ps_if (pt_cmpR (op_eqDK (K := K) rfl hr.units) (pe_ix (ix_seqK (K := K) rfl) (pv 0) pe_int (fun _ _ => rfl)) (pe_glob (v := .str "draw") rfl T.c_DRAW ⟨_, rfl⟩) (nomark _))
  (pss_one (ps_ret (pe_cmpR op_isN (pe_ix (ix_seqK (K := K) rfl) (pv 0) pe_int (fun _ _ => rfl)) pe_non (nomark _))))
  pss_nil)
  (pss_one (ps_ret (pe_and (pe_cmpR (op_in_seqK (K := K) rfl) (pe_ix (ix_seqK (K := K) rfl) (pv 0) pe_int (fun _ _ => rfl)) (pe_tup (pa_cons pe_str (pa_cons pe_str pa_nil))) (by rfl)) (pe_one (pe_call G_is_in hr rfl T.g_is_in T.F_is_in.kp T.b_is_in .nil pass0 (pa_cons (pe_ix (ix_seqK (K := K) rfl) (pv 0) pe_int (fun _ _ => rfl)) (pa_cons pe_int (pa_cons (pe_op op_pow pe_int pe_int) pa_nil)))))))))), fn_run (N := ["value"]) h (fun A' Hz' => (ss_seq (ss_if (st_or (st_not (st_B (se_isi rfl se_var))) (st_or (st_test (se_op sr_neD (se_cb1 sc_len se_var) se_int)) (st_not (st_B (se_isi rfl (se_op sr_ix se_var se_int))))))
  (ss_ret se_bl)
  ss_next)
  (ss_seq (ss_if (st_test (se_op sr_eqD (se_op sr_ix se_var se_int) se_str))
  (ss_ret (se_op sr_isN (se_op sr_ix se_var se_int) se_non))
  ss_next)
  (ss_ret (se_andV (se_op sr_in (se_op sr_ix se_var se_int) (se_tup (sa_cons se_str (sa_cons se_str sa_nil)))) (se_call (sa_cons (se_op sr_ix se_var se_int) (sa_cons se_int (sa_cons (se_op (sr_I (fun _ _ => rfl)) se_int se_int) sa_nil))))))))) (fun args P hl hF => ?_) (by rw [spD_len hA h]; exact Nat.le_of_ble_eq_true rfl)⟩)) (fun args P hF => ?_)
  rotate_left
  · obtain ⟨d, rfl, _⟩ := hF
    rfl
  obtain ⟨d, rfl, hd, q⟩ := hF
  cases hd with
  | non => simp -implicitDefEqProofs only [DL.WW, List.isEmpty_nil, List.lookup_cons, List.lookup_nil, List.map, List.length, List.length_cons, List.length_nil, List.length_set, List.replicate, List.append, List.cons_append, List.nil_append, List.append_nil, List.getElem?_cons_zero, List.getElem?_cons_succ, List.getElem?_nil, List.set_cons_zero, List.set_cons_succ, ↓reduceIte, Bool.false_eq_true, Bool.not_true, Bool.not_false, Bool.true_and, Bool.false_and, Bool.and_true, Bool.and_false, Bool.or_true, Bool.or_false, Bool.true_or, Bool.false_or, Nat.reduceAdd, Nat.reduceSub, Nat.reduceLT, Nat.reduceLeDiff, true_and, and_true, and_self, decide_eq_true_eq, Nat.zero_lt_succ, Nat.lt_add_left_iff_pos, beq_self_eq_true, String.reduceBEq, String.reduceEq, Nat.le_refl, Nat.zero_le, Bool.true_eq_false, decide_true, decide_false, Int.reduceEq, Int.reduceLT, Int.reduceLE, Int.reduceSub, Int.reduceAdd]; exact q
  | str h => simp -implicitDefEqProofs only [DL.WW, List.isEmpty_nil, List.lookup_cons, List.lookup_nil, List.map, List.length, List.length_cons, List.length_nil, List.length_set, List.replicate, List.append, List.cons_append, List.nil_append, List.append_nil, List.getElem?_cons_zero, List.getElem?_cons_succ, List.getElem?_nil, List.set_cons_zero, List.set_cons_succ, ↓reduceIte, Bool.false_eq_true, Bool.not_true, Bool.not_false, Bool.true_and, Bool.false_and, Bool.and_true, Bool.and_false, Bool.or_true, Bool.or_false, Bool.true_or, Bool.false_or, Nat.reduceAdd, Nat.reduceSub, Nat.reduceLT, Nat.reduceLeDiff, true_and, and_true, and_self, decide_eq_true_eq, Nat.zero_lt_succ, Nat.lt_add_left_iff_pos, beq_self_eq_true, String.reduceBEq, String.reduceEq, Nat.le_refl, Nat.zero_le, Bool.true_eq_false, decide_true, decide_false, Int.reduceEq, Int.reduceLT, Int.reduceLE, Int.reduceSub, Int.reduceAdd]; exact q
  | one h => simp -implicitDefEqProofs only [DL.WW, List.isEmpty_nil, List.lookup_cons, List.lookup_nil, List.map, List.length, List.length_cons, List.length_nil, List.length_set, List.replicate, List.append, List.cons_append, List.nil_append, List.append_nil, List.getElem?_cons_zero, List.getElem?_cons_succ, List.getElem?_nil, List.set_cons_zero, List.set_cons_succ, ↓reduceIte, Bool.false_eq_true, Bool.not_true, Bool.not_false, Bool.true_and, Bool.false_and, Bool.and_true, Bool.and_false, Bool.or_true, Bool.or_false, Bool.true_or, Bool.false_or, Nat.reduceAdd, Nat.reduceSub, Nat.reduceLT, Nat.reduceLeDiff, true_and, and_true, and_self, decide_eq_true_eq, Nat.zero_lt_succ, Nat.lt_add_left_iff_pos, beq_self_eq_true, String.reduceBEq, String.reduceEq, Nat.le_refl, Nat.zero_le, Bool.true_eq_false, decide_true, decide_false, Int.reduceEq, Int.reduceLT, Int.reduceLE, Int.reduceSub, Int.reduceAdd, List.length]; exact q
  | lst h h2 => simp -implicitDefEqProofs only [DL.WW, List.isEmpty_nil, List.lookup_cons, List.lookup_nil, List.map, List.length, List.length_cons, List.length_nil, List.length_set, List.replicate, List.append, List.cons_append, List.nil_append, List.append_nil, List.getElem?_cons_zero, List.getElem?_cons_succ, List.getElem?_nil, List.set_cons_zero, List.set_cons_succ, ↓reduceIte, Bool.false_eq_true, Bool.not_true, Bool.not_false, Bool.true_and, Bool.false_and, Bool.and_true, Bool.and_false, Bool.or_true, Bool.or_false, Bool.true_or, Bool.false_or, Nat.reduceAdd, Nat.reduceSub, Nat.reduceLT, Nat.reduceLeDiff, true_and, and_true, and_self, decide_eq_true_eq, Nat.zero_lt_succ, Nat.lt_add_left_iff_pos, beq_self_eq_true, String.reduceBEq, String.reduceEq, Nat.le_refl, Nat.zero_le, Bool.true_eq_false, decide_true, decide_false, Int.reduceEq, Int.reduceLT, Int.reduceLE, Int.reduceSub, Int.reduceAdd]; exact q
  | two h h2 =>
    simp -implicitDefEqProofs only [DL.WW, List.isEmpty_nil, List.lookup_cons, List.lookup_nil, List.map, List.length, List.length_cons, List.length_nil, List.length_set, List.replicate, List.append, List.cons_append, List.nil_append, List.append_nil, List.getElem?_cons_zero, List.getElem?_cons_succ, List.getElem?_nil, List.set_cons_zero, List.set_cons_succ, ↓reduceIte, Bool.false_eq_true, Bool.not_true, Bool.not_false, Bool.true_and, Bool.false_and, Bool.and_true, Bool.and_false, Bool.or_true, Bool.or_false, Bool.true_or, Bool.false_or, Nat.reduceAdd, Nat.reduceSub, Nat.reduceLT, Nat.reduceLeDiff, true_and, and_true, and_self, decide_eq_true_eq, Nat.zero_lt_succ, Nat.lt_add_left_iff_pos, beq_self_eq_true, String.reduceBEq, String.reduceEq, Nat.le_refl, Nat.zero_le, Bool.true_eq_false, decide_true, decide_false, Int.reduceEq, Int.reduceLT, Int.reduceLE, Int.reduceSub, Int.reduceAdd, List.length]
    refine ⟨h, by decide +kernel, ?_⟩
    unfold toldB at q
    dsimp only at q
    split
    · next e =>
      rw [if_pos e] at q
      cases h2 <;> exact q
    · next e =>
      rw [if_neg e] at q
      refine ⟨rfl, ?_⟩
      split
      · next e2 =>
        rw [in_pair] at e2
        rw [e2] at q
        refine ⟨⟨by decide, by decide, by decide⟩, _, _, _, rfl, h2, ?_⟩
        simp -implicitDefEqProofs only [DL.WW, List.isEmpty_nil, List.lookup_cons, List.lookup_nil, List.map, List.length, List.length_cons, List.length_nil, List.length_set, List.replicate, List.append, List.cons_append, List.nil_append, List.append_nil, List.getElem?_cons_zero, List.getElem?_cons_succ, List.getElem?_nil, List.set_cons_zero, List.set_cons_succ, ↓reduceIte, Bool.false_eq_true, Bool.not_true, Bool.not_false, Bool.true_and, Bool.false_and, Bool.and_true, Bool.and_false, Bool.or_true, Bool.or_false, Bool.true_or, Bool.false_or, Nat.reduceAdd, Nat.reduceSub, Nat.reduceLT, Nat.reduceLeDiff, true_and, and_true, and_self, decide_eq_true_eq, Nat.zero_lt_succ, Nat.lt_add_left_iff_pos, beq_self_eq_true, String.reduceBEq, String.reduceEq, Nat.le_refl, Nat.zero_le, Bool.true_eq_false, decide_true, decide_false, Int.reduceEq, Int.reduceLT, Int.reduceLE, Int.reduceSub, Int.reduceAdd]
        exact q
      · next e2 =>
        rw [in_pair, Bool.not_eq_true] at e2
        rw [e2] at q
        exact q
end
end Any
end K74D


set_option Elab.async false
set_option linter.all false
/-! A told solution that follows from the options everywhere is the solution. -/
namespace SV
open GM
/-- x follows from the options of v by f -/
def IsDue (o : Nat → Nat → List Nat) (f : Nat → Nat → Option (Nat × Nat)) (s v : Nat) (x : Option (Nat × Nat)) : Prop :=
  (∃ m, x = some (s, 1 + m) ∧ (∃ q ∈ o s v, f (1 - s) q = some (s, m)) ∧ ∀ q ∈ o s v, ∀ j, f (1 - s) q = some (s, j) → m ≤ j) ∨
  ((∀ q ∈ o s v, ∃ j, f (1 - s) q = some (1 - s, j)) ∧ ∃ M, x = some (1 - s, M) ∧ (∀ q ∈ o s v, ∀ j, f (1 - s) q = some (1 - s, j) → 1 + j ≤ M) ∧ (M = 0 ∨ ∃ q ∈ o s v, ∃ j, f (1 - s) q = some (1 - s, j) ∧ M = 1 + j)) ∨
  ((∀ q ∈ o s v, ∀ j, f (1 - s) q ≠ some (s, j)) ∧ (∃ q ∈ o s v, ∀ j, f (1 - s) q ≠ some (1 - s, j)) ∧ x = none)
/-- winners are 0 and 1 -/
def Win2 (n : Nat) (f : Nat → Nat → Option (Nat × Nat)) : Prop := ∀ s v w j, s < 2 → v < n → f s v = some (w, j) → w < 2
def AllDue (o : Nat → Nat → List Nat) (n : Nat) (f : Nat → Nat → Option (Nat × Nat)) : Prop := ∀ s v, s < 2 → v < n → IsDue o f s v (f s v)
theorem pair_inj {a b c d : Nat} (h : (some (a, b) : Option (Nat × Nat)) = some (c, d)) : a = c ∧ b = d := by
  cases h
  exact ⟨rfl, rfl⟩
theorem due_fun {o : Nat → Nat → List Nat} {f : Nat → Nat → Option (Nat × Nat)} {s v : Nat} {x y : Option (Nat × Nat)} (hs : s < 2) (hx : IsDue o f s v x) (hy : IsDue o f s v y) : x = y := by
  rcases hx with ⟨m, e1, ⟨q, q1, q2⟩, hmin⟩ | ⟨hal, M, e1, hle, hat⟩ | ⟨hno, ⟨q, q1, q2⟩, e1⟩
  · rcases hy with ⟨m', e2, ⟨q', q1', q2'⟩, hmin'⟩ | ⟨hal', _⟩ | ⟨hno', _⟩
    · have := hmin q' q1' m' q2'
      have := hmin' q q1 m q2
      rw [e1, e2, show m = m' by omega]
    · obtain ⟨j, ej⟩ := hal' q q1
      rw [q2] at ej
      have := (pair_inj ej).1
      omega
    · exact absurd q2 (hno' q q1 m)
  · rcases hy with ⟨m', e2, ⟨q', q1', q2'⟩, hmin'⟩ | ⟨hal', M', e2, hle', hat'⟩ | ⟨_, ⟨q', q1', q2'⟩, _⟩
    · obtain ⟨j, ej⟩ := hal q' q1'
      rw [q2'] at ej
      have := (pair_inj ej).1
      omega
    · have a1 : M ≤ M' := by
        rcases hat with h | ⟨q, q1, j, ej, h⟩
        · omega
        · have := hle' q q1 j ej
          omega
      have a2 : M' ≤ M := by
        rcases hat' with h | ⟨q, q1, j, ej, h⟩
        · omega
        · have := hle q q1 j ej
          omega
      rw [e1, e2, show M = M' by omega]
    · obtain ⟨j, ej⟩ := hal q' q1'
      exact absurd ej (q2' j)
  · rcases hy with ⟨m', e2, ⟨q', q1', q2'⟩, hmin'⟩ | ⟨hal', M', e2, hle', hat'⟩ | ⟨_, _, e2⟩
    · exact absurd q2' (hno q' q1' m')
    · obtain ⟨j, ej⟩ := hal' q q1
      exact absurd ej (q2 j)
    · rw [e1, e2]
theorem due_congr {o : Nat → Nat → List Nat} {f g : Nat → Nat → Option (Nat × Nat)} {s v : Nat} {x : Option (Nat × Nat)} (e : ∀ q ∈ o s v, f (1 - s) q = g (1 - s) q) (h : IsDue o f s v x) : IsDue o g s v x := by
  rcases h with ⟨m, e1, ⟨q, q1, q2⟩, hmin⟩ | ⟨hal, M, e1, hle, hat⟩ | ⟨hno, ⟨q, q1, q2⟩, e1⟩
  · exact .inl ⟨m, e1, ⟨q, q1, by rw [← e q q1]; exact q2⟩, fun q' q1' j ej => hmin q' q1' j (by rw [e q' q1']; exact ej)⟩
  · refine .inr (.inl ⟨fun q q1 => ?_, M, e1, fun q q1 j ej => hle q q1 j (by rw [e q q1]; exact ej), ?_⟩)
    · rw [← e q q1]
      exact hal q q1
    · rcases hat with h | ⟨q, q1, j, ej, h⟩
      · exact .inl h
      · exact .inr ⟨q, q1, j, by rw [← e q q1]; exact ej, h⟩
  · exact .inr (.inr ⟨fun q q1 j => by rw [← e q q1]; exact hno q q1 j, ⟨q, q1, fun j => by rw [← e q q1]; exact q2 j⟩, e1⟩)
theorem due_two {o : Nat → Nat → List Nat} {f : Nat → Nat → Option (Nat × Nat)} {s v : Nat} {x : Option (Nat × Nat)} (hs : s < 2) (h : IsDue o f s v x) : ∀ w j, x = some (w, j) → w < 2 := by
  intro w j e
  rcases h with ⟨m, e1, _⟩ | ⟨_, M, e1, _⟩ | ⟨_, _, e1⟩
  · rw [e] at e1
    have := (pair_inj e1).1
    omega
  · rw [e] at e1
    have := (pair_inj e1).1
    omega
  · rw [e] at e1
    cases e1
theorem due_same {o : Nat → Nat → List Nat} {n : Nat} (ho : ∀ s v, s < 2 → v < n → ∀ q ∈ o s v, q < n) :
    ∀ l, ∀ f g : Nat → Nat → Option (Nat × Nat), AllDue o n f → AllDue o n g → ∀ s v w, s < 2 → v < n → f s v = some (w, l) → g s v = some (w, l) := by
  intro l
  induction l using Nat.strongRecOn with
  | ind l ih =>
  intro f g hf hg s v w hs hv e
  have hs1 : 1 - s < 2 := by omega
  have hq := ho s v hs hv
  have back := fun (l' : Nat) (h : l' < l) (q : Nat) (hq' : q ∈ o s v) (t : Nat) => ih l' h g f hg hf (1 - s) q t hs1 (hq q hq')
  have forth := fun (l' : Nat) (h : l' < l) (q : Nat) (hq' : q ∈ o s v) (t : Nat) => ih l' h f g hf hg (1 - s) q t hs1 (hq q hq')
  have hF := hf s v hs hv
  have hG := hg s v hs hv
  rw [e] at hF
  rcases hF with ⟨m, e1, ⟨q, q1, q2⟩, hmin⟩ | ⟨hal, M, e1, hle, hat⟩ | ⟨_, _, e1⟩
  · obtain ⟨rfl, rfl⟩ := pair_inj e1
    have gq := forth m (by omega) q q1 _ q2
    rcases hG with ⟨m', e2, ⟨q', q1', q2'⟩, hmin'⟩ | ⟨hal', _⟩ | ⟨hno, _⟩
    · have h1 := hmin' q q1 m gq
      have h2 := hmin q' q1' m' (back m' (by omega) q' q1' _ q2')
      have : m' = m := by omega
      rw [e2, this]
    · obtain ⟨j, ej⟩ := hal' q q1
      rw [gq] at ej
      have := (pair_inj ej).1
      omega
    · exact absurd gq (hno q q1 m)
  · obtain ⟨rfl, rfl⟩ := pair_inj e1
    have all : ∀ q ∈ o s v, ∃ j, f (1 - s) q = some (1 - s, j) ∧ g (1 - s) q = some (1 - s, j) ∧ 1 + j ≤ l := fun q q1 => by
      obtain ⟨j, ej⟩ := hal q q1
      have := hle q q1 j ej
      exact ⟨j, ej, forth j (by omega) q q1 _ ej, this⟩
    rcases hG with ⟨m', e2, ⟨q', q1', q2'⟩, _⟩ | ⟨hal', M', e2, hle', hat'⟩ | ⟨_, ⟨q', q1', q2'⟩, _⟩
    · obtain ⟨j, _, ej, _⟩ := all q' q1'
      rw [q2'] at ej
      have := (pair_inj ej).1
      omega
    · have a1 : l ≤ M' := by
        rcases hat with h | ⟨q, q1, j, ej, h⟩
        · omega
        · obtain ⟨j', ej', gj', _⟩ := all q q1
          rw [ej] at ej'
          obtain ⟨_, rfl⟩ := pair_inj ej'
          have := hle' q q1 _ gj'
          omega
      have a2 : M' ≤ l := by
        rcases hat' with h | ⟨q, q1, j, ej, h⟩
        · omega
        · obtain ⟨j', _, gj', h3⟩ := all q q1
          rw [ej] at gj'
          obtain ⟨_, rfl⟩ := pair_inj gj'
          omega
      rw [e2, show M' = l by omega]
    · obtain ⟨j, _, ej, _⟩ := all q' q1'
      exact absurd ej (q2' j)
  · cases e1
theorem due_unique {o : Nat → Nat → List Nat} {n : Nat} (ho : ∀ s v, s < 2 → v < n → ∀ q ∈ o s v, q < n) {f g : Nat → Nat → Option (Nat × Nat)} (hf : AllDue o n f) (hg : AllDue o n g) {s v : Nat} (hs : s < 2) (hv : v < n) : f s v = g s v := by
  cases e : f s v with
  | some p => exact (due_same ho _ f g hf hg s v _ hs hv e).symm
  | none =>
    cases e2 : g s v with
    | none => rfl
    | some p =>
      have := due_same ho _ g f hg hf s v _ hs hv e2
      rw [e] at this
      cases this
theorem D_win {o : Nat → Nat → List Nat} {k s v : Nat} (h : ∃ q ∈ o s v, D o k (1 - s) q = some s) : D o (k + 1) s v ≠ none := by
  cases e : D o k s v with
  | some w => rw [D_succ e]; exact Option.some_ne_none _
  | none => rw [D_none e, if_pos h]; exact Option.some_ne_none _
theorem D_lose {o : Nat → Nat → List Nat} {k s v : Nat} (h : ∀ q ∈ o s v, D o k (1 - s) q = some (1 - s)) : D o (k + 1) s v ≠ none := by
  cases e : D o k s v with
  | some w => rw [D_succ e]; exact Option.some_ne_none _
  | none =>
    rw [D_none e]
    split
    · exact Option.some_ne_none _
    · first
      | exact Option.some_ne_none _
      | (rw [if_pos h]; exact Option.some_ne_none _)
theorem D_none_of {o : Nat → Nat → List Nat} {k m s v : Nat} (h : D o m s v = none) (hk : k ≤ m) : D o k s v = none := by
  cases e : D o k s v with
  | none => rfl
  | some w => rw [D_mono e hk] at h; cases h
theorem gS_at {o : Nat → Nat → List Nat} {s v w j : Nat} (h : gS o s v = some (w, j)) : At o j s v w := by
  rcases gS_cases o s v with ⟨w', j', hA, e⟩ | ⟨_, e⟩
  · rw [e] at h
    obtain ⟨rfl, rfl⟩ := pair_inj h
    exact hA
  · rw [e] at h
    cases h
theorem one_bound {o : Nat → Nat → List Nat} {t u : Nat} : ∀ l : List Nat, (∀ q ∈ l, ∃ j, gS o t q = some (u, j)) → ∃ k, ∀ q ∈ l, D o k t q = some u
  | [], _ => ⟨0, fun _ h => by cases h⟩
  | a :: l, h => by
    obtain ⟨k, hk⟩ := one_bound l fun q hq => h q (List.mem_cons_of_mem _ hq)
    obtain ⟨j, hj⟩ := h a (List.mem_cons_self ..)
    refine ⟨max k (j + 1), fun q hq => ?_⟩
    rcases List.mem_cons.mp hq with rfl | hq
    · exact D_mono (gS_at hj).2 (Nat.le_max_right _ _)
    · exact D_mono (hk q hq) (Nat.le_max_left _ _)
theorem gS_due (o : Nat → Nat → List Nat) (n : Nat) : AllDue o n (gS o) := by
  intro s v hs hv
  rcases gS_cases o s v with ⟨w, j, hA, e⟩ | ⟨hn, e⟩
  · rw [e]
    rcases at_back hA with ⟨rfl, q, q1, q2⟩ | ⟨rfl, _, hal⟩
    · have low : ∀ q' ∈ o w v, ∀ i, gS o (1 - w) q' = some (w, i) → j ≤ 1 + i := fun q' q1' i ei => by
        refine Classical.byContradiction fun hc => ?_
        have h1 := (gS_at ei).2
        have := D_win ⟨q', q1', h1⟩
        exact this (D_none_of hA.1 (by omega))
      obtain ⟨i, hi, hB⟩ := D_at q2
      have ei := gS_some hB
      have := low q q1 i ei
      refine .inl ⟨i, by rw [show j = 1 + i by omega], ⟨q, q1, ei⟩, fun q' q1' i' ei' => ?_⟩
      have := low q' q1' i' ei'
      omega
    · have all : ∀ q ∈ o s v, ∃ i, i < j ∧ gS o (1 - s) q = some (1 - s, i) := fun q q1 => by
        obtain ⟨i, hi, hB⟩ := D_at (hal q q1)
        exact ⟨i, hi, gS_some hB⟩
      refine .inr (.inl ⟨fun q q1 => ?_, j, rfl, fun q q1 i ei => ?_, ?_⟩)
      · obtain ⟨i, _, ei⟩ := all q q1
        exact ⟨i, ei⟩
      · obtain ⟨i', hi', ei'⟩ := all q q1
        rw [ei] at ei'
        obtain ⟨_, rfl⟩ := pair_inj ei'
        omega
      · refine Classical.byContradiction fun hc => ?_
        have h0 : j ≠ 0 := fun h => hc (.inl h)
        have := D_lose (o := o) (k := j - 1) (s := s) (v := v) fun q q1 => by
          obtain ⟨i, hi, ei⟩ := all q q1
          have h2 : j ≠ 1 + i := fun h => hc (.inr ⟨q, q1, i, ei, h⟩)
          exact D_mono (gS_at ei).2 (by omega)
        rw [show j - 1 + 1 = j by omega] at this
        exact this hA.1
  · rw [e]
    refine .inr (.inr ⟨fun q q1 j ej => D_win ⟨q, q1, (gS_at ej).2⟩ (hn _), ?_, rfl⟩)
    refine Classical.byContradiction fun hc => ?_
    obtain ⟨k, hk⟩ := one_bound (o := o) (t := 1 - s) (u := 1 - s) (o s v) fun q q1 => by
      refine Classical.byContradiction fun h => hc ⟨q, q1, fun j ej => h ⟨j, ej⟩⟩
    exact D_lose hk (hn _)
end SV


set_option Elab.async false
set_option linter.all false
set_option maxRecDepth 100000
set_option maxHeartbeats 4000000
namespace K74D
open PySem L2 TG DL K74 GM SV
section
variable {P : Program} {w : World} {K : PySem.W.Frag} {mg : Str → Option Value} {base : Heap}
def wonBy (s : Nat) : Option (Nat × Nat) → Option Nat
  | some (w, j) => if w = s then some j else none
  | none => none
theorem wD_two (x : Option (Nat × Nat)) : wD x = .tuple [.str (wordO x), match x with | none => .none | some p => .int p.2] := by
  cases x <;> rfl
theorem word_at {s : Nat} (hs : s < 2) : ∃ c, atI (Str.ofString "LR").cps.toList (s : Int) = some c ∧ ({ cps := #[c] } : Str) = wordS s := by
  have : s = 0 ∨ s = 1 := by omega
  rcases this with rfl | rfl
  · exact ⟨_, rfl, by decide +kernel⟩
  · exact ⟨_, rfl, by decide +kernel⟩
theorem wordO_eq {x : Option (Nat × Nat)} {s : Nat} (hs : s < 2) (hx : ∀ w j, x = some (w, j) → w < 2) : (wordO x = wordS s) ↔ ∃ j, x = some (s, j) := by
  have a : wordS 0 ≠ wordS 1 := by decide +kernel
  have b : Str.ofString "draw" ≠ wordS 0 := by decide +kernel
  have c : Str.ofString "draw" ≠ wordS 1 := by decide +kernel
  have : s = 0 ∨ s = 1 := by omega
  cases x with
  | none => rcases this with rfl | rfl <;> simp [wordO, b, c]
  | some p =>
    obtain ⟨w, j⟩ := p
    have hw := hx w j rfl
    have : w = 0 ∨ w = 1 := by omega
    have a' : wordS 1 ≠ wordS 0 := fun h => a h.symm
    rcases this with rfl | rfl <;> rcases ‹s = 0 ∨ s = 1› with rfl | rfl <;> simp [wordO, a, a']
def F_due_at : FSp := fun args P => ∃ (L R : List (List Nat)) (f : Nat → Nat → Option (Nat × Nat)) (v s : Nat), args = [some (.dat (grD L R)), some (.dat (solD L.length f)), some (.dat (.int v)), some (.dat (.int s))] ∧ GrOk L R ∧ v < L.length ∧ s < 2 ∧ Win2 L.length f ∧ ∀ x, IsDue (op L R) f s v x → P (.dat (wD x)) [none, none, none, none]
theorem ok_due_at {k : Nat} (T : Txt K mg)  : FnOk P w K mg base CX0 (k + 1) T.a_due_at T.d_due_at ["graph", "value", "node", "side"] (spD K F_due_at) := by
  refine (fun (hA : ∀ args P, F_due_at args P → args.length = 4) => T.F_due_at.ok (sp := spD K F_due_at) sc_due_at (fun vs H Q E h => spD_len hA h) (fun cdv A outer s H vs Q E hr h => ⟨_, (pss_cons (ps_asg (pe_tup (pa_cons (pe_ix ix_str (pe_glob (v := .str "LR") rfl T.c_PLAYERS ⟨_, rfl⟩) (pv 3) (fun _ _ => rfl)) (pa_cons (pe_ix ix_str (pe_glob (v := .str "LR") rfl T.c_PLAYERS ⟨_, rfl⟩) (pe_op op_sub pe_int (pv 3)) (fun _ _ => rfl)) pa_nil))) (pg_tupK (K := K) (n := 2) rfl rfl (pgs_cons (pg_name (i := 4) sc_due_at.nd rfl (Or.inr rfl)) (pgs_cons (pg_name (i := 5) sc_due_at.nd rfl (Or.inr rfl)) pgs_nil))))
  (pss_cons (ps_setLc (i := 6) (own := [("goal", 8)]) rfl sc_due_at.nd rfl rfl (sw_true rfl rfl rfl (by decide +kernel)) (pi_tupK (K := K) rfl (pe_ix (ix_tupK (K := K) rfl) (pe_ix (ix_tupK (K := K) rfl) (pv 0) (pv 3) (fun _ _ => rfl)) (pv 2) (fun _ _ => rfl))) (blkOk_by (N := ["graph", "value", "node", "side", "mine", "other", "told", "won", "goal", "word", "length"]) (sc := defScope s_due_at) (by decide +kernel)) (fun _ _ _ _ _ => (pg_name (i := 8) sc_due_at.nd rfl (Or.inl rfl))) (fun _ _ _ _ _ => pts_nil) (fun _ _ _ _ _ => (pe_ix (ix_tupK (K := K) rfl) (pe_ix (ix_tupK (K := K) rfl) (pv 1) (pv 8) (fun _ _ => rfl)) (pe_op op_sub pe_int (pv 3)) (fun _ _ => rfl))))
  (pss_cons (ps_setLc (i := 7) (own := [("word", 9), ("length", 10)]) rfl sc_due_at.nd rfl rfl (sw_true rfl rfl rfl (by decide +kernel)) (pi_listK (K := K) rfl (pv 6)) (blkOk_by (N := ["graph", "value", "node", "side", "mine", "other", "told", "won", "goal", "word", "length"]) (sc := defScope s_due_at) (by decide +kernel)) (fun _ _ _ _ _ => (pg_tupK (K := K) (n := 2) rfl rfl (pgs_cons (pg_name (i := 9) sc_due_at.nd rfl (Or.inl rfl)) (pgs_cons (pg_name (i := 10) sc_due_at.nd rfl (Or.inl rfl)) pgs_nil)))) (fun _ _ _ _ _ => (pts_one (pt_cmpR (op_eqDK (K := K) rfl hr.units) (pv 9) (pv 4) (nomark _)))) (fun _ _ _ _ _ => (pv 10)))
  (pss_cons (ps_if (pt_cmpR (op_neDK (K := K) rfl hr.units) (pv 7) (pe_lst pa_nil) (nomark _))
  (pss_one (ps_ret (pe_tup (pa_cons (pv 4) (pa_cons (pe_op op_add pe_int (pe_callB (cr_minK (K := K) rfl rfl) rfl T.m_min (by decide +kernel) (pa_cons (pv 7) pa_nil))) pa_nil)))))
  pss_nil)
  (pss_cons (ps_if (pt_val (pe_callB (cr_allK (K := K) rfl rfl) rfl T.m_all (by decide +kernel) (pa_cons (pe_lc (own := [("word", 9), ("length", 10)]) rfl sc_due_at.nd (pi_listK (K := K) rfl (pv 6)) (blkOk_by (N := ["graph", "value", "node", "side", "mine", "other", "told", "won", "goal", "word", "length"]) (sc := defScope s_due_at) (by decide +kernel)) (fun _ _ _ _ _ => (pg_tupK (K := K) (n := 2) rfl rfl (pgs_cons (pg_name (i := 9) sc_due_at.nd rfl (Or.inl rfl)) (pgs_cons (pg_name (i := 10) sc_due_at.nd rfl (Or.inl rfl)) pgs_nil)))) (fun _ _ _ _ _ => pts_nil) (fun _ _ _ _ _ => (pe_cmpR (op_eqDK (K := K) rfl hr.units) (pv 9) (pv 5) (nomark _)))) pa_nil)))
  (pss_one (ps_ret (pe_tup (pa_cons (pv 5) (pa_cons (pe_callB (cr_maxK (K := K) rfl rfl) rfl T.m_max (by decide +kernel) (pa_cons (pe_op (op_catQ (K := K) rfl) (pe_lst (pa_cons pe_int pa_nil)) (pe_lc (own := [("word", 9), ("length", 10)]) rfl sc_due_at.nd (pi_listK (K := K) rfl (pv 6)) (blkOk_by (N := ["graph", "value", "node", "side", "mine", "other", "told", "won", "goal", "word", "length"]) (sc := defScope s_due_at) (by decide +kernel)) (fun _ _ _ _ _ => (pg_tupK (K := K) (n := 2) rfl rfl (pgs_cons (pg_name (i := 9) sc_due_at.nd rfl (Or.inl rfl)) (pgs_cons (pg_name (i := 10) sc_due_at.nd rfl (Or.inl rfl)) pgs_nil)))) (fun _ _ _ _ _ => pts_nil) (fun _ _ _ _ _ => (pe_op op_add pe_int (pv 10))))) pa_nil)) pa_nil)))))
  pss_nil)
  (pss_one (ps_ret (pe_tup (pa_cons (pe_glob (v := .str "draw") rfl T.c_DRAW ⟨_, rfl⟩) (pa_cons pe_non pa_nil)))))))))), fn_run (N := ["graph", "value", "node", "side", "mine", "other", "told", "won", "goal", "word", "length"]) h (fun A' Hz' => (ss_seq (ss_parT (by decide) (se_op sr_ixS se_str se_var) (se_op sr_ixS se_str (se_op (sr_I0 (fun _ _ => rfl)) se_int se_var)))
  (ss_seq (ss_asg (se_lc (si_tup (se_op sr_ixT (se_op sr_ixT se_var se_var) se_var)) sg_name st_yes (se_op sr_ixT (se_op sr_ixT se_var se_var) (se_op (sr_I0 (fun _ _ => rfl)) se_int se_var)) (by decide)) sg_name)
  (ss_seq (ss_asg (se_lc (si_list se_var) (sg_tup (sgs_cons sg_name (sgs_cons sg_name sgs_nil))) (st_test (se_op sr_eqD se_var se_var)) se_var (by decide)) sg_name)
  (ss_seq (ss_if (st_test (se_op sr_neD se_var (se_lst sa_nil)))
  (ss_ret (se_tup (sa_cons se_var (sa_cons (se_op (sr_I0 (fun _ _ => rfl)) se_int (se_cb1 sc_min se_var)) sa_nil))))
  ss_next)
  (ss_seq (ss_if (st_B (se_cb1 sc_all (se_lc (si_list se_var) (sg_tup (sgs_cons sg_name (sgs_cons sg_name sgs_nil))) st_yes (se_op sr_eqD se_var se_var) (by decide))))
  (ss_ret (se_tup (sa_cons se_var (sa_cons (se_cb1 sc_max (se_op sr_cat (se_lst (sa_cons se_int sa_nil)) (se_lc (si_list se_var) (sg_tup (sgs_cons sg_name (sgs_cons sg_name sgs_nil))) st_yes (se_op (sr_I0 (fun _ _ => rfl)) se_int se_var) (by decide)))) sa_nil))))
  ss_next)
  (ss_ret (se_tup (sa_cons se_str (sa_cons se_non sa_nil)))))))))) (fun args P hl hF => ?_) (by rw [spD_len hA h]; exact Nat.le_of_ble_eq_true rfl)⟩)) (fun args P hF => ?_)
  rotate_left
  · obtain ⟨L, R, f, v, s, rfl, _⟩ := hF
    rfl
  obtain ⟨L, R, f, v, s, rfl, hok, hv, hs, h2, q⟩ := hF
  have hgr : grD L R = .tuple [rowsD L, rowsD R] := rfl
  obtain ⟨c1, hc1, ec1⟩ := word_at hs
  obtain ⟨c2, hc2, ec2⟩ := word_at (s := 1 - s) (by omega)
  have es : (1 - (s : Int)) = ((1 - s : Nat) : Int) := by omega
  simp -implicitDefEqProofs only [DL.WW, List.isEmpty_nil, List.lookup_cons, List.lookup_nil, List.map, List.length, List.length_cons, List.length_nil, List.length_set, List.replicate, List.append, List.cons_append, List.nil_append, List.append_nil, List.getElem?_cons_zero, List.getElem?_cons_succ, List.getElem?_nil, List.set_cons_zero, List.set_cons_succ, ↓reduceIte, Bool.false_eq_true, Bool.not_true, Bool.not_false, Bool.true_and, Bool.false_and, Bool.and_true, Bool.and_false, Bool.or_true, Bool.or_false, Bool.true_or, Bool.false_or, Nat.reduceAdd, Nat.reduceSub, Nat.reduceLT, Nat.reduceLeDiff, true_and, and_true, and_self, decide_eq_true_eq, Nat.zero_lt_succ, Nat.lt_add_left_iff_pos, beq_self_eq_true, String.reduceBEq, String.reduceEq, Nat.le_refl, Nat.zero_le, Bool.true_eq_false, decide_true, decide_false, Int.reduceEq, Int.reduceLT, Int.reduceLE, Int.reduceSub, Int.reduceAdd, hgr, es, hc1, hc2, ec1, ec2]
  refine ⟨by decide, by decide, ?_⟩
  have hS : ∃ S : List (List Nat), atI [rowsD L, rowsD R] (s : Int) = some (rowsD S) ∧ S.length = L.length ∧ (∀ r ∈ S, OkRow L.length r) ∧ op L R s v = row S v := by
    have : s = 0 ∨ s = 1 := by omega
    rcases this with rfl | rfl
    · exact ⟨L, rfl, rfl, hok.2.2.2.1, rfl⟩
    · exact ⟨R, rfl, hok.1.symm, hok.2.2.2.2, rfl⟩
  obtain ⟨S, hS1, hS2, hS3, hS4⟩ := hS
  have hvS : v < S.length := by omega
  have hrow : atI (S.map rowD) (v : Int) = some (rowD (row S v)) := atI_nat (by rw [List.getElem?_map, List.getElem?_eq_getElem hvS]; show _ = some (rowD (S.getD v [])); rw [List.getD_eq_getElem?_getD, List.getElem?_eq_getElem hvS]; rfl)
  have hin : row S v ∈ S := by
    show S.getD v [] ∈ S
    rw [List.getD_eq_getElem?_getD, List.getElem?_eq_getElem hvS]
    exact List.getElem_mem hvS
  obtain ⟨ok1, ok2, ok3⟩ := hS3 _ hin
  rw [← hS4] at hrow ok1 ok2 ok3
  have h60 := hok.2.2.1
  generalize hrw : op L R s v = r at *
  have hrD : rowsD S = .tuple (S.map rowD) := rfl
  have hr2 : rowD r = .tuple (r.map fun n : Nat => .int n) := rfl
  have hsol : solD L.length f = .tuple ((List.range L.length).map (pairD f)) := rfl
  refine lc_use ?_
  simp -implicitDefEqProofs only [DL.WW, List.isEmpty_nil, List.lookup_cons, List.lookup_nil, List.map, List.length, List.length_cons, List.length_nil, List.length_set, List.replicate, List.append, List.cons_append, List.nil_append, List.append_nil, List.getElem?_cons_zero, List.getElem?_cons_succ, List.getElem?_nil, List.set_cons_zero, List.set_cons_succ, ↓reduceIte, Bool.false_eq_true, Bool.not_true, Bool.not_false, Bool.true_and, Bool.false_and, Bool.and_true, Bool.and_false, Bool.or_true, Bool.or_false, Bool.true_or, Bool.false_or, Nat.reduceAdd, Nat.reduceSub, Nat.reduceLT, Nat.reduceLeDiff, true_and, and_true, and_self, decide_eq_true_eq, Nat.zero_lt_succ, Nat.lt_add_left_iff_pos, beq_self_eq_true, String.reduceBEq, String.reduceEq, Nat.le_refl, Nat.zero_le, Bool.true_eq_false, decide_true, decide_false, Int.reduceEq, Int.reduceLT, Int.reduceLE, Int.reduceSub, Int.reduceAdd, hS1, hrD, hrow, hr2]
  refine lc_acc (fun j => (r.take j).map fun q => wD (f (1 - s) q)) rfl rfl (fun j hj => ?_) (fun j d hd => ?_) ?_
  · simp at hj ⊢
    omega
  · obtain ⟨x, hx, rfl⟩ := map_get hd
    have hx2 := ok2 x (List.mem_of_getElem? hx)
    have e1 : atI ((List.range L.length).map (pairD f)) (x : Int) = some (pairD f x) := atI_nat (by rw [List.getElem?_map, List.getElem?_range hx2]; rfl)
    have e2 : pairD f x = .tuple [wD (f 0 x), wD (f 1 x)] := rfl
    have e3 : atI [wD (f 0 x), wD (f 1 x)] ((1 - s : Nat) : Int) = some (wD (f (1 - s) x)) := by
      have : s = 0 ∨ s = 1 := by omega
      rcases this with rfl | rfl <;> rfl
    simp -implicitDefEqProofs only [DL.WW, List.isEmpty_nil, List.lookup_cons, List.lookup_nil, List.map, List.length, List.length_cons, List.length_nil, List.length_set, List.replicate, List.append, List.cons_append, List.nil_append, List.append_nil, List.getElem?_cons_zero, List.getElem?_cons_succ, List.getElem?_nil, List.set_cons_zero, List.set_cons_succ, ↓reduceIte, Bool.false_eq_true, Bool.not_true, Bool.not_false, Bool.true_and, Bool.false_and, Bool.and_true, Bool.and_false, Bool.or_true, Bool.or_false, Bool.true_or, Bool.false_or, Nat.reduceAdd, Nat.reduceSub, Nat.reduceLT, Nat.reduceLeDiff, true_and, and_true, and_self, decide_eq_true_eq, Nat.zero_lt_succ, Nat.lt_add_left_iff_pos, beq_self_eq_true, String.reduceBEq, String.reduceEq, Nat.le_refl, Nat.zero_le, Bool.true_eq_false, decide_true, decide_false, Int.reduceEq, Int.reduceLT, Int.reduceLE, Int.reduceSub, Int.reduceAdd, hsol, e1, e2, es, e3]
    rw [List.take_add_one, hx, List.map_append]
    rfl
  simp -implicitDefEqProofs only [DL.WW, List.isEmpty_nil, List.lookup_cons, List.lookup_nil, List.map, List.length, List.length_cons, List.length_nil, List.length_set, List.replicate, List.append, List.cons_append, List.nil_append, List.append_nil, List.getElem?_cons_zero, List.getElem?_cons_succ, List.getElem?_nil, List.set_cons_zero, List.set_cons_succ, ↓reduceIte, Bool.false_eq_true, Bool.not_true, Bool.not_false, Bool.true_and, Bool.false_and, Bool.and_true, Bool.and_false, Bool.or_true, Bool.or_false, Bool.true_or, Bool.false_or, Nat.reduceAdd, Nat.reduceSub, Nat.reduceLT, Nat.reduceLeDiff, true_and, and_true, and_self, decide_eq_true_eq, Nat.zero_lt_succ, Nat.lt_add_left_iff_pos, beq_self_eq_true, String.reduceBEq, String.reduceEq, Nat.le_refl, Nat.zero_le, Bool.true_eq_false, decide_true, decide_false, Int.reduceEq, Int.reduceLT, Int.reduceLE, Int.reduceSub, Int.reduceAdd, List.length_map]
  have eT : (List.take r.length r).map (fun q => wD (f (1 - s) q)) = (r.map (f (1 - s))).map wD := by
    rw [List.take_length, List.map_map]
    rfl
  rw [eT]
  have hT2 : ∀ x ∈ r.map (f (1 - s)), ∀ w j, x = some (w, j) → w < 2 := fun x hx w j e => by
    obtain ⟨y, hy, rfl⟩ := List.mem_map.mp hx
    exact h2 _ _ _ _ (by omega) (ok2 y hy) e
  have hTl : (r.map (f (1 - s))).length ≤ 60 := by rw [List.length_map]; exact ok3
  have hTm : ∀ x, x ∈ r.map (f (1 - s)) ↔ ∃ y ∈ r, f (1 - s) y = x := fun x => List.mem_map
  generalize r.map (f (1 - s)) = Tl at hT2 hTl hTm ⊢
  have sw : ∀ x, PyData.strOk (wordO x) = true := fun x => by
    cases x with
    | none => decide +kernel
    | some p =>
      unfold wordO wordS
      dsimp only
      split <;> decide +kernel
  have sw2 : ∀ t, PyData.strOk (wordS t) = true := fun t => by
    unfold wordS
    split <;> decide +kernel
  refine lc_use ?_
  simp -implicitDefEqProofs only [DL.WW, List.isEmpty_nil, List.lookup_cons, List.lookup_nil, List.map, List.length, List.length_cons, List.length_nil, List.length_set, List.replicate, List.append, List.cons_append, List.nil_append, List.append_nil, List.getElem?_cons_zero, List.getElem?_cons_succ, List.getElem?_nil, List.set_cons_zero, List.set_cons_succ, ↓reduceIte, Bool.false_eq_true, Bool.not_true, Bool.not_false, Bool.true_and, Bool.false_and, Bool.and_true, Bool.and_false, Bool.or_true, Bool.or_false, Bool.true_or, Bool.false_or, Nat.reduceAdd, Nat.reduceSub, Nat.reduceLT, Nat.reduceLeDiff, true_and, and_true, and_self, decide_eq_true_eq, Nat.zero_lt_succ, Nat.lt_add_left_iff_pos, beq_self_eq_true, String.reduceBEq, String.reduceEq, Nat.le_refl, Nat.zero_le, Bool.true_eq_false, decide_true, decide_false, Int.reduceEq, Int.reduceLT, Int.reduceLE, Int.reduceSub, Int.reduceAdd, List.length_map]
  refine lc_acc (fun j => (((Tl.take j).filterMap (wonBy s)).map fun n : Nat => (n : Int)).map PyData.int) rfl rfl (fun j hj => ?_) (fun j d hd => ?_) ?_
  · rw [List.length_map, List.length_map]
    have := List.length_filterMap_le (wonBy s) (Tl.take j)
    rw [List.length_take] at this
    omega
  · obtain ⟨x, hx, rfl⟩ := map_get hd
    have hxm := List.mem_of_getElem? hx
    have ew := wordO_eq hs (hT2 x hxm)
    rw [wD_two]
    simp -implicitDefEqProofs only [DL.WW, List.isEmpty_nil, List.lookup_cons, List.lookup_nil, List.map, List.length, List.length_cons, List.length_nil, List.length_set, List.replicate, List.append, List.cons_append, List.nil_append, List.append_nil, List.getElem?_cons_zero, List.getElem?_cons_succ, List.getElem?_nil, List.set_cons_zero, List.set_cons_succ, ↓reduceIte, Bool.false_eq_true, Bool.not_true, Bool.not_false, Bool.true_and, Bool.false_and, Bool.and_true, Bool.and_false, Bool.or_true, Bool.or_false, Bool.true_or, Bool.false_or, Nat.reduceAdd, Nat.reduceSub, Nat.reduceLT, Nat.reduceLeDiff, true_and, and_true, and_self, decide_eq_true_eq, Nat.zero_lt_succ, Nat.lt_add_left_iff_pos, beq_self_eq_true, String.reduceBEq, String.reduceEq, Nat.le_refl, Nat.zero_le, Bool.true_eq_false, decide_true, decide_false, Int.reduceEq, Int.reduceLT, Int.reduceLE, Int.reduceSub, Int.reduceAdd]
    refine ⟨sw _, sw2 _, ?_⟩
    have et : (Tl.take (j + 1)).filterMap (wonBy s) = (Tl.take j).filterMap (wonBy s) ++ (wonBy s x).toList := by
      rw [List.take_add_one, hx, List.filterMap_append]
      cases h : wonBy s x <;> simp [List.filterMap, h]
    rw [et]
    by_cases c : wordO x = wordS s
    · obtain ⟨l, rfl⟩ := ew.mp c
      have e0 : wonBy s (some (s, l)) = some l := if_pos rfl
      simp -implicitDefEqProofs only [DL.WW, List.isEmpty_nil, List.lookup_cons, List.lookup_nil, List.map, List.length, List.length_cons, List.length_nil, List.length_set, List.replicate, List.append, List.cons_append, List.nil_append, List.append_nil, List.getElem?_cons_zero, List.getElem?_cons_succ, List.getElem?_nil, List.set_cons_zero, List.set_cons_succ, ↓reduceIte, Bool.false_eq_true, Bool.not_true, Bool.not_false, Bool.true_and, Bool.false_and, Bool.and_true, Bool.and_false, Bool.or_true, Bool.or_false, Bool.true_or, Bool.false_or, Nat.reduceAdd, Nat.reduceSub, Nat.reduceLT, Nat.reduceLeDiff, true_and, and_true, and_self, decide_eq_true_eq, Nat.zero_lt_succ, Nat.lt_add_left_iff_pos, beq_self_eq_true, String.reduceBEq, String.reduceEq, Nat.le_refl, Nat.zero_le, Bool.true_eq_false, decide_true, decide_false, Int.reduceEq, Int.reduceLT, Int.reduceLE, Int.reduceSub, Int.reduceAdd, c, e0, decide_true, if_true]
      rw [List.map_append, List.map_append]
      rfl
    · have e0 : wonBy s x = none := by
        cases x with
        | none => rfl
        | some p =>
          obtain ⟨w', l⟩ := p
          refine if_neg ?_
          rintro rfl
          exact c (ew.mpr ⟨l, rfl⟩)
      simp -implicitDefEqProofs only [DL.WW, List.isEmpty_nil, List.lookup_cons, List.lookup_nil, List.map, List.length, List.length_cons, List.length_nil, List.length_set, List.replicate, List.append, List.cons_append, List.nil_append, List.append_nil, List.getElem?_cons_zero, List.getElem?_cons_succ, List.getElem?_nil, List.set_cons_zero, List.set_cons_succ, ↓reduceIte, Bool.false_eq_true, Bool.not_true, Bool.not_false, Bool.true_and, Bool.false_and, Bool.and_true, Bool.and_false, Bool.or_true, Bool.or_false, Bool.true_or, Bool.false_or, Nat.reduceAdd, Nat.reduceSub, Nat.reduceLT, Nat.reduceLeDiff, true_and, and_true, and_self, decide_eq_true_eq, Nat.zero_lt_succ, Nat.lt_add_left_iff_pos, beq_self_eq_true, String.reduceBEq, String.reduceEq, Nat.le_refl, Nat.zero_le, Bool.true_eq_false, decide_true, decide_false, Int.reduceEq, Int.reduceLT, Int.reduceLE, Int.reduceSub, Int.reduceAdd, c, e0, decide_false, Bool.false_eq_true, if_false]
      simp
  simp -implicitDefEqProofs only [DL.WW, List.isEmpty_nil, List.lookup_cons, List.lookup_nil, List.map, List.length, List.length_cons, List.length_nil, List.length_set, List.replicate, List.append, List.cons_append, List.nil_append, List.append_nil, List.getElem?_cons_zero, List.getElem?_cons_succ, List.getElem?_nil, List.set_cons_zero, List.set_cons_succ, ↓reduceIte, Bool.false_eq_true, Bool.not_true, Bool.not_false, Bool.true_and, Bool.false_and, Bool.and_true, Bool.and_false, Bool.or_true, Bool.or_false, Bool.true_or, Bool.false_or, Nat.reduceAdd, Nat.reduceSub, Nat.reduceLT, Nat.reduceLeDiff, true_and, and_true, and_self, decide_eq_true_eq, Nat.zero_lt_succ, Nat.lt_add_left_iff_pos, beq_self_eq_true, String.reduceBEq, String.reduceEq, Nat.le_refl, Nat.zero_le, Bool.true_eq_false, decide_true, decide_false, Int.reduceEq, Int.reduceLT, Int.reduceLE, Int.reduceSub, Int.reduceAdd, List.length_map]
  rw [List.take_length]
  have hW : ∀ j, j ∈ Tl.filterMap (wonBy s) ↔ some (s, j) ∈ Tl := fun j => by
    rw [List.mem_filterMap]
    constructor
    · rintro ⟨x, hx, e⟩
      cases x with
      | none => cases e
      | some p =>
        obtain ⟨w', l⟩ := p
        have e' : (if w' = s then some l else none) = some j := e
        split at e'
        · next c =>
          subst c
          cases e'
          exact hx
        · cases e'
    · exact fun h => ⟨_, h, if_pos rfl⟩
  have hWl : (Tl.filterMap (wonBy s)).length ≤ 60 := Nat.le_trans (List.length_filterMap_le _ _) hTl
  generalize Tl.filterMap (wonBy s) = W at hW hWl ⊢
  refine ⟨(Fine.lst (m := 0) (by rw [List.length_map, List.length_map]; omega) fun d hd => by
    obtain ⟨x, _, rfl⟩ := List.mem_map.mp hd
    exact .int _).ok (by decide), ?_⟩
  cases W with
  | cons x0 W =>
    rw [if_pos (show (!(List.map PyData.int (List.map (fun n : Nat => (n : Int)) (x0 :: W))).isEmpty) = true from rfl), intsD_map]
    simp -implicitDefEqProofs only [DL.WW, List.isEmpty_nil, List.lookup_cons, List.lookup_nil, List.map, List.length, List.length_cons, List.length_nil, List.length_set, List.replicate, List.append, List.cons_append, List.nil_append, List.append_nil, List.getElem?_cons_zero, List.getElem?_cons_succ, List.getElem?_nil, List.set_cons_zero, List.set_cons_succ, ↓reduceIte, Bool.false_eq_true, Bool.not_true, Bool.not_false, Bool.true_and, Bool.false_and, Bool.and_true, Bool.and_false, Bool.or_true, Bool.or_false, Bool.true_or, Bool.false_or, Nat.reduceAdd, Nat.reduceSub, Nat.reduceLT, Nat.reduceLeDiff, true_and, and_true, and_self, decide_eq_true_eq, Nat.zero_lt_succ, Nat.lt_add_left_iff_pos, beq_self_eq_true, String.reduceBEq, String.reduceEq, Nat.le_refl, Nat.zero_le, Bool.true_eq_false, decide_true, decide_false, Int.reduceEq, Int.reduceLT, Int.reduceLE, Int.reduceSub, Int.reduceAdd]
    intro m hm hmin
    rw [← List.map_cons] at hm hmin
    obtain ⟨m', hm', rfl⟩ := List.mem_map.mp hm
    have em : (1 : Int) + (m' : Int) = ((1 + m' : Nat) : Int) := by omega
    rw [em]
    refine q (some (s, 1 + m')) (.inl ⟨m', rfl, ?_, fun y hy j ej => ?_⟩)
    · rw [hrw]
      exact (hTm _).mp ((hW _).mp hm')
    · rw [hrw] at hy
      have := hmin _ (List.mem_map_of_mem (f := fun n : Nat => (n : Int)) ((hW j).mpr ((hTm _).mpr ⟨y, hy, ej⟩)))
      omega
  | nil =>
    rw [if_neg (by simp)]
    have hno : ∀ j, some (s, j) ∉ Tl := fun j h => by
      have := (hW j).mpr h
      cases this
    refine lc_use ?_
    simp -implicitDefEqProofs only [DL.WW, List.isEmpty_nil, List.lookup_cons, List.lookup_nil, List.map, List.length, List.length_cons, List.length_nil, List.length_set, List.replicate, List.append, List.cons_append, List.nil_append, List.append_nil, List.getElem?_cons_zero, List.getElem?_cons_succ, List.getElem?_nil, List.set_cons_zero, List.set_cons_succ, ↓reduceIte, Bool.false_eq_true, Bool.not_true, Bool.not_false, Bool.true_and, Bool.false_and, Bool.and_true, Bool.and_false, Bool.or_true, Bool.or_false, Bool.true_or, Bool.false_or, Nat.reduceAdd, Nat.reduceSub, Nat.reduceLT, Nat.reduceLeDiff, true_and, and_true, and_self, decide_eq_true_eq, Nat.zero_lt_succ, Nat.lt_add_left_iff_pos, beq_self_eq_true, String.reduceBEq, String.reduceEq, Nat.le_refl, Nat.zero_le, Bool.true_eq_false, decide_true, decide_false, Int.reduceEq, Int.reduceLT, Int.reduceLE, Int.reduceSub, Int.reduceAdd, List.length_map]
    refine lc_acc (fun j => ((Tl.take j).map fun x => decide (wordO x = wordS (1 - s))).map PyData.bool) rfl rfl (fun j hj => ?_) (fun j d hd => ?_) ?_
    · rw [List.length_map, List.length_map, List.length_take]
      omega
    · obtain ⟨x, hx, rfl⟩ := map_get hd
      rw [wD_two]
      simp -implicitDefEqProofs only [DL.WW, List.isEmpty_nil, List.lookup_cons, List.lookup_nil, List.map, List.length, List.length_cons, List.length_nil, List.length_set, List.replicate, List.append, List.cons_append, List.nil_append, List.append_nil, List.getElem?_cons_zero, List.getElem?_cons_succ, List.getElem?_nil, List.set_cons_zero, List.set_cons_succ, ↓reduceIte, Bool.false_eq_true, Bool.not_true, Bool.not_false, Bool.true_and, Bool.false_and, Bool.and_true, Bool.and_false, Bool.or_true, Bool.or_false, Bool.true_or, Bool.false_or, Nat.reduceAdd, Nat.reduceSub, Nat.reduceLT, Nat.reduceLeDiff, true_and, and_true, and_self, decide_eq_true_eq, Nat.zero_lt_succ, Nat.lt_add_left_iff_pos, beq_self_eq_true, String.reduceBEq, String.reduceEq, Nat.le_refl, Nat.zero_le, Bool.true_eq_false, decide_true, decide_false, Int.reduceEq, Int.reduceLT, Int.reduceLE, Int.reduceSub, Int.reduceAdd]
      refine ⟨sw _, sw2 _, ?_⟩
      rw [List.take_add_one, hx, List.map_append, List.map_append]
      rfl
    simp -implicitDefEqProofs only [DL.WW, List.isEmpty_nil, List.lookup_cons, List.lookup_nil, List.map, List.length, List.length_cons, List.length_nil, List.length_set, List.replicate, List.append, List.cons_append, List.nil_append, List.append_nil, List.getElem?_cons_zero, List.getElem?_cons_succ, List.getElem?_nil, List.set_cons_zero, List.set_cons_succ, ↓reduceIte, Bool.false_eq_true, Bool.not_true, Bool.not_false, Bool.true_and, Bool.false_and, Bool.and_true, Bool.and_false, Bool.or_true, Bool.or_false, Bool.true_or, Bool.false_or, Nat.reduceAdd, Nat.reduceSub, Nat.reduceLT, Nat.reduceLeDiff, true_and, and_true, and_self, decide_eq_true_eq, Nat.zero_lt_succ, Nat.lt_add_left_iff_pos, beq_self_eq_true, String.reduceBEq, String.reduceEq, Nat.le_refl, Nat.zero_le, Bool.true_eq_false, decide_true, decide_false, Int.reduceEq, Int.reduceLT, Int.reduceLE, Int.reduceSub, Int.reduceAdd, List.length_map, List.take_length, boolsD_map]
    have hall : ((Tl.map fun x => decide (wordO x = wordS (1 - s))).all id = true) ↔ ∀ x ∈ Tl, ∃ j, x = some (1 - s, j) := by
      rw [List.all_eq_true]
      constructor
      · intro h x hx
        exact (wordO_eq (by omega) (hT2 x hx)).mp (by simpa using h _ (List.mem_map_of_mem hx))
      · intro h b hb
        obtain ⟨x, hx, rfl⟩ := List.mem_map.mp hb
        simpa using (wordO_eq (by omega) (hT2 x hx)).mpr (h x hx)
    by_cases ca : ∀ x ∈ Tl, ∃ j, x = some (1 - s, j)
    · rw [if_pos (hall.mpr ca)]
      refine lc_use ?_
      simp -implicitDefEqProofs only [DL.WW, List.isEmpty_nil, List.lookup_cons, List.lookup_nil, List.map, List.length, List.length_cons, List.length_nil, List.length_set, List.replicate, List.append, List.cons_append, List.nil_append, List.append_nil, List.getElem?_cons_zero, List.getElem?_cons_succ, List.getElem?_nil, List.set_cons_zero, List.set_cons_succ, ↓reduceIte, Bool.false_eq_true, Bool.not_true, Bool.not_false, Bool.true_and, Bool.false_and, Bool.and_true, Bool.and_false, Bool.or_true, Bool.or_false, Bool.true_or, Bool.false_or, Nat.reduceAdd, Nat.reduceSub, Nat.reduceLT, Nat.reduceLeDiff, true_and, and_true, and_self, decide_eq_true_eq, Nat.zero_lt_succ, Nat.lt_add_left_iff_pos, beq_self_eq_true, String.reduceBEq, String.reduceEq, Nat.le_refl, Nat.zero_le, Bool.true_eq_false, decide_true, decide_false, Int.reduceEq, Int.reduceLT, Int.reduceLE, Int.reduceSub, Int.reduceAdd, List.length_map]
      refine lc_acc (fun j => ((Tl.take j).map fun x : Option (Nat × Nat) => (1 : Int) + ((x.map (·.2)).getD 0 : Nat)).map PyData.int) rfl rfl (fun j hj => ?_) (fun j d hd => ?_) ?_
      · rw [List.length_map, List.length_map, List.length_take]
        omega
      · obtain ⟨x, hx, rfl⟩ := map_get hd
        obtain ⟨l, rfl⟩ := ca x (List.mem_of_getElem? hx)
        have e0 : wD (some (1 - s, l)) = .tuple [.str (wordS (1 - s)), .int l] := rfl
        simp -implicitDefEqProofs only [DL.WW, List.isEmpty_nil, List.lookup_cons, List.lookup_nil, List.map, List.length, List.length_cons, List.length_nil, List.length_set, List.replicate, List.append, List.cons_append, List.nil_append, List.append_nil, List.getElem?_cons_zero, List.getElem?_cons_succ, List.getElem?_nil, List.set_cons_zero, List.set_cons_succ, ↓reduceIte, Bool.false_eq_true, Bool.not_true, Bool.not_false, Bool.true_and, Bool.false_and, Bool.and_true, Bool.and_false, Bool.or_true, Bool.or_false, Bool.true_or, Bool.false_or, Nat.reduceAdd, Nat.reduceSub, Nat.reduceLT, Nat.reduceLeDiff, true_and, and_true, and_self, decide_eq_true_eq, Nat.zero_lt_succ, Nat.lt_add_left_iff_pos, beq_self_eq_true, String.reduceBEq, String.reduceEq, Nat.le_refl, Nat.zero_le, Bool.true_eq_false, decide_true, decide_false, Int.reduceEq, Int.reduceLT, Int.reduceLE, Int.reduceSub, Int.reduceAdd, e0]
        rw [List.take_add_one, hx, List.map_append, List.map_append]
        rfl
      simp -implicitDefEqProofs only [DL.WW, List.isEmpty_nil, List.lookup_cons, List.lookup_nil, List.map, List.length, List.length_cons, List.length_nil, List.length_set, List.replicate, List.append, List.cons_append, List.nil_append, List.append_nil, List.getElem?_cons_zero, List.getElem?_cons_succ, List.getElem?_nil, List.set_cons_zero, List.set_cons_succ, ↓reduceIte, Bool.false_eq_true, Bool.not_true, Bool.not_false, Bool.true_and, Bool.false_and, Bool.and_true, Bool.and_false, Bool.or_true, Bool.or_false, Bool.true_or, Bool.false_or, Nat.reduceAdd, Nat.reduceSub, Nat.reduceLT, Nat.reduceLeDiff, true_and, and_true, and_self, decide_eq_true_eq, Nat.zero_lt_succ, Nat.lt_add_left_iff_pos, beq_self_eq_true, String.reduceBEq, String.reduceEq, Nat.le_refl, Nat.zero_le, Bool.true_eq_false, decide_true, decide_false, Int.reduceEq, Int.reduceLT, Int.reduceLE, Int.reduceSub, Int.reduceAdd, List.length_map, List.take_length]
      refine ⟨Nat.le_trans (by omega : 1 + Tl.length ≤ 100) (by decide), ?_⟩
      rw [← List.map_cons, intsD_map]
      simp -implicitDefEqProofs only [DL.WW, List.isEmpty_nil, List.lookup_cons, List.lookup_nil, List.map, List.length, List.length_cons, List.length_nil, List.length_set, List.replicate, List.append, List.cons_append, List.nil_append, List.append_nil, List.getElem?_cons_zero, List.getElem?_cons_succ, List.getElem?_nil, List.set_cons_zero, List.set_cons_succ, ↓reduceIte, Bool.false_eq_true, Bool.not_true, Bool.not_false, Bool.true_and, Bool.false_and, Bool.and_true, Bool.and_false, Bool.or_true, Bool.or_false, Bool.true_or, Bool.false_or, Nat.reduceAdd, Nat.reduceSub, Nat.reduceLT, Nat.reduceLeDiff, true_and, and_true, and_self, decide_eq_true_eq, Nat.zero_lt_succ, Nat.lt_add_left_iff_pos, beq_self_eq_true, String.reduceBEq, String.reduceEq, Nat.le_refl, Nat.zero_le, Bool.true_eq_false, decide_true, decide_false, Int.reduceEq, Int.reduceLT, Int.reduceLE, Int.reduceSub, Int.reduceAdd]
      intro m hm hmax
      have hbig : ∀ y ∈ r, ∀ j, f (1 - s) y = some (1 - s, j) → ((1 + j : Nat) : Int) ≤ m := fun y hy j ej => by
        have h1 : some (1 - s, j) ∈ Tl := (hTm _).mpr ⟨y, hy, ej⟩
        have h2 := hmax ((1 : Int) + ((((some (1 - s, j) : Option (Nat × Nat)).map (·.2)).getD 0 : Nat) : Int)) (List.mem_cons_of_mem _ (List.mem_map_of_mem (f := fun x : Option (Nat × Nat) => (1 : Int) + ((x.map (·.2)).getD 0 : Nat)) h1))
        have e2 : ((some (1 - s, j) : Option (Nat × Nat)).map (·.2)).getD 0 = j := rfl
        rw [e2] at h2
        omega
      have hl2 : ∀ y ∈ r, ∃ j, f (1 - s) y = some (1 - s, j) := fun y hy => ca _ ((hTm _).mpr ⟨y, hy, rfl⟩)
      have hm2 : ∃ M : Nat, m = (M : Int) ∧ (M = 0 ∨ ∃ y ∈ r, ∃ j, f (1 - s) y = some (1 - s, j) ∧ M = 1 + j) := by
        rcases List.mem_cons.mp hm with rfl | hm
        · exact ⟨0, rfl, .inl rfl⟩
        · obtain ⟨x, hx, rfl⟩ := List.mem_map.mp hm
          obtain ⟨l, rfl⟩ := ca x hx
          obtain ⟨y, hy, ey⟩ := (hTm _).mp hx
          refine ⟨1 + l, ?_, .inr ⟨y, hy, l, ey, rfl⟩⟩
          show (1 : Int) + (l : Int) = ((1 + l : Nat) : Int)
          omega
      obtain ⟨M, rfl, hM⟩ := hm2
      refine q (some (1 - s, M)) (.inr (.inl ⟨by rw [hrw]; exact hl2, M, rfl, fun y hy j ej => ?_, by rw [hrw]; exact hM⟩))
      rw [hrw] at hy
      have := hbig y hy j ej
      omega
    · rw [if_neg (fun h => ca (hall.mp h))]
      have ⟨x, hx, hxn⟩ : ∃ x ∈ Tl, ∀ j, x ≠ some (1 - s, j) := by
        refine Classical.byContradiction fun h => ca fun x hx => ?_
        refine Classical.byContradiction fun h2 => h ⟨x, hx, fun j e => h2 ⟨j, e⟩⟩
      obtain ⟨y, hy, ey⟩ := (hTm x).mp hx
      refine q none (.inr (.inr ⟨fun z hz j e => hno j ((hTm _).mpr ⟨z, by rw [← hrw]; exact hz, e⟩), ⟨y, by rw [hrw]; exact hy, fun j e => hxn j (ey ▸ e)⟩, rfl⟩))
end
end K74D


set_option Elab.async false
set_option linter.all false
set_option maxRecDepth 100000
set_option maxHeartbeats 4000000
namespace K74D
open PySem L2 TG DL K74 GM SV
section
variable {P : Program} {w : World} {K : PySem.W.Frag} {mg : Str → Option Value} {base : Heap}
abbrev TD := Any.TD
abbrev toldB := Any.toldB
def F_is_told : FSp := Any.F_is_told
theorem wordS_inj {a b : Nat} (ha : a < 2) (hb : b < 2) (h : wordS a = wordS b) : a = b := by
  have n1 : wordS 0 ≠ wordS 1 := by decide +kernel
  have : a = 0 ∨ a = 1 := by omega
  have : b = 0 ∨ b = 1 := by omega
  rcases ‹a = 0 ∨ a = 1› with rfl | rfl <;> rcases ‹b = 0 ∨ b = 1› with rfl | rfl
  · rfl
  · exact absurd h n1
  · exact absurd h.symm n1
  · rfl
def W2 (x : Option (Nat × Nat)) : Prop := ∀ w j, x = some (w, j) → w < 2
theorem wD_inj {a b : Option (Nat × Nat)} (ha : W2 a) (hb : W2 b) (h : wD a = wD b) : a = b := by
  rw [wD_two, wD_two] at h
  have h' := PyData.tuple.inj h
  simp only [List.cons.injEq, and_true] at h'
  obtain ⟨h1, h2⟩ := h'
  have h1 := PyData.str.inj h1
  cases a with
  | none =>
    cases b with
    | none => rfl
    | some p => cases h2
  | some p =>
    cases b with
    | none => cases h2
    | some p' =>
      obtain ⟨u, j⟩ := p
      obtain ⟨u', j'⟩ := p'
      have e1 := wordS_inj (ha u j rfl) (hb u' j' rfl) h1
      have e2 := PyData.int.inj h2
      have e3 : j = j' := by
        have : (j : Int) = (j' : Int) := e2
        omega
      rw [e1, e3]
theorem eqv_wD {a b : Option (Nat × Nat)} (ha : W2 a) (hb : W2 b) : PyData.eqv (wD a) (wD b) = decide (a = b) := by
  by_cases c : a = b
  · subst c
    rw [decide_eq_true rfl]
    exact eqv_self _ (fine_w a)
  · rw [decide_eq_false c, wD_two, wD_two, eqv_tup]
    simp only [PyData.eqvAll, eqv_str, Bool.and_true]
    cases a with
    | none =>
      cases b with
      | none => exact absurd rfl c
      | some p =>
        have : PyData.eqv .none (.int (p.2 : Int)) = false := by rw [PyData.eqv] <;> simp
        show (_ && PyData.eqv .none (.int (p.2 : Int))) = false
        rw [this, Bool.and_false]
    | some p =>
      cases b with
      | none =>
        have : PyData.eqv (.int (p.2 : Int)) .none = false := by rw [PyData.eqv] <;> simp
        show (_ && PyData.eqv (.int (p.2 : Int)) .none) = false
        rw [this, Bool.and_false]
      | some p' =>
        obtain ⟨u, j⟩ := p
        obtain ⟨u', j'⟩ := p'
        show (decide (wordS u = wordS u') && PyData.eqv (.int (j : Int)) (.int (j' : Int))) = false
        rw [eqv_int]
        by_cases c1 : wordS u = wordS u'
        · have e1 := wordS_inj (ha u j rfl) (hb u' j' rfl) c1
          subst e1
          rw [decide_eq_true rfl, Bool.true_and]
          refine decide_eq_false fun h => c ?_
          rw [show j = j' by omega]
        · rw [decide_eq_false c1, Bool.false_and]
/-- what passes is a told pair -/
theorem told_wD {d : PyData} (h : TD d) (ht : toldB d = true) : ∃ x, d = wD x ∧ W2 x := by
  cases h with
  | non => cases ht
  | str _ => cases ht
  | one _ => cases ht
  | lst _ _ => cases ht
  | @two s d hs hd =>
    have ht' : (if s = Str.ofString "draw" then isNone d else (decide (Str.ofString "L" = s) || decide (Str.ofString "R" = s)) && Any.inB 0 1000000000 d) = true := ht
    split at ht'
    · next e =>
      subst e
      cases hd with
      | non => exact ⟨none, rfl, fun w j h => by cases h⟩
      | int n => cases ht'
      | bool n => cases ht'
    · rw [Bool.and_eq_true, Bool.or_eq_true] at ht'
      obtain ⟨hw, hb⟩ := ht'
      cases hd with
      | non => cases hb
      | bool n => cases hb
      | int n =>
        have hb' : (decide (0 ≤ n) && decide (n ≤ 1000000000)) = true := hb
        have hn : 0 ≤ n := by
          rw [Bool.and_eq_true] at hb'
          exact of_decide_eq_true hb'.1
        obtain ⟨m, rfl⟩ := Int.eq_ofNat_of_zero_le hn
        rcases hw with h | h
        · have := of_decide_eq_true h
          subst this
          exact ⟨some (0, m), rfl, fun w j h => by cases h; omega⟩
        · have := of_decide_eq_true h
          subst this
          exact ⟨some (1, m), rfl, fun w j h => by cases h; omega⟩
theorem wD_told {x : Option (Nat × Nat)} (hx : W2 x) (hj : ∀ w j, x = some (w, j) → j ≤ 1000000000) : toldB (wD x) = true := by
  cases x with
  | none => rfl
  | some p =>
    obtain ⟨u, j⟩ := p
    have hu := hx u j rfl
    have hj := hj u j rfl
    have hin : Any.inB 0 1000000000 (.int (j : Int)) = true := by
      show (decide ((0 : Int) ≤ (j : Int)) && decide ((j : Int) ≤ 1000000000)) = true
      rw [decide_eq_true (by omega), decide_eq_true (by omega)]
      rfl
    have : u = 0 ∨ u = 1 := by omega
    rcases this with rfl | rfl
    · show (if wordS 0 = Str.ofString "draw" then isNone (.int (j : Int)) else (decide (Str.ofString "L" = wordS 0) || decide (Str.ofString "R" = wordS 0)) && Any.inB 0 1000000000 (.int (j : Int))) = true
      rw [if_neg (by decide +kernel), hin]
      decide +kernel
    · show (if wordS 1 = Str.ofString "draw" then isNone (.int (j : Int)) else (decide (Str.ofString "L" = wordS 1) || decide (Str.ofString "R" = wordS 1)) && Any.inB 0 1000000000 (.int (j : Int))) = true
      rw [if_neg (by decide +kernel), hin]
      decide +kernel
theorem op_in {L R : List (List Nat)} (hok : GrOk L R) : ∀ s v, s < 2 → v < L.length → ∀ q ∈ op L R s v, q < L.length := by
  intro s v hs hv q hq
  have : s = 0 ∨ s = 1 := by omega
  have get : ∀ S : List (List Nat), v < S.length → row S v ∈ S := fun S h => by
    show S.getD v [] ∈ S
    rw [List.getD_eq_getElem?_getD, List.getElem?_eq_getElem h]
    exact List.getElem_mem h
  rcases this with rfl | rfl
  · exact (hok.2.2.2.1 _ (get L hv)).2.1 q hq
  · exact (hok.2.2.2.2 _ (get R (by have := hok.1; omega))).2.1 q hq
theorem gS_W2 {L R : List (List Nat)} {s v : Nat} (hs : s < 2) : W2 (gS (op L R) s v) := fun w j h => by
  have := D_two hs (gS_at h).2
  omega
theorem gS_told {L R : List (List Nat)} (hok : GrOk L R) {s v : Nat} (hs : s < 2) (hv : v < L.length) : toldB (wD (gS (op L R) s v)) = true := by
  refine wD_told (gS_W2 hs) fun w j h => ?_
  have h1 := at_lt (op_in hok) hs hv (gS_at h)
  have := hok.2.2.1
  omega
theorem sol_inj {n : Nat} {f g : Nat → Nat → Option (Nat × Nat)} (hf : ∀ s v, s < 2 → v < n → W2 (f s v)) (hg : ∀ s v, s < 2 → v < n → W2 (g s v)) (h : solD n f = solD n g) : ∀ s v, s < 2 → v < n → f s v = g s v := by
  intro s v hs hv
  have h' : (List.range n).map (pairD f) = (List.range n).map (pairD g) := PyData.tuple.inj h
  have e1 : some (pairD f v) = some (pairD g v) := by
    have a : ((List.range n).map (pairD f))[v]? = some (pairD f v) := by rw [List.getElem?_map, List.getElem?_range hv]; rfl
    have b : ((List.range n).map (pairD g))[v]? = some (pairD g v) := by rw [List.getElem?_map, List.getElem?_range hv]; rfl
    rw [← a, ← b, h']
  have e2 : PyData.tuple [wD (f 0 v), wD (f 1 v)] = .tuple [wD (g 0 v), wD (g 1 v)] := Option.some.inj e1
  have e3 := PyData.tuple.inj e2
  simp only [List.cons.injEq, and_true] at e3
  have : s = 0 ∨ s = 1 := by omega
  rcases this with rfl | rfl
  · exact wD_inj (hf 0 v hs hv) (hg 0 v hs hv) e3.1
  · exact wD_inj (hf 1 v hs hv) (hg 1 v hs hv) e3.2
/-- a value that is no tuple of so many pairs -/
inductive Wrong (n : Nat) : PyData → Prop
  | non : Wrong n .none
  | str (s : Str) : Wrong n (.str s)
  | lst (l : List PyData) : Wrong n (.list l)
  | dic : Wrong n (.dict [])
  | tup {ds : List PyData} : ds.length ≠ n → Wrong n (.tuple ds)
  | one {ds : List PyData} : ds.length ≠ 2 → Wrong n (.tuple [.tuple ds])
def F_shows_solution : FSp := fun args P => ∃ (L R : List (List Nat)) (d : PyData), args = [some (.dat (grD L R)), some (.dat d)] ∧ GrOk L R ∧
  ((∃ rows : List PyData, d = .tuple rows ∧ rows.length = L.length ∧ (∀ x ∈ rows, ∃ a b, x = .tuple [a, b] ∧ TD a ∧ TD b) ∧ ∀ b : Bool, (b = true ↔ d = solD L.length (gS (op L R))) → P (.dat (.bool b)) [none, none]) ∨
  (Wrong L.length d ∧ P (.dat (.bool false)) [none, none]))
theorem ok_shows_solution {k : Nat} (T : Txt K mg) (G_need_graph : FnOk P w K mg base CX0 (k) T.a_need_graph T.d_need_graph ["value"] (spD K F_need_graph)) (G_due_at : FnOk P w K mg base CX0 (k) T.a_due_at T.d_due_at ["graph", "value", "node", "side"] (spD K F_due_at)) (G_is_told : FnOk P w K mg base CX0 (k) T.a_is_told T.d_is_told ["value"] (spD K F_is_told)) : FnOk P w K mg base CX0 (k + 1) T.a_shows_solution T.d_shows_solution ["graph", "value"] (spD K F_shows_solution) := by
  refine (fun (hA : ∀ args P, F_shows_solution args P → args.length = 2) => T.F_shows_solution.ok (sp := spD K F_shows_solution) sc_shows_solution (fun vs H Q E h => spD_len hA h) (fun cdv A outer s H vs Q E hr h => ⟨_, (pss_cons (ps_expr (pe_call G_need_graph hr rfl T.g_need_graph T.F_need_graph.kp T.b_need_graph .nil pass0 (pa_cons (pv 0) pa_nil)))
  (pss_cons (ps_set (i := 2) sc_shows_solution.nd rfl (Or.inl rfl) (pe_callB (call_lenK (K := K) rfl) rfl T.m_len PySem.boot_len (pa_cons (pe_ix (ix_tupK (K := K) rfl) (pv 0) pe_int (fun _ _ => rfl)) pa_nil)))
  (pss_cons (ps_if (PW.pt (pw_or (pt_not (pt_val (pe_callB (call_isiX (K := K) rfl) rfl T.m_isinstance (by decide +kernel) (pa_cons (pv 1) (pa_cons (pe_bltn (v := .ty "tuple") (u := .type "tuple") rfl T.m_tuple (by decide +kernel) rfl) pa_nil))))) (pw_or1 (pt_cmpR (op_neDK (K := K) rfl hr.units) (pe_callB (call_lenK (K := K) rfl) rfl T.m_len PySem.boot_len (pa_cons (pv 1) pa_nil)) (pv 2) (nomark _)))))
  (pss_one (ps_ret pe_bl))
  pss_nil)
  (pss_cons (ps_for PassesOwn.never rfl (pi_tupK (K := K) rfl (pv 1)) (pg_name (i := 3) sc_shows_solution.nd rfl (Or.inl rfl))
  (pss_one (ps_if (PW.pt (pw_or (pt_not (pt_val (pe_callB (call_isiX (K := K) rfl) rfl T.m_isinstance (by decide +kernel) (pa_cons (pv 3) (pa_cons (pe_bltn (v := .ty "tuple") (u := .type "tuple") rfl T.m_tuple (by decide +kernel) rfl) pa_nil))))) (pw_or (pt_cmpR (op_neDK (K := K) rfl hr.units) (pe_callB (call_lenK (K := K) rfl) rfl T.m_len PySem.boot_len (pa_cons (pv 3) pa_nil)) pe_int (nomark _)) (pw_or1 (pt_not (pt_val (pe_callB (cr_allK (K := K) rfl rfl) rfl T.m_all (by decide +kernel) (pa_cons (pe_lc (own := [("told", 6)]) rfl sc_shows_solution.nd (pi_tupK (K := K) rfl (pv 3)) (blkOk_by (N := ["graph", "value", "many", "pair", "node", "side", "told"]) (sc := defScope s_shows_solution) (by decide +kernel)) (fun _ _ _ _ _ => (pg_name (i := 6) sc_shows_solution.nd rfl (Or.inl rfl))) (fun _ _ _ _ _ => pts_nil) (fun _ _ _ _ _ => (pe_call G_is_told hr rfl T.g_is_told T.F_is_told.kp T.b_is_told .nil pass0 (pa_cons (pv 6) pa_nil)))) pa_nil))))))))
  (pss_one (ps_ret pe_bl))
  pss_nil)))
  (pss_cons (ps_for PassesOwn.never rfl (pi_range1 rfl T.m_range (pa_cons (pv 2) pa_nil)) (pg_name (i := 4) sc_shows_solution.nd rfl (Or.inl rfl))
  (pss_one (ps_for PassesOwn.never rfl (pi_tupK (K := K) rfl (pe_tup (pa_cons pe_int (pa_cons pe_int pa_nil)))) (pg_name (i := 5) sc_shows_solution.nd rfl (Or.inl rfl))
  (pss_one (ps_if (pt_cmpR (op_neDK (K := K) rfl hr.units) (pe_ix (ix_tupK (K := K) rfl) (pe_ix (ix_tupK (K := K) rfl) (pv 1) (pv 4) (fun _ _ => rfl)) (pv 5) (fun _ _ => rfl)) (pe_call G_due_at hr rfl T.g_due_at T.F_due_at.kp T.b_due_at .nil pass0 (pa_cons (pv 0) (pa_cons (pv 1) (pa_cons (pv 4) (pa_cons (pv 5) pa_nil))))) (nomark _))
  (pss_one (ps_ret pe_bl))
  pss_nil)))))
  (pss_one (ps_ret pe_bl))))))), fn_run (N := ["graph", "value", "many", "pair", "node", "side", "told"]) h (fun A' Hz' => (ss_seq (ss_drop (se_call (sa_cons se_var sa_nil)))
  (ss_seq (ss_asg (se_cb1 sc_len (se_op sr_ixT se_var se_int)) sg_name)
  (ss_seq (ss_if (st_or (st_not (st_B (se_isi rfl se_var))) (st_test (se_op sr_neD (se_cb1 sc_len se_var) se_var)))
  (ss_ret se_bl)
  ss_next)
  (ss_seq (ss_for (si_tup se_var) sg_name
  (ss_if (st_or (st_not (st_B (se_isi rfl se_var))) (st_or (st_test (se_op sr_neD (se_cb1 sc_len se_var) se_int)) (st_not (st_B (se_cb1 sc_all (se_lc (si_tup se_var) sg_name st_yes (se_call (sa_cons se_var sa_nil)) (by decide)))))))
  (ss_ret se_bl)
  ss_next))
  (ss_seq (ss_for (si_rng1 se_var) sg_name
  (ss_for (si_tup (se_tup (sa_cons se_int (sa_cons se_int sa_nil)))) sg_name
  (ss_if (st_test (se_op sr_neD (se_op sr_ixT (se_op sr_ixT se_var se_var) se_var) (se_call (sa_cons se_var (sa_cons se_var (sa_cons se_var (sa_cons se_var sa_nil)))))))
  (ss_ret se_bl)
  ss_next)))
  (ss_ret se_bl))))))) (fun args P hl hF => ?_) (by rw [spD_len hA h]; exact Nat.le_of_ble_eq_true rfl)⟩)) (fun args P hF => ?_)
  rotate_left
  · obtain ⟨L, R, d, rfl, _⟩ := hF
    rfl
  obtain ⟨L, R, d, rfl, hok, hF⟩ := hF
  have hgr : grD L R = .tuple [rowsD L, rowsD R] := rfl
  have hrL : rowsD L = .tuple (L.map rowD) := rfl
  simp -implicitDefEqProofs only [DL.WW, List.isEmpty_nil, List.lookup_cons, List.lookup_nil, List.map, List.length, List.length_cons, List.length_nil, List.length_set, List.replicate, List.append, List.cons_append, List.nil_append, List.append_nil, List.getElem?_cons_zero, List.getElem?_cons_succ, List.getElem?_nil, List.set_cons_zero, List.set_cons_succ, ↓reduceIte, Bool.false_eq_true, Bool.not_true, Bool.not_false, Bool.true_and, Bool.false_and, Bool.and_true, Bool.and_false, Bool.or_true, Bool.or_false, Bool.true_or, Bool.false_or, Nat.reduceAdd, Nat.reduceSub, Nat.reduceLT, Nat.reduceLeDiff, true_and, and_true, and_self, decide_eq_true_eq, Nat.zero_lt_succ, Nat.lt_add_left_iff_pos, beq_self_eq_true, String.reduceBEq, String.reduceEq, Nat.le_refl, Nat.zero_le, Bool.true_eq_false, decide_true, decide_false, Int.reduceEq, Int.reduceLT, Int.reduceLE, Int.reduceSub, Int.reduceAdd]
  refine ⟨L, R, rfl, hok, ?_⟩
  rcases hF with ⟨rows, rfl, hlen, hTD, q⟩ | ⟨hw, q⟩
  · have hlen' : (rows.length : Int) = (L.length : Int) := by omega
    simp -implicitDefEqProofs only [DL.WW, List.isEmpty_nil, List.lookup_cons, List.lookup_nil, List.map, List.length, List.length_cons, List.length_nil, List.length_set, List.replicate, List.append, List.cons_append, List.nil_append, List.append_nil, List.getElem?_cons_zero, List.getElem?_cons_succ, List.getElem?_nil, List.set_cons_zero, List.set_cons_succ, ↓reduceIte, Bool.false_eq_true, Bool.not_true, Bool.not_false, Bool.true_and, Bool.false_and, Bool.and_true, Bool.and_false, Bool.or_true, Bool.or_false, Bool.true_or, Bool.false_or, Nat.reduceAdd, Nat.reduceSub, Nat.reduceLT, Nat.reduceLeDiff, true_and, and_true, and_self, decide_eq_true_eq, Nat.zero_lt_succ, Nat.lt_add_left_iff_pos, beq_self_eq_true, String.reduceBEq, String.reduceEq, Nat.le_refl, Nat.zero_le, Bool.true_eq_false, decide_true, decide_false, Int.reduceEq, Int.reduceLT, Int.reduceLE, Int.reduceSub, Int.reduceAdd, hgr, hrL, List.length_map, hlen]
    refine for_use ?_
    simp -implicitDefEqProofs only [DL.WW, List.isEmpty_nil, List.lookup_cons, List.lookup_nil, List.map, List.length, List.length_cons, List.length_nil, List.length_set, List.replicate, List.append, List.cons_append, List.nil_append, List.append_nil, List.getElem?_cons_zero, List.getElem?_cons_succ, List.getElem?_nil, List.set_cons_zero, List.set_cons_succ, ↓reduceIte, Bool.false_eq_true, Bool.not_true, Bool.not_false, Bool.true_and, Bool.false_and, Bool.and_true, Bool.and_false, Bool.or_true, Bool.or_false, Bool.true_or, Bool.false_or, Nat.reduceAdd, Nat.reduceSub, Nat.reduceLT, Nat.reduceLeDiff, true_and, and_true, and_self, decide_eq_true_eq, Nat.zero_lt_succ, Nat.lt_add_left_iff_pos, beq_self_eq_true, String.reduceBEq, String.reduceEq, Nat.le_refl, Nat.zero_le, Bool.true_eq_false, decide_true, decide_false, Int.reduceEq, Int.reduceLT, Int.reduceLE, Int.reduceSub, Int.reduceAdd]
    refine ⟨fun i e => ∃ z, e = [some (.dat (grD L R)), some (.dat (.tuple rows)), some (.dat (.int (L.length : Int))), z, none, none, none] ∧ ∀ k x, k < i → rows[k]? = some x → ∃ a b, x = .tuple [a, b] ∧ toldB a = true ∧ toldB b = true, ⟨none, rfl, fun k x h => absurd h (Nat.not_lt_zero _)⟩, ?_, ?_⟩
    · rintro i d e hd ⟨z, rfl, hold⟩
      obtain ⟨a, b, rfl, ha, hb⟩ := hTD d (List.mem_of_getElem? hd)
      simp -implicitDefEqProofs only [DL.WW, List.isEmpty_nil, List.lookup_cons, List.lookup_nil, List.map, List.length, List.length_cons, List.length_nil, List.length_set, List.replicate, List.append, List.cons_append, List.nil_append, List.append_nil, List.getElem?_cons_zero, List.getElem?_cons_succ, List.getElem?_nil, List.set_cons_zero, List.set_cons_succ, ↓reduceIte, Bool.false_eq_true, Bool.not_true, Bool.not_false, Bool.true_and, Bool.false_and, Bool.and_true, Bool.and_false, Bool.or_true, Bool.or_false, Bool.true_or, Bool.false_or, Nat.reduceAdd, Nat.reduceSub, Nat.reduceLT, Nat.reduceLeDiff, true_and, and_true, and_self, decide_eq_true_eq, Nat.zero_lt_succ, Nat.lt_add_left_iff_pos, beq_self_eq_true, String.reduceBEq, String.reduceEq, Nat.le_refl, Nat.zero_le, Bool.true_eq_false, decide_true, decide_false, Int.reduceEq, Int.reduceLT, Int.reduceLE, Int.reduceSub, Int.reduceAdd, List.length]
      refine lc_use ?_
      simp -implicitDefEqProofs only [DL.WW, List.isEmpty_nil, List.lookup_cons, List.lookup_nil, List.map, List.length, List.length_cons, List.length_nil, List.length_set, List.replicate, List.append, List.cons_append, List.nil_append, List.append_nil, List.getElem?_cons_zero, List.getElem?_cons_succ, List.getElem?_nil, List.set_cons_zero, List.set_cons_succ, ↓reduceIte, Bool.false_eq_true, Bool.not_true, Bool.not_false, Bool.true_and, Bool.false_and, Bool.and_true, Bool.and_false, Bool.or_true, Bool.or_false, Bool.true_or, Bool.false_or, Nat.reduceAdd, Nat.reduceSub, Nat.reduceLT, Nat.reduceLeDiff, true_and, and_true, and_self, decide_eq_true_eq, Nat.zero_lt_succ, Nat.lt_add_left_iff_pos, beq_self_eq_true, String.reduceBEq, String.reduceEq, Nat.le_refl, Nat.zero_le, Bool.true_eq_false, decide_true, decide_false, Int.reduceEq, Int.reduceLT, Int.reduceLE, Int.reduceSub, Int.reduceAdd]
      refine lc_acc (fun j => ([a, b].take j).map fun d => .bool (toldB d)) rfl rfl (fun j hj => ?_) (fun j d hd => ?_) ?_
      · rw [List.length_map, List.length_take]
        exact Nat.le_trans (Nat.min_le_right _ _) (show 2 ≤ 100000 by decide)
      · have hTd : TD d := by
          have := List.mem_of_getElem? hd
          simp only [List.mem_cons, List.not_mem_nil, or_false] at this
          rcases this with rfl | rfl
          · exact ha
          · exact hb
        simp -implicitDefEqProofs only [DL.WW, List.isEmpty_nil, List.lookup_cons, List.lookup_nil, List.map, List.length, List.length_cons, List.length_nil, List.length_set, List.replicate, List.append, List.cons_append, List.nil_append, List.append_nil, List.getElem?_cons_zero, List.getElem?_cons_succ, List.getElem?_nil, List.set_cons_zero, List.set_cons_succ, ↓reduceIte, Bool.false_eq_true, Bool.not_true, Bool.not_false, Bool.true_and, Bool.false_and, Bool.and_true, Bool.and_false, Bool.or_true, Bool.or_false, Bool.true_or, Bool.false_or, Nat.reduceAdd, Nat.reduceSub, Nat.reduceLT, Nat.reduceLeDiff, true_and, and_true, and_self, decide_eq_true_eq, Nat.zero_lt_succ, Nat.lt_add_left_iff_pos, beq_self_eq_true, String.reduceBEq, String.reduceEq, Nat.le_refl, Nat.zero_le, Bool.true_eq_false, decide_true, decide_false, Int.reduceEq, Int.reduceLT, Int.reduceLE, Int.reduceSub, Int.reduceAdd]
        refine ⟨d, rfl, hTd, ?_⟩
        simp -implicitDefEqProofs only [DL.WW, List.isEmpty_nil, List.lookup_cons, List.lookup_nil, List.map, List.length, List.length_cons, List.length_nil, List.length_set, List.replicate, List.append, List.cons_append, List.nil_append, List.append_nil, List.getElem?_cons_zero, List.getElem?_cons_succ, List.getElem?_nil, List.set_cons_zero, List.set_cons_succ, ↓reduceIte, Bool.false_eq_true, Bool.not_true, Bool.not_false, Bool.true_and, Bool.false_and, Bool.and_true, Bool.and_false, Bool.or_true, Bool.or_false, Bool.true_or, Bool.false_or, Nat.reduceAdd, Nat.reduceSub, Nat.reduceLT, Nat.reduceLeDiff, true_and, and_true, and_self, decide_eq_true_eq, Nat.zero_lt_succ, Nat.lt_add_left_iff_pos, beq_self_eq_true, String.reduceBEq, String.reduceEq, Nat.le_refl, Nat.zero_le, Bool.true_eq_false, decide_true, decide_false, Int.reduceEq, Int.reduceLT, Int.reduceLE, Int.reduceSub, Int.reduceAdd]
        rw [List.take_add_one, hd, List.map_append]
        rfl
      have eb : ((List.take [a, b].length [a, b]).map fun d => PyData.bool (toldB d)) = [toldB a, toldB b].map PyData.bool := rfl
      rw [eb]
      simp -implicitDefEqProofs only [DL.WW, List.isEmpty_nil, List.lookup_cons, List.lookup_nil, List.map, List.length, List.length_cons, List.length_nil, List.length_set, List.replicate, List.append, List.cons_append, List.nil_append, List.append_nil, List.getElem?_cons_zero, List.getElem?_cons_succ, List.getElem?_nil, List.set_cons_zero, List.set_cons_succ, ↓reduceIte, Bool.false_eq_true, Bool.not_true, Bool.not_false, Bool.true_and, Bool.false_and, Bool.and_true, Bool.and_false, Bool.or_true, Bool.or_false, Bool.true_or, Bool.false_or, Nat.reduceAdd, Nat.reduceSub, Nat.reduceLT, Nat.reduceLeDiff, true_and, and_true, and_self, decide_eq_true_eq, Nat.zero_lt_succ, Nat.lt_add_left_iff_pos, beq_self_eq_true, String.reduceBEq, String.reduceEq, Nat.le_refl, Nat.zero_le, Bool.true_eq_false, decide_true, decide_false, Int.reduceEq, Int.reduceLT, Int.reduceLE, Int.reduceSub, Int.reduceAdd]
      rw [show boolsD [PyData.bool (toldB a), PyData.bool (toldB b)] = some [toldB a, toldB b] from rfl]
      simp -implicitDefEqProofs only [DL.WW, List.isEmpty_nil, List.lookup_cons, List.lookup_nil, List.map, List.length, List.length_cons, List.length_nil, List.length_set, List.replicate, List.append, List.cons_append, List.nil_append, List.append_nil, List.getElem?_cons_zero, List.getElem?_cons_succ, List.getElem?_nil, List.set_cons_zero, List.set_cons_succ, ↓reduceIte, Bool.false_eq_true, Bool.not_true, Bool.not_false, Bool.true_and, Bool.false_and, Bool.and_true, Bool.and_false, Bool.or_true, Bool.or_false, Bool.true_or, Bool.false_or, Nat.reduceAdd, Nat.reduceSub, Nat.reduceLT, Nat.reduceLeDiff, true_and, and_true, and_self, decide_eq_true_eq, Nat.zero_lt_succ, Nat.lt_add_left_iff_pos, beq_self_eq_true, String.reduceBEq, String.reduceEq, Nat.le_refl, Nat.zero_le, Bool.true_eq_false, decide_true, decide_false, Int.reduceEq, Int.reduceLT, Int.reduceLE, Int.reduceSub, Int.reduceAdd]
      by_cases hab : toldB a = true ∧ toldB b = true
      · rw [if_neg (by simp [hab.1, hab.2])]
        refine ⟨_, rfl, fun k x hk hx => ?_⟩
        by_cases hki : k = i
        · subst hki
          rw [hd] at hx
          cases hx
          exact ⟨a, b, rfl, hab.1, hab.2⟩
        · exact hold k x (by omega) hx
      · rw [if_pos (by
          cases h1 : toldB a <;> cases h2 : toldB b <;> simp_all)]
        refine q false ⟨fun h => (by cases h), fun h => absurd ?_ hab⟩
        have hi : i < L.length := by
          have := (List.getElem?_eq_some_iff.mp hd).1
          omega
        have h' : rows = (List.range L.length).map (pairD (gS (op L R))) := PyData.tuple.inj h
        have e1 : rows[i]? = some (pairD (gS (op L R)) i) := by rw [h', List.getElem?_map, List.getElem?_range hi]; rfl
        rw [hd] at e1
        have e2 : PyData.tuple [a, b] = .tuple [wD (gS (op L R) 0 i), wD (gS (op L R) 1 i)] := Option.some.inj e1
        have e3 := PyData.tuple.inj e2
        simp only [List.cons.injEq, and_true] at e3
        rw [e3.1, e3.2]
        exact ⟨gS_told hok (by decide) hi, gS_told hok (by decide) hi⟩
    · rintro e ⟨z, rfl, hold⟩
      have hex : ∀ k, ∃ p : Option (Nat × Nat) × Option (Nat × Nat), k < L.length → rows[k]? = some (.tuple [wD p.1, wD p.2]) ∧ W2 p.1 ∧ W2 p.2 := fun k => by
        by_cases hk : k < L.length
        · have hk' : k < rows.length := by omega
          obtain ⟨a, b, e1, ha, hb⟩ := hold k _ hk' (List.getElem?_eq_getElem hk')
          obtain ⟨a', b', e2, ha', hb'⟩ := hTD _ (List.getElem_mem hk')
          rw [e1] at e2
          have e3 := PyData.tuple.inj e2
          simp only [List.cons.injEq, and_true] at e3
          obtain ⟨rfl, rfl⟩ := e3
          obtain ⟨x, rfl, hx⟩ := told_wD ha' ha
          obtain ⟨y, rfl, hy⟩ := told_wD hb' hb
          exact ⟨(x, y), fun _ => ⟨by rw [List.getElem?_eq_getElem hk', e1], hx, hy⟩⟩
        · exact ⟨(none, none), fun h => absurd h hk⟩
      obtain ⟨F, hF⟩ := Classical.axiomOfChoice hex
      obtain ⟨f, hf⟩ : ∃ f : Nat → Nat → Option (Nat × Nat), f = fun s v => if s = 0 then (F v).1 else (F v).2 := ⟨_, rfl⟩
      have hfw : ∀ s v, v < L.length → W2 (f s v) := fun s v hv => by
        rw [hf]
        dsimp only
        split
        · exact (hF v hv).2.1
        · exact (hF v hv).2.2
      have hrows : rows = (List.range L.length).map (pairD f) := by
        refine List.ext_getElem? fun k => ?_
        by_cases hk : k < L.length
        · rw [(hF k hk).1, List.getElem?_map, List.getElem?_range hk, hf]
          rfl
        · rw [List.getElem?_eq_none (by omega), List.getElem?_eq_none (by rw [List.length_map, List.length_range]; omega)]
      have hsolf : PyData.tuple rows = solD L.length f := by rw [hrows]; rfl
      have hwin : Win2 L.length f := fun s v w j _ hv e => hfw s v hv w j e
      clear hold hTD hF hf hex
      rw [hsolf] at q
      rw [hsolf]
      have hsolD : solD L.length f = .tuple ((List.range L.length).map (pairD f)) := rfl
      simp -implicitDefEqProofs only [DL.WW, List.isEmpty_nil, List.lookup_cons, List.lookup_nil, List.map, List.length, List.length_cons, List.length_nil, List.length_set, List.replicate, List.append, List.cons_append, List.nil_append, List.append_nil, List.getElem?_cons_zero, List.getElem?_cons_succ, List.getElem?_nil, List.set_cons_zero, List.set_cons_succ, ↓reduceIte, Bool.false_eq_true, Bool.not_true, Bool.not_false, Bool.true_and, Bool.false_and, Bool.and_true, Bool.and_false, Bool.or_true, Bool.or_false, Bool.true_or, Bool.false_or, Nat.reduceAdd, Nat.reduceSub, Nat.reduceLT, Nat.reduceLeDiff, true_and, and_true, and_self, decide_eq_true_eq, Nat.zero_lt_succ, Nat.lt_add_left_iff_pos, beq_self_eq_true, String.reduceBEq, String.reduceEq, Nat.le_refl, Nat.zero_le, Bool.true_eq_false, decide_true, decide_false, Int.reduceEq, Int.reduceLT, Int.reduceLE, Int.reduceSub, Int.reduceAdd]
      refine for_use ?_
      simp -implicitDefEqProofs only [DL.WW, List.isEmpty_nil, List.lookup_cons, List.lookup_nil, List.map, List.length, List.length_cons, List.length_nil, List.length_set, List.replicate, List.append, List.cons_append, List.nil_append, List.append_nil, List.getElem?_cons_zero, List.getElem?_cons_succ, List.getElem?_nil, List.set_cons_zero, List.set_cons_succ, ↓reduceIte, Bool.false_eq_true, Bool.not_true, Bool.not_false, Bool.true_and, Bool.false_and, Bool.and_true, Bool.and_false, Bool.or_true, Bool.or_false, Bool.true_or, Bool.false_or, Nat.reduceAdd, Nat.reduceSub, Nat.reduceLT, Nat.reduceLeDiff, true_and, and_true, and_self, decide_eq_true_eq, Nat.zero_lt_succ, Nat.lt_add_left_iff_pos, beq_self_eq_true, String.reduceBEq, String.reduceEq, Nat.le_refl, Nat.zero_le, Bool.true_eq_false, decide_true, decide_false, Int.reduceEq, Int.reduceLT, Int.reduceLE, Int.reduceSub, Int.reduceAdd]
      have h60 := hok.2.2.1
      refine ⟨by omega, fun i e => ∃ z3 z5, e = [some (.dat (grD L R)), some (.dat (solD L.length f)), some (.dat (.int (L.length : Int))), z, z3, z5, none] ∧ ∀ v s, v < i → s < 2 → IsDue (op L R) f s v (f s v), ⟨none, none, rfl, fun k x h => absurd h (Nat.not_lt_zero _)⟩, ?_, ?_⟩
      · rintro i d e hd ⟨z3, z5, rfl, hdue⟩
        obtain ⟨hi, rfl⟩ := range_get hd
        have hi' : i < L.length := by omega
        simp -implicitDefEqProofs only [DL.WW, List.isEmpty_nil, List.lookup_cons, List.lookup_nil, List.map, List.length, List.length_cons, List.length_nil, List.length_set, List.replicate, List.append, List.cons_append, List.nil_append, List.append_nil, List.getElem?_cons_zero, List.getElem?_cons_succ, List.getElem?_nil, List.set_cons_zero, List.set_cons_succ, ↓reduceIte, Bool.false_eq_true, Bool.not_true, Bool.not_false, Bool.true_and, Bool.false_and, Bool.and_true, Bool.and_false, Bool.or_true, Bool.or_false, Bool.true_or, Bool.false_or, Nat.reduceAdd, Nat.reduceSub, Nat.reduceLT, Nat.reduceLeDiff, true_and, and_true, and_self, decide_eq_true_eq, Nat.zero_lt_succ, Nat.lt_add_left_iff_pos, beq_self_eq_true, String.reduceBEq, String.reduceEq, Nat.le_refl, Nat.zero_le, Bool.true_eq_false, decide_true, decide_false, Int.reduceEq, Int.reduceLT, Int.reduceLE, Int.reduceSub, Int.reduceAdd, Int.zero_add]
        refine for_use ?_
        simp -implicitDefEqProofs only [DL.WW, List.isEmpty_nil, List.lookup_cons, List.lookup_nil, List.map, List.length, List.length_cons, List.length_nil, List.length_set, List.replicate, List.append, List.cons_append, List.nil_append, List.append_nil, List.getElem?_cons_zero, List.getElem?_cons_succ, List.getElem?_nil, List.set_cons_zero, List.set_cons_succ, ↓reduceIte, Bool.false_eq_true, Bool.not_true, Bool.not_false, Bool.true_and, Bool.false_and, Bool.and_true, Bool.and_false, Bool.or_true, Bool.or_false, Bool.true_or, Bool.false_or, Nat.reduceAdd, Nat.reduceSub, Nat.reduceLT, Nat.reduceLeDiff, true_and, and_true, and_self, decide_eq_true_eq, Nat.zero_lt_succ, Nat.lt_add_left_iff_pos, beq_self_eq_true, String.reduceBEq, String.reduceEq, Nat.le_refl, Nat.zero_le, Bool.true_eq_false, decide_true, decide_false, Int.reduceEq, Int.reduceLT, Int.reduceLE, Int.reduceSub, Int.reduceAdd]
        refine ⟨fun j e => ∃ z5, e = [some (.dat (grD L R)), some (.dat (solD L.length f)), some (.dat (.int (L.length : Int))), z, some (.dat (.int (i : Int))), z5, none] ∧ ∀ s, s < j → IsDue (op L R) f s i (f s i), ⟨_, rfl, fun x h => absurd h (Nat.not_lt_zero _)⟩, ?_, ?_⟩
        · rintro j d e hd ⟨z5, rfl, hdj⟩
          have hj : j < 2 := (List.getElem?_eq_some_iff.mp hd).1
          have ed : d = .int (j : Int) := by
            have : j = 0 ∨ j = 1 := by omega
            rcases this with rfl | rfl <;> cases hd <;> rfl
          subst ed
          have e1 : atI ((List.range L.length).map (pairD f)) (i : Int) = some (pairD f i) := atI_nat (by rw [List.getElem?_map, List.getElem?_range hi']; rfl)
          have e2 : pairD f i = .tuple [wD (f 0 i), wD (f 1 i)] := rfl
          have e3 : atI [wD (f 0 i), wD (f 1 i)] (j : Int) = some (wD (f j i)) := by
            have : j = 0 ∨ j = 1 := by omega
            rcases this with rfl | rfl <;> rfl
          simp -implicitDefEqProofs only [DL.WW, List.isEmpty_nil, List.lookup_cons, List.lookup_nil, List.map, List.length, List.length_cons, List.length_nil, List.length_set, List.replicate, List.append, List.cons_append, List.nil_append, List.append_nil, List.getElem?_cons_zero, List.getElem?_cons_succ, List.getElem?_nil, List.set_cons_zero, List.set_cons_succ, ↓reduceIte, Bool.false_eq_true, Bool.not_true, Bool.not_false, Bool.true_and, Bool.false_and, Bool.and_true, Bool.and_false, Bool.or_true, Bool.or_false, Bool.true_or, Bool.false_or, Nat.reduceAdd, Nat.reduceSub, Nat.reduceLT, Nat.reduceLeDiff, true_and, and_true, and_self, decide_eq_true_eq, Nat.zero_lt_succ, Nat.lt_add_left_iff_pos, beq_self_eq_true, String.reduceBEq, String.reduceEq, Nat.le_refl, Nat.zero_le, Bool.true_eq_false, decide_true, decide_false, Int.reduceEq, Int.reduceLT, Int.reduceLE, Int.reduceSub, Int.reduceAdd, hsolD, e1, e2, e3]
          refine ⟨L, R, f, i, j, rfl, hok, hi', hj, hwin, fun x hx => ?_⟩
          simp -implicitDefEqProofs only [DL.WW, List.isEmpty_nil, List.lookup_cons, List.lookup_nil, List.map, List.length, List.length_cons, List.length_nil, List.length_set, List.replicate, List.append, List.cons_append, List.nil_append, List.append_nil, List.getElem?_cons_zero, List.getElem?_cons_succ, List.getElem?_nil, List.set_cons_zero, List.set_cons_succ, ↓reduceIte, Bool.false_eq_true, Bool.not_true, Bool.not_false, Bool.true_and, Bool.false_and, Bool.and_true, Bool.and_false, Bool.or_true, Bool.or_false, Bool.true_or, Bool.false_or, Nat.reduceAdd, Nat.reduceSub, Nat.reduceLT, Nat.reduceLeDiff, true_and, and_true, and_self, decide_eq_true_eq, Nat.zero_lt_succ, Nat.lt_add_left_iff_pos, beq_self_eq_true, String.reduceBEq, String.reduceEq, Nat.le_refl, Nat.zero_le, Bool.true_eq_false, decide_true, decide_false, Int.reduceEq, Int.reduceLT, Int.reduceLE, Int.reduceSub, Int.reduceAdd]
          refine ⟨(fine_w _).ok (by decide), (fine_w _).ok (by decide), ?_⟩
          rw [eqv_wD (hfw j i hi') (due_two hj hx)]
          by_cases c : f j i = x
          · rw [decide_eq_true c, if_neg (by decide)]
            refine ⟨_, rfl, fun s hs => ?_⟩
            by_cases c2 : s = j
            · subst c2
              rw [c]
              exact hx
            · exact hdj s (by omega)
          · rw [decide_eq_false c, if_pos (show (!false) = true from rfl)]
            refine q false ⟨fun h => (by cases h), fun h => absurd ?_ c⟩
            have eq := sol_inj (fun s v _ hv => hfw s v hv) (fun s v hs _ => gS_W2 hs) h
            refine due_fun hj ?_ hx
            rw [eq j i hj hi']
            exact due_congr (fun q q1 => (eq (1 - j) q (by omega) (op_in hok j i hj hi' q q1)).symm) (gS_due (op L R) L.length j i hj hi')
        · rintro e ⟨z5', rfl, hdj⟩
          refine ⟨_, _, rfl, fun v s hv hs => ?_⟩
          by_cases c : v = i
          · subst c
            exact hdj s hs
          · exact hdue v s (by omega) hs
      · rintro e ⟨z3, z5, rfl, hdue⟩
        simp -implicitDefEqProofs only [DL.WW, List.isEmpty_nil, List.lookup_cons, List.lookup_nil, List.map, List.length, List.length_cons, List.length_nil, List.length_set, List.replicate, List.append, List.cons_append, List.nil_append, List.append_nil, List.getElem?_cons_zero, List.getElem?_cons_succ, List.getElem?_nil, List.set_cons_zero, List.set_cons_succ, ↓reduceIte, Bool.false_eq_true, Bool.not_true, Bool.not_false, Bool.true_and, Bool.false_and, Bool.and_true, Bool.and_false, Bool.or_true, Bool.or_false, Bool.true_or, Bool.false_or, Nat.reduceAdd, Nat.reduceSub, Nat.reduceLT, Nat.reduceLeDiff, true_and, and_true, and_self, decide_eq_true_eq, Nat.zero_lt_succ, Nat.lt_add_left_iff_pos, beq_self_eq_true, String.reduceBEq, String.reduceEq, Nat.le_refl, Nat.zero_le, Bool.true_eq_false, decide_true, decide_false, Int.reduceEq, Int.reduceLT, Int.reduceLE, Int.reduceSub, Int.reduceAdd]
        refine q true ⟨fun _ => ?_, fun _ => rfl⟩
        rw [range_len] at hdue
        have all : AllDue (op L R) L.length f := fun s v hs hv => hdue v s (by omega) hs
        have eq : ∀ s v, s < 2 → v < L.length → f s v = gS (op L R) s v := fun s v hs hv => due_unique (op_in hok) all (gS_due _ _) hs hv
        unfold solD
        congr 1
        refine List.map_congr_left fun v hv => ?_
        have hv' := List.mem_range.mp hv
        unfold pairD
        rw [eq 0 v (by decide) hv', eq 1 v (by decide) hv']
  · cases hw with
    | non => simp -implicitDefEqProofs only [DL.WW, List.isEmpty_nil, List.lookup_cons, List.lookup_nil, List.map, List.length, List.length_cons, List.length_nil, List.length_set, List.replicate, List.append, List.cons_append, List.nil_append, List.append_nil, List.getElem?_cons_zero, List.getElem?_cons_succ, List.getElem?_nil, List.set_cons_zero, List.set_cons_succ, ↓reduceIte, Bool.false_eq_true, Bool.not_true, Bool.not_false, Bool.true_and, Bool.false_and, Bool.and_true, Bool.and_false, Bool.or_true, Bool.or_false, Bool.true_or, Bool.false_or, Nat.reduceAdd, Nat.reduceSub, Nat.reduceLT, Nat.reduceLeDiff, true_and, and_true, and_self, decide_eq_true_eq, Nat.zero_lt_succ, Nat.lt_add_left_iff_pos, beq_self_eq_true, String.reduceBEq, String.reduceEq, Nat.le_refl, Nat.zero_le, Bool.true_eq_false, decide_true, decide_false, Int.reduceEq, Int.reduceLT, Int.reduceLE, Int.reduceSub, Int.reduceAdd, hgr, hrL, List.length_map]; exact q
    | str s => simp -implicitDefEqProofs only [DL.WW, List.isEmpty_nil, List.lookup_cons, List.lookup_nil, List.map, List.length, List.length_cons, List.length_nil, List.length_set, List.replicate, List.append, List.cons_append, List.nil_append, List.append_nil, List.getElem?_cons_zero, List.getElem?_cons_succ, List.getElem?_nil, List.set_cons_zero, List.set_cons_succ, ↓reduceIte, Bool.false_eq_true, Bool.not_true, Bool.not_false, Bool.true_and, Bool.false_and, Bool.and_true, Bool.and_false, Bool.or_true, Bool.or_false, Bool.true_or, Bool.false_or, Nat.reduceAdd, Nat.reduceSub, Nat.reduceLT, Nat.reduceLeDiff, true_and, and_true, and_self, decide_eq_true_eq, Nat.zero_lt_succ, Nat.lt_add_left_iff_pos, beq_self_eq_true, String.reduceBEq, String.reduceEq, Nat.le_refl, Nat.zero_le, Bool.true_eq_false, decide_true, decide_false, Int.reduceEq, Int.reduceLT, Int.reduceLE, Int.reduceSub, Int.reduceAdd, hgr, hrL, List.length_map]; exact q
    | lst l => simp -implicitDefEqProofs only [DL.WW, List.isEmpty_nil, List.lookup_cons, List.lookup_nil, List.map, List.length, List.length_cons, List.length_nil, List.length_set, List.replicate, List.append, List.cons_append, List.nil_append, List.append_nil, List.getElem?_cons_zero, List.getElem?_cons_succ, List.getElem?_nil, List.set_cons_zero, List.set_cons_succ, ↓reduceIte, Bool.false_eq_true, Bool.not_true, Bool.not_false, Bool.true_and, Bool.false_and, Bool.and_true, Bool.and_false, Bool.or_true, Bool.or_false, Bool.true_or, Bool.false_or, Nat.reduceAdd, Nat.reduceSub, Nat.reduceLT, Nat.reduceLeDiff, true_and, and_true, and_self, decide_eq_true_eq, Nat.zero_lt_succ, Nat.lt_add_left_iff_pos, beq_self_eq_true, String.reduceBEq, String.reduceEq, Nat.le_refl, Nat.zero_le, Bool.true_eq_false, decide_true, decide_false, Int.reduceEq, Int.reduceLT, Int.reduceLE, Int.reduceSub, Int.reduceAdd, hgr, hrL, List.length_map]; exact q
    | dic =>
      simp -implicitDefEqProofs only [DL.WW, List.isEmpty_nil, List.lookup_cons, List.lookup_nil, List.map, List.length, List.length_cons, List.length_nil, List.length_set, List.replicate, List.append, List.cons_append, List.nil_append, List.append_nil, List.getElem?_cons_zero, List.getElem?_cons_succ, List.getElem?_nil, List.set_cons_zero, List.set_cons_succ, ↓reduceIte, Bool.false_eq_true, Bool.not_true, Bool.not_false, Bool.true_and, Bool.false_and, Bool.and_true, Bool.and_false, Bool.or_true, Bool.or_false, Bool.true_or, Bool.false_or, Nat.reduceAdd, Nat.reduceSub, Nat.reduceLT, Nat.reduceLeDiff, true_and, and_true, and_self, decide_eq_true_eq, Nat.zero_lt_succ, Nat.lt_add_left_iff_pos, beq_self_eq_true, String.reduceBEq, String.reduceEq, Nat.le_refl, Nat.zero_le, Bool.true_eq_false, decide_true, decide_false, Int.reduceEq, Int.reduceLT, Int.reduceLE, Int.reduceSub, Int.reduceAdd, hgr, hrL, List.length_map]
      rw [if_pos (show (!tyD (.dict []) == "tuple") = true by decide +kernel)]
      exact q
    | @tup ds h =>
      have h' : ¬ ((ds.length : Int) = (L.length : Int)) := by omega
      simp -implicitDefEqProofs only [DL.WW, List.isEmpty_nil, List.lookup_cons, List.lookup_nil, List.map, List.length, List.length_cons, List.length_nil, List.length_set, List.replicate, List.append, List.cons_append, List.nil_append, List.append_nil, List.getElem?_cons_zero, List.getElem?_cons_succ, List.getElem?_nil, List.set_cons_zero, List.set_cons_succ, ↓reduceIte, Bool.false_eq_true, Bool.not_true, Bool.not_false, Bool.true_and, Bool.false_and, Bool.and_true, Bool.and_false, Bool.or_true, Bool.or_false, Bool.true_or, Bool.false_or, Nat.reduceAdd, Nat.reduceSub, Nat.reduceLT, Nat.reduceLeDiff, true_and, and_true, and_self, decide_eq_true_eq, Nat.zero_lt_succ, Nat.lt_add_left_iff_pos, beq_self_eq_true, String.reduceBEq, String.reduceEq, Nat.le_refl, Nat.zero_le, Bool.true_eq_false, decide_true, decide_false, Int.reduceEq, Int.reduceLT, Int.reduceLE, Int.reduceSub, Int.reduceAdd, hgr, hrL, List.length_map, h']
      exact q
    | @one ds h =>
      by_cases h1 : L.length = 1
      · have h' : ¬ ((ds.length : Int) = 2) := by omega
        simp -implicitDefEqProofs only [DL.WW, List.isEmpty_nil, List.lookup_cons, List.lookup_nil, List.map, List.length, List.length_cons, List.length_nil, List.length_set, List.replicate, List.append, List.cons_append, List.nil_append, List.append_nil, List.getElem?_cons_zero, List.getElem?_cons_succ, List.getElem?_nil, List.set_cons_zero, List.set_cons_succ, ↓reduceIte, Bool.false_eq_true, Bool.not_true, Bool.not_false, Bool.true_and, Bool.false_and, Bool.and_true, Bool.and_false, Bool.or_true, Bool.or_false, Bool.true_or, Bool.false_or, Nat.reduceAdd, Nat.reduceSub, Nat.reduceLT, Nat.reduceLeDiff, true_and, and_true, and_self, decide_eq_true_eq, Nat.zero_lt_succ, Nat.lt_add_left_iff_pos, beq_self_eq_true, String.reduceBEq, String.reduceEq, Nat.le_refl, Nat.zero_le, Bool.true_eq_false, decide_true, decide_false, Int.reduceEq, Int.reduceLT, Int.reduceLE, Int.reduceSub, Int.reduceAdd, hgr, hrL, List.length_map, List.length, h1]
        refine for_use ?_
        simp -implicitDefEqProofs only [DL.WW, List.isEmpty_nil, List.lookup_cons, List.lookup_nil, List.map, List.length, List.length_cons, List.length_nil, List.length_set, List.replicate, List.append, List.cons_append, List.nil_append, List.append_nil, List.getElem?_cons_zero, List.getElem?_cons_succ, List.getElem?_nil, List.set_cons_zero, List.set_cons_succ, ↓reduceIte, Bool.false_eq_true, Bool.not_true, Bool.not_false, Bool.true_and, Bool.false_and, Bool.and_true, Bool.and_false, Bool.or_true, Bool.or_false, Bool.true_or, Bool.false_or, Nat.reduceAdd, Nat.reduceSub, Nat.reduceLT, Nat.reduceLeDiff, true_and, and_true, and_self, decide_eq_true_eq, Nat.zero_lt_succ, Nat.lt_add_left_iff_pos, beq_self_eq_true, String.reduceBEq, String.reduceEq, Nat.le_refl, Nat.zero_le, Bool.true_eq_false, decide_true, decide_false, Int.reduceEq, Int.reduceLT, Int.reduceLE, Int.reduceSub, Int.reduceAdd]
        refine ⟨fun i e => i = 0 ∧ e = [some (.dat (grD L R)), some (.dat (.tuple [.tuple ds])), some (.dat (.int 1)), none, none, none, none], ⟨rfl, rfl⟩, ?_, ?_⟩
        · rintro i d e hd ⟨rfl, rfl⟩
          cases hd
          simp -implicitDefEqProofs only [DL.WW, List.isEmpty_nil, List.lookup_cons, List.lookup_nil, List.map, List.length, List.length_cons, List.length_nil, List.length_set, List.replicate, List.append, List.cons_append, List.nil_append, List.append_nil, List.getElem?_cons_zero, List.getElem?_cons_succ, List.getElem?_nil, List.set_cons_zero, List.set_cons_succ, ↓reduceIte, Bool.false_eq_true, Bool.not_true, Bool.not_false, Bool.true_and, Bool.false_and, Bool.and_true, Bool.and_false, Bool.or_true, Bool.or_false, Bool.true_or, Bool.false_or, Nat.reduceAdd, Nat.reduceSub, Nat.reduceLT, Nat.reduceLeDiff, true_and, and_true, and_self, decide_eq_true_eq, Nat.zero_lt_succ, Nat.lt_add_left_iff_pos, beq_self_eq_true, String.reduceBEq, String.reduceEq, Nat.le_refl, Nat.zero_le, Bool.true_eq_false, decide_true, decide_false, Int.reduceEq, Int.reduceLT, Int.reduceLE, Int.reduceSub, Int.reduceAdd, List.length, h']
          exact q
        · rintro e ⟨h, _⟩
          simp at h
      · have h' : ¬ ((1 : Int) = (L.length : Int)) := by omega
        simp -implicitDefEqProofs only [DL.WW, List.isEmpty_nil, List.lookup_cons, List.lookup_nil, List.map, List.length, List.length_cons, List.length_nil, List.length_set, List.replicate, List.append, List.cons_append, List.nil_append, List.append_nil, List.getElem?_cons_zero, List.getElem?_cons_succ, List.getElem?_nil, List.set_cons_zero, List.set_cons_succ, ↓reduceIte, Bool.false_eq_true, Bool.not_true, Bool.not_false, Bool.true_and, Bool.false_and, Bool.and_true, Bool.and_false, Bool.or_true, Bool.or_false, Bool.true_or, Bool.false_or, Nat.reduceAdd, Nat.reduceSub, Nat.reduceLT, Nat.reduceLeDiff, true_and, and_true, and_self, decide_eq_true_eq, Nat.zero_lt_succ, Nat.lt_add_left_iff_pos, beq_self_eq_true, String.reduceBEq, String.reduceEq, Nat.le_refl, Nat.zero_le, Bool.true_eq_false, decide_true, decide_false, Int.reduceEq, Int.reduceLT, Int.reduceLE, Int.reduceSub, Int.reduceAdd, hgr, hrL, List.length_map, List.length, h']
        exact q
end
end K74D


set_option Elab.async false
set_option linter.all false
set_option maxRecDepth 100000
set_option maxHeartbeats 4000000
namespace K74D
open PySem L2 TG DL K74 GM SV
section
variable {P : Program} {w : World} {K : PySem.W.Frag} {mg : Str → Option Value} {base : Heap}
inductive LS : PyData → Prop
  | leaf {d : PyData} : Any.Leaf d → LS d
  | str {s : Str} : PyData.strOk s = true → LS (.str s)
inductive DL0 : PyData → Prop
  | non : DL0 .none
  | int (n : Int) : DL0 (.int n)
  | str {s : Str} : PyData.strOk s = true → DL0 (.str s)
def F_nev : FSp := fun _ _ => False
def F_al0 : FSp := fun args P => ∃ d e : PyData, args = [some (.dat d), some (.dat e)] ∧ LS d ∧ DL0 e ∧ ∀ b : Bool, (b = true ↔ d = e) → P (.dat (.bool b)) [none, none]
end
namespace Leaf
section
variable {P : Program} {w : World} {K : PySem.W.Frag} {mg : Str → Option Value} {base : Heap}
theorem ok_law_alike {k : Nat} (T : Txt K mg) (G_law_alike : FnOk P w K mg base CX0 (k) T.a_law_alike T.d_law_alike ["_law_found", "_law_due"] (spD K F_nev)) : FnOk P w K mg base CX0 (k + 1) T.a_law_alike T.d_law_alike ["_law_found", "_law_due"] (spD K F_al0) := by
  refine (fun (hA : ∀ args P, F_al0 args P → args.length = 2) => T.F_law_alike.ok (sp := spD K F_al0) sc_law_alike (fun vs H Q E h => spD_len hA h) (fun cdv A outer s H vs Q E hr h => ⟨_, (pss_cons (ps_if (pt_val (pe_callB (call_isiTK (K := K) rfl) rfl T.m_isinstance (by decide +kernel) (pa_cons (pv 1) (pa_cons (pe_tup (pa_cons (pe_bltn (v := .ty "tuple") (u := .type "tuple") rfl T.m_tuple (by decide +kernel) rfl) (pa_cons (pe_bltn (v := .ty "list") (u := .type "list") rfl T.m_list (by decide +kernel) rfl) pa_nil))) pa_nil))))
  (pss_cons (ps_if (PW.pt (pw_or (pt_not (pt_val (pe_callB (call_isiTK (K := K) rfl) rfl T.m_isinstance (by decide +kernel) (pa_cons (pv 0) (pa_cons (pe_tup (pa_cons (pe_bltn (v := .ty "tuple") (u := .type "tuple") rfl T.m_tuple (by decide +kernel) rfl) (pa_cons (pe_bltn (v := .ty "list") (u := .type "list") rfl T.m_list (by decide +kernel) rfl) pa_nil))) pa_nil))))) (pw_or1 (pt_cmpR (op_neDK (K := K) rfl hr.units) (pe_callB (call_isiX (K := K) rfl) rfl T.m_isinstance (by decide +kernel) (pa_cons (pv 0) (pa_cons (pe_bltn (v := .ty "list") (u := .type "list") rfl T.m_list (by decide +kernel) rfl) pa_nil))) (pe_callB (call_isiX (K := K) rfl) rfl T.m_isinstance (by decide +kernel) (pa_cons (pv 1) (pa_cons (pe_bltn (v := .ty "list") (u := .type "list") rfl T.m_list (by decide +kernel) rfl) pa_nil))) (nomark _)))))
  (pss_one (ps_ret pe_bl))
  pss_nil)
  (pss_cons (ps_if (pt_cmpR (op_neDK (K := K) rfl hr.units) (pe_callB (call_lenK (K := K) rfl) rfl T.m_len PySem.boot_len (pa_cons (pv 0) pa_nil)) (pe_callB (call_lenK (K := K) rfl) rfl T.m_len PySem.boot_len (pa_cons (pv 1) pa_nil)) (nomark _))
  (pss_one (ps_ret pe_bl))
  pss_nil)
  (pss_one (ps_ret (pe_cmpR (op_eqDK (K := K) rfl hr.units) (pe_lc (own := [("_law_k", 2)]) rfl sc_law_alike.nd (pi_range1 rfl T.m_range (pa_cons (pe_callB (call_lenK (K := K) rfl) rfl T.m_len PySem.boot_len (pa_cons (pv 1) pa_nil)) pa_nil)) (blkOk_by (N := ["_law_found", "_law_due", "_law_k"]) (sc := defScope s_law_alike) (by decide +kernel)) (fun _ _ _ _ _ => (pg_name (i := 2) sc_law_alike.nd rfl (Or.inl rfl))) (fun _ _ _ _ _ => (pts_one (pt_not (pt_val (pe_call G_law_alike hr rfl T.g_law_alike T.F_law_alike.kp T.b_law_alike .nil pass0 (pa_cons (pe_ix (ix_seqK (K := K) rfl) (pv 0) (pv 2) (fun _ _ => rfl)) (pa_cons (pe_ix (ix_seqK (K := K) rfl) (pv 1) (pv 2) (fun _ _ => rfl)) pa_nil))))))) (fun _ _ _ _ _ => (pv 2))) (pe_lst pa_nil) (nomark _))))))
  pss_nil)
  (pss_cons (ps_if (PW.pt (pw_or (pt_cmpR op_isN (pv 1) pe_non (nomark _)) (pw_or1 (pt_val (pe_callB (call_isiX (K := K) rfl) rfl T.m_isinstance (by decide +kernel) (pa_cons (pv 1) (pa_cons (pe_bltn (v := .ty "str") (u := .type "str") rfl T.m_str (by decide +kernel) rfl) pa_nil)))))))
  (pss_one (ps_ret (pe_and (pe_cmpR (op_eqDK (K := K) rfl hr.units) (pv 0) (pv 1) (nomark _)) (pe_one (pe_cmpR (op_eqDK (K := K) rfl hr.units) (pe_callB (call_isiX (K := K) rfl) rfl T.m_isinstance (by decide +kernel) (pa_cons (pv 0) (pa_cons (pe_bltn (v := .ty "str") (u := .type "str") rfl T.m_str (by decide +kernel) rfl) pa_nil))) (pe_callB (call_isiX (K := K) rfl) rfl T.m_isinstance (by decide +kernel) (pa_cons (pv 1) (pa_cons (pe_bltn (v := .ty "str") (u := .type "str") rfl T.m_str (by decide +kernel) rfl) pa_nil))) (nomark _))))))
  pss_nil)
  (pss_one (ps_ret (pe_and (pe_callB (call_isiX (K := K) rfl) rfl T.m_isinstance (by decide +kernel) (pa_cons (pv 0) (pa_cons (pe_bltn (v := .ty "int") (u := .type "int") rfl T.m_int (by decide +kernel) rfl) pa_nil))) (pe_and (pe_cmpR (op_eqDK (K := K) rfl hr.units) (pe_callB (call_isiX (K := K) rfl) rfl T.m_isinstance (by decide +kernel) (pa_cons (pv 0) (pa_cons (pe_bltn (v := .ty "bool") (u := .type "bool") rfl T.m_bool (by decide +kernel) rfl) pa_nil))) (pe_callB (call_isiX (K := K) rfl) rfl T.m_isinstance (by decide +kernel) (pa_cons (pv 1) (pa_cons (pe_bltn (v := .ty "bool") (u := .type "bool") rfl T.m_bool (by decide +kernel) rfl) pa_nil))) (nomark _)) (pe_one (pe_cmpR (op_eqDK (K := K) rfl hr.units) (pv 0) (pv 1) (nomark _))))))))), fn_run (N := ["_law_found", "_law_due", "_law_k"]) h (fun A' Hz' => (ss_seq (ss_if (st_B (se_isi2 rfl rfl se_var))
  (ss_seq (ss_if (st_or (st_not (st_B (se_isi2 rfl rfl se_var))) (st_test (se_op sr_neD (se_isi rfl se_var) (se_isi rfl se_var))))
  (ss_ret se_bl)
  ss_next)
  (ss_seq (ss_if (st_test (se_op sr_neD (se_cb1 sc_len se_var) (se_cb1 sc_len se_var)))
  (ss_ret se_bl)
  ss_next)
  (ss_ret (se_op sr_eqD (se_lc (si_rng1 (se_cb1 sc_len se_var)) sg_name (st_not (st_B (se_call (sa_cons (se_op sr_ix se_var se_var) (sa_cons (se_op sr_ix se_var se_var) sa_nil))))) se_var (by decide)) (se_lst sa_nil)))))
  ss_next)
  (ss_seq (ss_if (st_or (st_test (se_op sr_isN se_var se_non)) (st_B (se_isi rfl se_var)))
  (ss_ret (se_andV (se_op sr_eqD se_var se_var) (se_op sr_eqD (se_isi rfl se_var) (se_isi rfl se_var))))
  ss_next)
  (ss_ret (se_andV (se_isi rfl se_var) (se_andV (se_op sr_eqD (se_isi rfl se_var) (se_isi rfl se_var)) (se_op sr_eqD se_var se_var))))))) (fun args P hl hF => ?_) (by rw [spD_len hA h]; exact Nat.le_of_ble_eq_true rfl)⟩)) (fun args P hF => ?_)
  rotate_left
  · obtain ⟨d, e, rfl, _⟩ := hF
    rfl
  obtain ⟨d, e, rfl, hd, he, q⟩ := hF
  have qf : d ≠ e → P (.dat (.bool false)) [none, none] := fun h => q false ⟨fun h' => (by cases h'), fun h' => absurd h' h⟩
  have qt : d = e → P (.dat (.bool true)) [none, none] := fun h => q true ⟨fun _ => h, fun _ => rfl⟩
  have nf : ∀ {X Y : Prop}, Y → (if false = true then X else Y) := fun y => by rw [if_neg (by decide)]; exact y
  cases he with
  | non =>
    cases hd with
    | leaf hd =>
      cases hd with
      | non => simp -implicitDefEqProofs only [DL.WW, List.isEmpty_nil, List.lookup_cons, List.lookup_nil, List.map, List.length, List.length_cons, List.length_nil, List.length_set, List.replicate, List.append, List.cons_append, List.nil_append, List.append_nil, List.getElem?_cons_zero, List.getElem?_cons_succ, List.getElem?_nil, List.set_cons_zero, List.set_cons_succ, ↓reduceIte, Bool.false_eq_true, Bool.not_true, Bool.not_false, Bool.true_and, Bool.false_and, Bool.and_true, Bool.and_false, Bool.or_true, Bool.or_false, Bool.true_or, Bool.false_or, Nat.reduceAdd, Nat.reduceSub, Nat.reduceLT, Nat.reduceLeDiff, true_and, and_true, and_self, decide_eq_true_eq, Nat.zero_lt_succ, Nat.lt_add_left_iff_pos, beq_self_eq_true, String.reduceBEq, String.reduceEq, Nat.le_refl, Nat.zero_le, Bool.true_eq_false, decide_true, decide_false, Int.reduceEq, Int.reduceLT, Int.reduceLE, Int.reduceSub, Int.reduceAdd]; exact qt rfl
      | int n =>
        simp -implicitDefEqProofs only [DL.WW, List.isEmpty_nil, List.lookup_cons, List.lookup_nil, List.map, List.length, List.length_cons, List.length_nil, List.length_set, List.replicate, List.append, List.cons_append, List.nil_append, List.append_nil, List.getElem?_cons_zero, List.getElem?_cons_succ, List.getElem?_nil, List.set_cons_zero, List.set_cons_succ, ↓reduceIte, Bool.false_eq_true, Bool.not_true, Bool.not_false, Bool.true_and, Bool.false_and, Bool.and_true, Bool.and_false, Bool.or_true, Bool.or_false, Bool.true_or, Bool.false_or, Nat.reduceAdd, Nat.reduceSub, Nat.reduceLT, Nat.reduceLeDiff, true_and, and_true, and_self, decide_eq_true_eq, Nat.zero_lt_succ, Nat.lt_add_left_iff_pos, beq_self_eq_true, String.reduceBEq, String.reduceEq, Nat.le_refl, Nat.zero_le, Bool.true_eq_false, decide_true, decide_false, Int.reduceEq, Int.reduceLT, Int.reduceLE, Int.reduceSub, Int.reduceAdd]
        rw [show PyData.eqv (.int n) .none = false by rw [PyData.eqv] <;> simp]
        exact nf (qf (fun h => by cases h))
      | bool n =>
        simp -implicitDefEqProofs only [DL.WW, List.isEmpty_nil, List.lookup_cons, List.lookup_nil, List.map, List.length, List.length_cons, List.length_nil, List.length_set, List.replicate, List.append, List.cons_append, List.nil_append, List.append_nil, List.getElem?_cons_zero, List.getElem?_cons_succ, List.getElem?_nil, List.set_cons_zero, List.set_cons_succ, ↓reduceIte, Bool.false_eq_true, Bool.not_true, Bool.not_false, Bool.true_and, Bool.false_and, Bool.and_true, Bool.and_false, Bool.or_true, Bool.or_false, Bool.true_or, Bool.false_or, Nat.reduceAdd, Nat.reduceSub, Nat.reduceLT, Nat.reduceLeDiff, true_and, and_true, and_self, decide_eq_true_eq, Nat.zero_lt_succ, Nat.lt_add_left_iff_pos, beq_self_eq_true, String.reduceBEq, String.reduceEq, Nat.le_refl, Nat.zero_le, Bool.true_eq_false, decide_true, decide_false, Int.reduceEq, Int.reduceLT, Int.reduceLE, Int.reduceSub, Int.reduceAdd]
        rw [show PyData.eqv (.bool n) .none = false by rw [PyData.eqv] <;> simp]
        exact nf (qf (fun h => by cases h))
    | @str x hs =>
      simp -implicitDefEqProofs only [DL.WW, List.isEmpty_nil, List.lookup_cons, List.lookup_nil, List.map, List.length, List.length_cons, List.length_nil, List.length_set, List.replicate, List.append, List.cons_append, List.nil_append, List.append_nil, List.getElem?_cons_zero, List.getElem?_cons_succ, List.getElem?_nil, List.set_cons_zero, List.set_cons_succ, ↓reduceIte, Bool.false_eq_true, Bool.not_true, Bool.not_false, Bool.true_and, Bool.false_and, Bool.and_true, Bool.and_false, Bool.or_true, Bool.or_false, Bool.true_or, Bool.false_or, Nat.reduceAdd, Nat.reduceSub, Nat.reduceLT, Nat.reduceLeDiff, true_and, and_true, and_self, decide_eq_true_eq, Nat.zero_lt_succ, Nat.lt_add_left_iff_pos, beq_self_eq_true, String.reduceBEq, String.reduceEq, Nat.le_refl, Nat.zero_le, Bool.true_eq_false, decide_true, decide_false, Int.reduceEq, Int.reduceLT, Int.reduceLE, Int.reduceSub, Int.reduceAdd]
      refine ⟨hs, ?_⟩
      rw [show PyData.eqv (.str x) .none = false by rw [PyData.eqv] <;> simp]
      exact nf (qf (fun h => by cases h))
  | int n =>
    cases hd with
    | leaf hd =>
      cases hd with
      | non => simp -implicitDefEqProofs only [DL.WW, List.isEmpty_nil, List.lookup_cons, List.lookup_nil, List.map, List.length, List.length_cons, List.length_nil, List.length_set, List.replicate, List.append, List.cons_append, List.nil_append, List.append_nil, List.getElem?_cons_zero, List.getElem?_cons_succ, List.getElem?_nil, List.set_cons_zero, List.set_cons_succ, ↓reduceIte, Bool.false_eq_true, Bool.not_true, Bool.not_false, Bool.true_and, Bool.false_and, Bool.and_true, Bool.and_false, Bool.or_true, Bool.or_false, Bool.true_or, Bool.false_or, Nat.reduceAdd, Nat.reduceSub, Nat.reduceLT, Nat.reduceLeDiff, true_and, and_true, and_self, decide_eq_true_eq, Nat.zero_lt_succ, Nat.lt_add_left_iff_pos, beq_self_eq_true, String.reduceBEq, String.reduceEq, Nat.le_refl, Nat.zero_le, Bool.true_eq_false, decide_true, decide_false, Int.reduceEq, Int.reduceLT, Int.reduceLE, Int.reduceSub, Int.reduceAdd]; exact qf (fun h => by cases h)
      | int m =>
        simp -implicitDefEqProofs only [DL.WW, List.isEmpty_nil, List.lookup_cons, List.lookup_nil, List.map, List.length, List.length_cons, List.length_nil, List.length_set, List.replicate, List.append, List.cons_append, List.nil_append, List.append_nil, List.getElem?_cons_zero, List.getElem?_cons_succ, List.getElem?_nil, List.set_cons_zero, List.set_cons_succ, ↓reduceIte, Bool.false_eq_true, Bool.not_true, Bool.not_false, Bool.true_and, Bool.false_and, Bool.and_true, Bool.and_false, Bool.or_true, Bool.or_false, Bool.true_or, Bool.false_or, Nat.reduceAdd, Nat.reduceSub, Nat.reduceLT, Nat.reduceLeDiff, true_and, and_true, and_self, decide_eq_true_eq, Nat.zero_lt_succ, Nat.lt_add_left_iff_pos, beq_self_eq_true, String.reduceBEq, String.reduceEq, Nat.le_refl, Nat.zero_le, Bool.true_eq_false, decide_true, decide_false, Int.reduceEq, Int.reduceLT, Int.reduceLE, Int.reduceSub, Int.reduceAdd]
        exact q _ ⟨fun h => by rw [of_decide_eq_true h], fun h => decide_eq_true (PyData.int.inj h)⟩
      | bool m => simp -implicitDefEqProofs only [DL.WW, List.isEmpty_nil, List.lookup_cons, List.lookup_nil, List.map, List.length, List.length_cons, List.length_nil, List.length_set, List.replicate, List.append, List.cons_append, List.nil_append, List.append_nil, List.getElem?_cons_zero, List.getElem?_cons_succ, List.getElem?_nil, List.set_cons_zero, List.set_cons_succ, ↓reduceIte, Bool.false_eq_true, Bool.not_true, Bool.not_false, Bool.true_and, Bool.false_and, Bool.and_true, Bool.and_false, Bool.or_true, Bool.or_false, Bool.true_or, Bool.false_or, Nat.reduceAdd, Nat.reduceSub, Nat.reduceLT, Nat.reduceLeDiff, true_and, and_true, and_self, decide_eq_true_eq, Nat.zero_lt_succ, Nat.lt_add_left_iff_pos, beq_self_eq_true, String.reduceBEq, String.reduceEq, Nat.le_refl, Nat.zero_le, Bool.true_eq_false, decide_true, decide_false, Int.reduceEq, Int.reduceLT, Int.reduceLE, Int.reduceSub, Int.reduceAdd]; exact qf (fun h => by cases h)
    | str hs => simp -implicitDefEqProofs only [DL.WW, List.isEmpty_nil, List.lookup_cons, List.lookup_nil, List.map, List.length, List.length_cons, List.length_nil, List.length_set, List.replicate, List.append, List.cons_append, List.nil_append, List.append_nil, List.getElem?_cons_zero, List.getElem?_cons_succ, List.getElem?_nil, List.set_cons_zero, List.set_cons_succ, ↓reduceIte, Bool.false_eq_true, Bool.not_true, Bool.not_false, Bool.true_and, Bool.false_and, Bool.and_true, Bool.and_false, Bool.or_true, Bool.or_false, Bool.true_or, Bool.false_or, Nat.reduceAdd, Nat.reduceSub, Nat.reduceLT, Nat.reduceLeDiff, true_and, and_true, and_self, decide_eq_true_eq, Nat.zero_lt_succ, Nat.lt_add_left_iff_pos, beq_self_eq_true, String.reduceBEq, String.reduceEq, Nat.le_refl, Nat.zero_le, Bool.true_eq_false, decide_true, decide_false, Int.reduceEq, Int.reduceLT, Int.reduceLE, Int.reduceSub, Int.reduceAdd]; exact qf (fun h => by cases h)
  | @str y hs2 =>
    cases hd with
    | leaf hd =>
      cases hd with
      | non =>
        simp -implicitDefEqProofs only [DL.WW, List.isEmpty_nil, List.lookup_cons, List.lookup_nil, List.map, List.length, List.length_cons, List.length_nil, List.length_set, List.replicate, List.append, List.cons_append, List.nil_append, List.append_nil, List.getElem?_cons_zero, List.getElem?_cons_succ, List.getElem?_nil, List.set_cons_zero, List.set_cons_succ, ↓reduceIte, Bool.false_eq_true, Bool.not_true, Bool.not_false, Bool.true_and, Bool.false_and, Bool.and_true, Bool.and_false, Bool.or_true, Bool.or_false, Bool.true_or, Bool.false_or, Nat.reduceAdd, Nat.reduceSub, Nat.reduceLT, Nat.reduceLeDiff, true_and, and_true, and_self, decide_eq_true_eq, Nat.zero_lt_succ, Nat.lt_add_left_iff_pos, beq_self_eq_true, String.reduceBEq, String.reduceEq, Nat.le_refl, Nat.zero_le, Bool.true_eq_false, decide_true, decide_false, Int.reduceEq, Int.reduceLT, Int.reduceLE, Int.reduceSub, Int.reduceAdd]
        refine ⟨hs2, ?_⟩
        rw [show PyData.eqv .none (.str y) = false by rw [PyData.eqv] <;> simp]
        exact nf (qf (fun h => by cases h))
      | int m =>
        simp -implicitDefEqProofs only [DL.WW, List.isEmpty_nil, List.lookup_cons, List.lookup_nil, List.map, List.length, List.length_cons, List.length_nil, List.length_set, List.replicate, List.append, List.cons_append, List.nil_append, List.append_nil, List.getElem?_cons_zero, List.getElem?_cons_succ, List.getElem?_nil, List.set_cons_zero, List.set_cons_succ, ↓reduceIte, Bool.false_eq_true, Bool.not_true, Bool.not_false, Bool.true_and, Bool.false_and, Bool.and_true, Bool.and_false, Bool.or_true, Bool.or_false, Bool.true_or, Bool.false_or, Nat.reduceAdd, Nat.reduceSub, Nat.reduceLT, Nat.reduceLeDiff, true_and, and_true, and_self, decide_eq_true_eq, Nat.zero_lt_succ, Nat.lt_add_left_iff_pos, beq_self_eq_true, String.reduceBEq, String.reduceEq, Nat.le_refl, Nat.zero_le, Bool.true_eq_false, decide_true, decide_false, Int.reduceEq, Int.reduceLT, Int.reduceLE, Int.reduceSub, Int.reduceAdd]
        refine ⟨hs2, ?_⟩
        rw [show PyData.eqv (.int m) (.str y) = false by rw [PyData.eqv] <;> simp]
        exact nf (qf (fun h => by cases h))
      | bool m =>
        simp -implicitDefEqProofs only [DL.WW, List.isEmpty_nil, List.lookup_cons, List.lookup_nil, List.map, List.length, List.length_cons, List.length_nil, List.length_set, List.replicate, List.append, List.cons_append, List.nil_append, List.append_nil, List.getElem?_cons_zero, List.getElem?_cons_succ, List.getElem?_nil, List.set_cons_zero, List.set_cons_succ, ↓reduceIte, Bool.false_eq_true, Bool.not_true, Bool.not_false, Bool.true_and, Bool.false_and, Bool.and_true, Bool.and_false, Bool.or_true, Bool.or_false, Bool.true_or, Bool.false_or, Nat.reduceAdd, Nat.reduceSub, Nat.reduceLT, Nat.reduceLeDiff, true_and, and_true, and_self, decide_eq_true_eq, Nat.zero_lt_succ, Nat.lt_add_left_iff_pos, beq_self_eq_true, String.reduceBEq, String.reduceEq, Nat.le_refl, Nat.zero_le, Bool.true_eq_false, decide_true, decide_false, Int.reduceEq, Int.reduceLT, Int.reduceLE, Int.reduceSub, Int.reduceAdd]
        refine ⟨hs2, ?_⟩
        rw [show PyData.eqv (.bool m) (.str y) = false by rw [PyData.eqv] <;> simp]
        exact nf (qf (fun h => by cases h))
    | @str x hs =>
      simp -implicitDefEqProofs only [DL.WW, List.isEmpty_nil, List.lookup_cons, List.lookup_nil, List.map, List.length, List.length_cons, List.length_nil, List.length_set, List.replicate, List.append, List.cons_append, List.nil_append, List.append_nil, List.getElem?_cons_zero, List.getElem?_cons_succ, List.getElem?_nil, List.set_cons_zero, List.set_cons_succ, ↓reduceIte, Bool.false_eq_true, Bool.not_true, Bool.not_false, Bool.true_and, Bool.false_and, Bool.and_true, Bool.and_false, Bool.or_true, Bool.or_false, Bool.true_or, Bool.false_or, Nat.reduceAdd, Nat.reduceSub, Nat.reduceLT, Nat.reduceLeDiff, true_and, and_true, and_self, decide_eq_true_eq, Nat.zero_lt_succ, Nat.lt_add_left_iff_pos, beq_self_eq_true, String.reduceBEq, String.reduceEq, Nat.le_refl, Nat.zero_le, Bool.true_eq_false, decide_true, decide_false, Int.reduceEq, Int.reduceLT, Int.reduceLE, Int.reduceSub, Int.reduceAdd]
      refine ⟨hs, hs2, ?_⟩
      by_cases c : x = y
      · subst c
        simp only [if_true, decide_true]
        exact qt rfl
      · simp only [c, if_false, decide_false, Bool.false_eq_true]
        exact qf (fun h => c (PyData.str.inj h))
end
end Leaf
section
variable {P : Program} {w : World} {K : PySem.W.Frag} {mg : Str → Option Value} {base : Heap}
def accA (b1 b2 : Bool) : Nat → List PyData
  | 0 => []
  | 1 => bif b1 then [] else [.int 0]
  | _ => (bif b1 then [] else [.int 0]) ++ (bif b2 then [] else [.int 1])
theorem accA_len (b1 b2 : Bool) : ∀ j, (accA b1 b2 j).length ≤ 2
  | 0 => Nat.zero_le _
  | 1 => by cases b1 <;> simp [accA]
  | _ + 2 => by cases b1 <;> cases b2 <;> simp [accA]
theorem wD_parts (x : Option (Nat × Nat)) : ∃ s z, wD x = .tuple [.str s, z] ∧ DL0 (.str s) ∧ DL0 z := by
  rw [wD_two]
  have sw : PyData.strOk (wordO x) = true := by
    cases x with
    | none => decide +kernel
    | some p =>
      unfold wordO wordS
      dsimp only
      split <;> decide +kernel
  refine ⟨_, _, rfl, .str sw, ?_⟩
  cases x with
  | none => exact .non
  | some p => exact .int _
def F_law_alike : FSp := fun args P => ∃ (ds : List PyData) (x : Option (Nat × Nat)), args = [some (.dat (.tuple ds)), some (.dat (wD x))] ∧ ((∃ s, ds = [.str s] ∧ PyData.strOk s = true) ∨ ∃ s d, ds = [.str s, d] ∧ PyData.strOk s = true ∧ Any.Leaf d) ∧ ∀ b : Bool, (b = true ↔ .tuple ds = wD x) → P (.dat (.bool b)) [none, none]
theorem ok_law_alike {k : Nat} (T : Txt K mg) (G_law_alike : FnOk P w K mg base CX0 (k) T.a_law_alike T.d_law_alike ["_law_found", "_law_due"] (spD K F_al0)) : FnOk P w K mg base CX0 (k + 1) T.a_law_alike T.d_law_alike ["_law_found", "_law_due"] (spD K F_law_alike) := by
  refine (fun (hA : ∀ args P, F_law_alike args P → args.length = 2) => T.F_law_alike.ok (sp := spD K F_law_alike) sc_law_alike (fun vs H Q E h => spD_len hA h) (fun cdv A outer s H vs Q E hr h => ⟨_, (pss_cons (ps_if (pt_val (pe_callB (call_isiTK (K := K) rfl) rfl T.m_isinstance (by decide +kernel) (pa_cons (pv 1) (pa_cons (pe_tup (pa_cons (pe_bltn (v := .ty "tuple") (u := .type "tuple") rfl T.m_tuple (by decide +kernel) rfl) (pa_cons (pe_bltn (v := .ty "list") (u := .type "list") rfl T.m_list (by decide +kernel) rfl) pa_nil))) pa_nil))))
  (pss_cons (ps_if (PW.pt (pw_or (pt_not (pt_val (pe_callB (call_isiTK (K := K) rfl) rfl T.m_isinstance (by decide +kernel) (pa_cons (pv 0) (pa_cons (pe_tup (pa_cons (pe_bltn (v := .ty "tuple") (u := .type "tuple") rfl T.m_tuple (by decide +kernel) rfl) (pa_cons (pe_bltn (v := .ty "list") (u := .type "list") rfl T.m_list (by decide +kernel) rfl) pa_nil))) pa_nil))))) (pw_or1 (pt_cmpR (op_neDK (K := K) rfl hr.units) (pe_callB (call_isiX (K := K) rfl) rfl T.m_isinstance (by decide +kernel) (pa_cons (pv 0) (pa_cons (pe_bltn (v := .ty "list") (u := .type "list") rfl T.m_list (by decide +kernel) rfl) pa_nil))) (pe_callB (call_isiX (K := K) rfl) rfl T.m_isinstance (by decide +kernel) (pa_cons (pv 1) (pa_cons (pe_bltn (v := .ty "list") (u := .type "list") rfl T.m_list (by decide +kernel) rfl) pa_nil))) (nomark _)))))
  (pss_one (ps_ret pe_bl))
  pss_nil)
  (pss_cons (ps_if (pt_cmpR (op_neDK (K := K) rfl hr.units) (pe_callB (call_lenK (K := K) rfl) rfl T.m_len PySem.boot_len (pa_cons (pv 0) pa_nil)) (pe_callB (call_lenK (K := K) rfl) rfl T.m_len PySem.boot_len (pa_cons (pv 1) pa_nil)) (nomark _))
  (pss_one (ps_ret pe_bl))
  pss_nil)
  (pss_one (ps_ret (pe_cmpR (op_eqDK (K := K) rfl hr.units) (pe_lc (own := [("_law_k", 2)]) rfl sc_law_alike.nd (pi_range1 rfl T.m_range (pa_cons (pe_callB (call_lenK (K := K) rfl) rfl T.m_len PySem.boot_len (pa_cons (pv 1) pa_nil)) pa_nil)) (blkOk_by (N := ["_law_found", "_law_due", "_law_k"]) (sc := defScope s_law_alike) (by decide +kernel)) (fun _ _ _ _ _ => (pg_name (i := 2) sc_law_alike.nd rfl (Or.inl rfl))) (fun _ _ _ _ _ => (pts_one (pt_not (pt_val (pe_call G_law_alike hr rfl T.g_law_alike T.F_law_alike.kp T.b_law_alike .nil pass0 (pa_cons (pe_ix (ix_seqK (K := K) rfl) (pv 0) (pv 2) (fun _ _ => rfl)) (pa_cons (pe_ix (ix_seqK (K := K) rfl) (pv 1) (pv 2) (fun _ _ => rfl)) pa_nil))))))) (fun _ _ _ _ _ => (pv 2))) (pe_lst pa_nil) (nomark _))))))
  pss_nil)
  (pss_cons (ps_if (PW.pt (pw_or (pt_cmpR op_isN (pv 1) pe_non (nomark _)) (pw_or1 (pt_val (pe_callB (call_isiX (K := K) rfl) rfl T.m_isinstance (by decide +kernel) (pa_cons (pv 1) (pa_cons (pe_bltn (v := .ty "str") (u := .type "str") rfl T.m_str (by decide +kernel) rfl) pa_nil)))))))
  (pss_one (ps_ret (pe_and (pe_cmpR (op_eqDK (K := K) rfl hr.units) (pv 0) (pv 1) (nomark _)) (pe_one (pe_cmpR (op_eqDK (K := K) rfl hr.units) (pe_callB (call_isiX (K := K) rfl) rfl T.m_isinstance (by decide +kernel) (pa_cons (pv 0) (pa_cons (pe_bltn (v := .ty "str") (u := .type "str") rfl T.m_str (by decide +kernel) rfl) pa_nil))) (pe_callB (call_isiX (K := K) rfl) rfl T.m_isinstance (by decide +kernel) (pa_cons (pv 1) (pa_cons (pe_bltn (v := .ty "str") (u := .type "str") rfl T.m_str (by decide +kernel) rfl) pa_nil))) (nomark _))))))
  pss_nil)
  (pss_one (ps_ret (pe_and (pe_callB (call_isiX (K := K) rfl) rfl T.m_isinstance (by decide +kernel) (pa_cons (pv 0) (pa_cons (pe_bltn (v := .ty "int") (u := .type "int") rfl T.m_int (by decide +kernel) rfl) pa_nil))) (pe_and (pe_cmpR (op_eqDK (K := K) rfl hr.units) (pe_callB (call_isiX (K := K) rfl) rfl T.m_isinstance (by decide +kernel) (pa_cons (pv 0) (pa_cons (pe_bltn (v := .ty "bool") (u := .type "bool") rfl T.m_bool (by decide +kernel) rfl) pa_nil))) (pe_callB (call_isiX (K := K) rfl) rfl T.m_isinstance (by decide +kernel) (pa_cons (pv 1) (pa_cons (pe_bltn (v := .ty "bool") (u := .type "bool") rfl T.m_bool (by decide +kernel) rfl) pa_nil))) (nomark _)) (pe_one (pe_cmpR (op_eqDK (K := K) rfl hr.units) (pv 0) (pv 1) (nomark _))))))))), fn_run (N := ["_law_found", "_law_due", "_law_k"]) h (fun A' Hz' => (ss_seq (ss_if (st_B (se_isi2 rfl rfl se_var))
  (ss_seq (ss_if (st_or (st_not (st_B (se_isi2 rfl rfl se_var))) (st_test (se_op sr_neD (se_isi rfl se_var) (se_isi rfl se_var))))
  (ss_ret se_bl)
  ss_next)
  (ss_seq (ss_if (st_test (se_op sr_neD (se_cb1 sc_len se_var) (se_cb1 sc_len se_var)))
  (ss_ret se_bl)
  ss_next)
  (ss_ret (se_op sr_eqD (se_lc (si_rng1 (se_cb1 sc_len se_var)) sg_name (st_not (st_B (se_call (sa_cons (se_op sr_ix se_var se_var) (sa_cons (se_op sr_ix se_var se_var) sa_nil))))) se_var (by decide)) (se_lst sa_nil)))))
  ss_next)
  (ss_seq (ss_if (st_or (st_test (se_op sr_isN se_var se_non)) (st_B (se_isi rfl se_var)))
  (ss_ret (se_andV (se_op sr_eqD se_var se_var) (se_op sr_eqD (se_isi rfl se_var) (se_isi rfl se_var))))
  ss_next)
  (ss_ret (se_andV (se_isi rfl se_var) (se_andV (se_op sr_eqD (se_isi rfl se_var) (se_isi rfl se_var)) (se_op sr_eqD se_var se_var))))))) (fun args P hl hF => ?_) (by rw [spD_len hA h]; exact Nat.le_of_ble_eq_true rfl)⟩)) (fun args P hF => ?_)
  rotate_left
  · obtain ⟨d, e, rfl, _⟩ := hF
    rfl
  obtain ⟨ds, x, rfl, hds, q⟩ := hF
  obtain ⟨s, z, ex, hs, hz⟩ := wD_parts x
  rw [ex] at q ⊢
  rcases hds with ⟨s', rfl, hs'⟩ | ⟨s', d, rfl, hs', hd⟩
  · simp -implicitDefEqProofs only [DL.WW, List.isEmpty_nil, List.lookup_cons, List.lookup_nil, List.map, List.length, List.length_cons, List.length_nil, List.length_set, List.replicate, List.append, List.cons_append, List.nil_append, List.append_nil, List.getElem?_cons_zero, List.getElem?_cons_succ, List.getElem?_nil, List.set_cons_zero, List.set_cons_succ, ↓reduceIte, Bool.false_eq_true, Bool.not_true, Bool.not_false, Bool.true_and, Bool.false_and, Bool.and_true, Bool.and_false, Bool.or_true, Bool.or_false, Bool.true_or, Bool.false_or, Nat.reduceAdd, Nat.reduceSub, Nat.reduceLT, Nat.reduceLeDiff, true_and, and_true, and_self, decide_eq_true_eq, Nat.zero_lt_succ, Nat.lt_add_left_iff_pos, beq_self_eq_true, String.reduceBEq, String.reduceEq, Nat.le_refl, Nat.zero_le, Bool.true_eq_false, decide_true, decide_false, Int.reduceEq, Int.reduceLT, Int.reduceLE, Int.reduceSub, Int.reduceAdd, List.length]
    exact q false ⟨fun h => (by cases h), fun h => (by
      have := PyData.tuple.inj h
      simp at this)⟩
  · obtain ⟨b1, hb1⟩ : ∃ b : Bool, (b = true ↔ PyData.str s' = .str s) := ⟨@decide (PyData.str s' = .str s) (Classical.propDecidable _), ⟨fun h => @of_decide_eq_true _ (Classical.propDecidable _) h, fun h => @decide_eq_true _ (Classical.propDecidable _) h⟩⟩
    obtain ⟨b2, hb2⟩ : ∃ b : Bool, (b = true ↔ d = z) := ⟨@decide (d = z) (Classical.propDecidable _), ⟨fun h => @of_decide_eq_true _ (Classical.propDecidable _) h, fun h => @decide_eq_true _ (Classical.propDecidable _) h⟩⟩
    simp -implicitDefEqProofs only [DL.WW, List.isEmpty_nil, List.lookup_cons, List.lookup_nil, List.map, List.length, List.length_cons, List.length_nil, List.length_set, List.replicate, List.append, List.cons_append, List.nil_append, List.append_nil, List.getElem?_cons_zero, List.getElem?_cons_succ, List.getElem?_nil, List.set_cons_zero, List.set_cons_succ, ↓reduceIte, Bool.false_eq_true, Bool.not_true, Bool.not_false, Bool.true_and, Bool.false_and, Bool.and_true, Bool.and_false, Bool.or_true, Bool.or_false, Bool.true_or, Bool.false_or, Nat.reduceAdd, Nat.reduceSub, Nat.reduceLT, Nat.reduceLeDiff, true_and, and_true, and_self, decide_eq_true_eq, Nat.zero_lt_succ, Nat.lt_add_left_iff_pos, beq_self_eq_true, String.reduceBEq, String.reduceEq, Nat.le_refl, Nat.zero_le, Bool.true_eq_false, decide_true, decide_false, Int.reduceEq, Int.reduceLT, Int.reduceLE, Int.reduceSub, Int.reduceAdd, List.length]
    refine lc_use ?_
    simp -implicitDefEqProofs only [DL.WW, List.isEmpty_nil, List.lookup_cons, List.lookup_nil, List.map, List.length, List.length_cons, List.length_nil, List.length_set, List.replicate, List.append, List.cons_append, List.nil_append, List.append_nil, List.getElem?_cons_zero, List.getElem?_cons_succ, List.getElem?_nil, List.set_cons_zero, List.set_cons_succ, ↓reduceIte, Bool.false_eq_true, Bool.not_true, Bool.not_false, Bool.true_and, Bool.false_and, Bool.and_true, Bool.and_false, Bool.or_true, Bool.or_false, Bool.true_or, Bool.false_or, Nat.reduceAdd, Nat.reduceSub, Nat.reduceLT, Nat.reduceLeDiff, true_and, and_true, and_self, decide_eq_true_eq, Nat.zero_lt_succ, Nat.lt_add_left_iff_pos, beq_self_eq_true, String.reduceBEq, String.reduceEq, Nat.le_refl, Nat.zero_le, Bool.true_eq_false, decide_true, decide_false, Int.reduceEq, Int.reduceLT, Int.reduceLE, Int.reduceSub, Int.reduceAdd]
    refine ⟨by decide, lc_acc (accA b1 b2) rfl rfl (fun j hj => ?_) (fun j e hd' => ?_) ?_⟩
    · exact Nat.le_trans (accA_len b1 b2 j) (by decide)
    · obtain ⟨hj, rfl⟩ := range_get hd'
      have hj' : j = 0 ∨ j = 1 := by
        have : j < 2 := hj
        omega
      rcases hj' with rfl | rfl
      · have a1 : atI [PyData.str s', d] ((0 : Int) + ((0 : Nat) : Int)) = some (.str s') := rfl
        have a2 : atI [PyData.str s, z] ((0 : Int) + ((0 : Nat) : Int)) = some (.str s) := rfl
        simp -implicitDefEqProofs only [DL.WW, List.isEmpty_nil, List.lookup_cons, List.lookup_nil, List.map, List.length, List.length_cons, List.length_nil, List.length_set, List.replicate, List.append, List.cons_append, List.nil_append, List.append_nil, List.getElem?_cons_zero, List.getElem?_cons_succ, List.getElem?_nil, List.set_cons_zero, List.set_cons_succ, ↓reduceIte, Bool.false_eq_true, Bool.not_true, Bool.not_false, Bool.true_and, Bool.false_and, Bool.and_true, Bool.and_false, Bool.or_true, Bool.or_false, Bool.true_or, Bool.false_or, Nat.reduceAdd, Nat.reduceSub, Nat.reduceLT, Nat.reduceLeDiff, true_and, and_true, and_self, decide_eq_true_eq, Nat.zero_lt_succ, Nat.lt_add_left_iff_pos, beq_self_eq_true, String.reduceBEq, String.reduceEq, Nat.le_refl, Nat.zero_le, Bool.true_eq_false, decide_true, decide_false, Int.reduceEq, Int.reduceLT, Int.reduceLE, Int.reduceSub, Int.reduceAdd, a1, a2]
        refine ⟨_, _, rfl, .str hs', hs, fun b hb => ?_⟩
        have : b = b1 := by
          cases b <;> cases b1 <;> simp_all
        subst this
        simp -implicitDefEqProofs only [DL.WW, List.isEmpty_nil, List.lookup_cons, List.lookup_nil, List.map, List.length, List.length_cons, List.length_nil, List.length_set, List.replicate, List.append, List.cons_append, List.nil_append, List.append_nil, List.getElem?_cons_zero, List.getElem?_cons_succ, List.getElem?_nil, List.set_cons_zero, List.set_cons_succ, ↓reduceIte, Bool.false_eq_true, Bool.not_true, Bool.not_false, Bool.true_and, Bool.false_and, Bool.and_true, Bool.and_false, Bool.or_true, Bool.or_false, Bool.true_or, Bool.false_or, Nat.reduceAdd, Nat.reduceSub, Nat.reduceLT, Nat.reduceLeDiff, true_and, and_true, and_self, decide_eq_true_eq, Nat.zero_lt_succ, Nat.lt_add_left_iff_pos, beq_self_eq_true, String.reduceBEq, String.reduceEq, Nat.le_refl, Nat.zero_le, Bool.true_eq_false, decide_true, decide_false, Int.reduceEq, Int.reduceLT, Int.reduceLE, Int.reduceSub, Int.reduceAdd]
        cases b
        · simp -implicitDefEqProofs only [DL.WW, List.isEmpty_nil, List.lookup_cons, List.lookup_nil, List.map, List.length, List.length_cons, List.length_nil, List.length_set, List.replicate, List.append, List.cons_append, List.nil_append, List.append_nil, List.getElem?_cons_zero, List.getElem?_cons_succ, List.getElem?_nil, List.set_cons_zero, List.set_cons_succ, ↓reduceIte, Bool.false_eq_true, Bool.not_true, Bool.not_false, Bool.true_and, Bool.false_and, Bool.and_true, Bool.and_false, Bool.or_true, Bool.or_false, Bool.true_or, Bool.false_or, Nat.reduceAdd, Nat.reduceSub, Nat.reduceLT, Nat.reduceLeDiff, true_and, and_true, and_self, decide_eq_true_eq, Nat.zero_lt_succ, Nat.lt_add_left_iff_pos, beq_self_eq_true, String.reduceBEq, String.reduceEq, Nat.le_refl, Nat.zero_le, Bool.true_eq_false, decide_true, decide_false, Int.reduceEq, Int.reduceLT, Int.reduceLE, Int.reduceSub, Int.reduceAdd]
          rfl
        · simp -implicitDefEqProofs only [DL.WW, List.isEmpty_nil, List.lookup_cons, List.lookup_nil, List.map, List.length, List.length_cons, List.length_nil, List.length_set, List.replicate, List.append, List.cons_append, List.nil_append, List.append_nil, List.getElem?_cons_zero, List.getElem?_cons_succ, List.getElem?_nil, List.set_cons_zero, List.set_cons_succ, ↓reduceIte, Bool.false_eq_true, Bool.not_true, Bool.not_false, Bool.true_and, Bool.false_and, Bool.and_true, Bool.and_false, Bool.or_true, Bool.or_false, Bool.true_or, Bool.false_or, Nat.reduceAdd, Nat.reduceSub, Nat.reduceLT, Nat.reduceLeDiff, true_and, and_true, and_self, decide_eq_true_eq, Nat.zero_lt_succ, Nat.lt_add_left_iff_pos, beq_self_eq_true, String.reduceBEq, String.reduceEq, Nat.le_refl, Nat.zero_le, Bool.true_eq_false, decide_true, decide_false, Int.reduceEq, Int.reduceLT, Int.reduceLE, Int.reduceSub, Int.reduceAdd]
          rfl
      · have a1 : atI [PyData.str s', d] ((0 : Int) + ((1 : Nat) : Int)) = some d := rfl
        have a2 : atI [PyData.str s, z] ((0 : Int) + ((1 : Nat) : Int)) = some z := rfl
        simp -implicitDefEqProofs only [DL.WW, List.isEmpty_nil, List.lookup_cons, List.lookup_nil, List.map, List.length, List.length_cons, List.length_nil, List.length_set, List.replicate, List.append, List.cons_append, List.nil_append, List.append_nil, List.getElem?_cons_zero, List.getElem?_cons_succ, List.getElem?_nil, List.set_cons_zero, List.set_cons_succ, ↓reduceIte, Bool.false_eq_true, Bool.not_true, Bool.not_false, Bool.true_and, Bool.false_and, Bool.and_true, Bool.and_false, Bool.or_true, Bool.or_false, Bool.true_or, Bool.false_or, Nat.reduceAdd, Nat.reduceSub, Nat.reduceLT, Nat.reduceLeDiff, true_and, and_true, and_self, decide_eq_true_eq, Nat.zero_lt_succ, Nat.lt_add_left_iff_pos, beq_self_eq_true, String.reduceBEq, String.reduceEq, Nat.le_refl, Nat.zero_le, Bool.true_eq_false, decide_true, decide_false, Int.reduceEq, Int.reduceLT, Int.reduceLE, Int.reduceSub, Int.reduceAdd, a1, a2]
        refine ⟨_, _, rfl, .leaf hd, hz, fun b hb => ?_⟩
        have : b = b2 := by
          cases b <;> cases b2 <;> simp_all
        subst this
        simp -implicitDefEqProofs only [DL.WW, List.isEmpty_nil, List.lookup_cons, List.lookup_nil, List.map, List.length, List.length_cons, List.length_nil, List.length_set, List.replicate, List.append, List.cons_append, List.nil_append, List.append_nil, List.getElem?_cons_zero, List.getElem?_cons_succ, List.getElem?_nil, List.set_cons_zero, List.set_cons_succ, ↓reduceIte, Bool.false_eq_true, Bool.not_true, Bool.not_false, Bool.true_and, Bool.false_and, Bool.and_true, Bool.and_false, Bool.or_true, Bool.or_false, Bool.true_or, Bool.false_or, Nat.reduceAdd, Nat.reduceSub, Nat.reduceLT, Nat.reduceLeDiff, true_and, and_true, and_self, decide_eq_true_eq, Nat.zero_lt_succ, Nat.lt_add_left_iff_pos, beq_self_eq_true, String.reduceBEq, String.reduceEq, Nat.le_refl, Nat.zero_le, Bool.true_eq_false, decide_true, decide_false, Int.reduceEq, Int.reduceLT, Int.reduceLE, Int.reduceSub, Int.reduceAdd]
        cases b
        · simp -implicitDefEqProofs only [DL.WW, List.isEmpty_nil, List.lookup_cons, List.lookup_nil, List.map, List.length, List.length_cons, List.length_nil, List.length_set, List.replicate, List.append, List.cons_append, List.nil_append, List.append_nil, List.getElem?_cons_zero, List.getElem?_cons_succ, List.getElem?_nil, List.set_cons_zero, List.set_cons_succ, ↓reduceIte, Bool.false_eq_true, Bool.not_true, Bool.not_false, Bool.true_and, Bool.false_and, Bool.and_true, Bool.and_false, Bool.or_true, Bool.or_false, Bool.true_or, Bool.false_or, Nat.reduceAdd, Nat.reduceSub, Nat.reduceLT, Nat.reduceLeDiff, true_and, and_true, and_self, decide_eq_true_eq, Nat.zero_lt_succ, Nat.lt_add_left_iff_pos, beq_self_eq_true, String.reduceBEq, String.reduceEq, Nat.le_refl, Nat.zero_le, Bool.true_eq_false, decide_true, decide_false, Int.reduceEq, Int.reduceLT, Int.reduceLE, Int.reduceSub, Int.reduceAdd]
          rfl
        · simp -implicitDefEqProofs only [DL.WW, List.isEmpty_nil, List.lookup_cons, List.lookup_nil, List.map, List.length, List.length_cons, List.length_nil, List.length_set, List.replicate, List.append, List.cons_append, List.nil_append, List.append_nil, List.getElem?_cons_zero, List.getElem?_cons_succ, List.getElem?_nil, List.set_cons_zero, List.set_cons_succ, ↓reduceIte, Bool.false_eq_true, Bool.not_true, Bool.not_false, Bool.true_and, Bool.false_and, Bool.and_true, Bool.and_false, Bool.or_true, Bool.or_false, Bool.true_or, Bool.false_or, Nat.reduceAdd, Nat.reduceSub, Nat.reduceLT, Nat.reduceLeDiff, true_and, and_true, and_self, decide_eq_true_eq, Nat.zero_lt_succ, Nat.lt_add_left_iff_pos, beq_self_eq_true, String.reduceBEq, String.reduceEq, Nat.le_refl, Nat.zero_le, Bool.true_eq_false, decide_true, decide_false, Int.reduceEq, Int.reduceLT, Int.reduceLE, Int.reduceSub, Int.reduceAdd]
          cases b1 <;> rfl
    · simp -implicitDefEqProofs only [DL.WW, List.isEmpty_nil, List.lookup_cons, List.lookup_nil, List.map, List.length, List.length_cons, List.length_nil, List.length_set, List.replicate, List.append, List.cons_append, List.nil_append, List.append_nil, List.getElem?_cons_zero, List.getElem?_cons_succ, List.getElem?_nil, List.set_cons_zero, List.set_cons_succ, ↓reduceIte, Bool.false_eq_true, Bool.not_true, Bool.not_false, Bool.true_and, Bool.false_and, Bool.and_true, Bool.and_false, Bool.or_true, Bool.or_false, Bool.true_or, Bool.false_or, Nat.reduceAdd, Nat.reduceSub, Nat.reduceLT, Nat.reduceLeDiff, true_and, and_true, and_self, decide_eq_true_eq, Nat.zero_lt_succ, Nat.lt_add_left_iff_pos, beq_self_eq_true, String.reduceBEq, String.reduceEq, Nat.le_refl, Nat.zero_le, Bool.true_eq_false, decide_true, decide_false, Int.reduceEq, Int.reduceLT, Int.reduceLE, Int.reduceSub, Int.reduceAdd]
      have e2 : (rangeD 0 (Int.toNat 2)).length = 2 := rfl
      rw [e2]
      have no : ¬ (b1 = true ∧ b2 = true) → ∀ b : Bool, b = false → P (.dat (.bool b)) [none, none] := fun h b hb => by
        subst hb
        refine q false ⟨fun h => (by cases h), fun h' => absurd ?_ h⟩
        have := PyData.tuple.inj h'
        simp only [List.cons.injEq, and_true] at this
        exact ⟨hb1.mpr this.1, hb2.mpr this.2⟩
      cases b1 <;> cases b2
      · exact ⟨by decide +kernel, no (by simp) _ rfl⟩
      · exact ⟨by decide +kernel, no (by simp) _ rfl⟩
      · exact ⟨by decide +kernel, no (by simp) _ rfl⟩
      · refine ⟨by decide +kernel, q true ⟨fun _ => ?_, fun _ => rfl⟩⟩
        rw [hb1.mp rfl, hb2.mp rfl]
end
end K74D


set_option Elab.async false
set_option linter.all false
set_option maxRecDepth 100000
set_option maxHeartbeats 4000000
namespace K74D
open PySem L2 TG DL K74
section
variable {P : Program} {w : World} {K : PySem.W.Frag} {mg : Str → Option Value} {base : Heap}
def F_law_is : FSp := fun args P => ∃ a b : Bool, args = [some (.dat (.bool a)), some (.dat (.bool b))] ∧ P (.dat (.bool (a == b))) [none, none]
theorem ok_law_is {k : Nat} (T : Txt K mg)  : FnOk P w K mg base CX0 (k + 1) T.a_law_is T.d_law_is ["_law_found", "_law_due"] (spD K F_law_is) := by
  refine (fun (hA : ∀ args P, F_law_is args P → args.length = 2) => T.F_law_is.ok (sp := spD K F_law_is) sc_law_is (fun vs H Q E h => spD_len hA h) (fun cdv A outer s H vs Q E hr h => ⟨_, (pss_one (ps_ret (pe_and (pe_callB (call_isiX (K := K) rfl) rfl T.m_isinstance (by decide +kernel) (pa_cons (pv 0) (pa_cons (pe_bltn (v := .ty "bool") (u := .type "bool") rfl T.m_bool (by decide +kernel) rfl) pa_nil))) (pe_one (pe_cmpR (op_eqDK (K := K) rfl hr.units) (pv 0) (pv 1) (nomark _)))))), fn_run (N := ["_law_found", "_law_due"]) h (fun A' Hz' => (ss_ret (se_andV (se_isi rfl se_var) (se_op sr_eqD se_var se_var)))) (fun args P hl hF => ?_) (by rw [spD_len hA h]; exact Nat.le_of_ble_eq_true rfl)⟩)) (fun args P hF => ?_)
  rotate_left
  · obtain ⟨a, b, rfl, _⟩ := hF
    rfl
  obtain ⟨a, b, rfl, q⟩ := hF
  simp -implicitDefEqProofs only [DL.WW, List.isEmpty_nil, List.lookup_cons, List.lookup_nil, List.map, List.length, List.length_cons, List.length_nil, List.length_set, List.replicate, List.append, List.cons_append, List.nil_append, List.append_nil, List.getElem?_cons_zero, List.getElem?_cons_succ, List.getElem?_nil, List.set_cons_zero, List.set_cons_succ, ↓reduceIte, Bool.false_eq_true, Bool.not_true, Bool.not_false, Bool.true_and, Bool.false_and, Bool.and_true, Bool.and_false, Bool.or_true, Bool.or_false, Bool.true_or, Bool.false_or, Nat.reduceAdd, Nat.reduceSub, Nat.reduceLT, Nat.reduceLeDiff, true_and, and_true, and_self, decide_eq_true_eq, Nat.zero_lt_succ, Nat.lt_add_left_iff_pos, beq_self_eq_true, String.reduceBEq, String.reduceEq, Nat.le_refl, Nat.zero_le, Bool.true_eq_false, decide_true, decide_false, Int.reduceEq, Int.reduceLT, Int.reduceLE, Int.reduceSub, Int.reduceAdd]
  exact q
end
end K74D


set_option Elab.async false
set_option linter.all false
set_option maxRecDepth 100000
set_option maxHeartbeats 4000000
namespace K74D
open PySem L2 TG DL K74
section
variable {P : Program} {w : World} {K : PySem.W.Frag} {mg : Str → Option Value} {base : Heap}
theorem ok_law_taken {k : Nat} (T : Txt K mg)  : FnOk P w K mg base CX0 (k + 1) T.a_law_taken T.d_law_taken ["_law_row", "_law_many"] (spD K F_law_taken) := by
  refine (fun (hA : ∀ args P, F_law_taken args P → args.length = 2) => T.F_law_taken.ok (sp := spD K F_law_taken) sc_law_taken (fun vs H Q E h => spD_len hA h) (fun cdv A outer s H vs Q E hr h => ⟨_, (pss_cons (ps_if (pt_cmpR op_gt (pe_ix (ix_listK (K := K) rfl) (pv 0) pe_int (fun _ _ => rfl)) pe_int (nomark _))
  (pss_cons (ps_set (i := 2) sc_law_taken.nd rfl (Or.inl rfl) (pe_op op_mod (pe_callTy call_int1 rfl T.m_int (by decide +kernel) (pa_cons (pe_ix (ix_listK (K := K) rfl) (pv 0) pe_int (fun _ _ => rfl)) pa_nil)) (pv 1)))
  (pss_cons (ps_asg (pe_op op_fdiv (pe_ix (ix_listK (K := K) rfl) (pv 0) pe_int (fun _ _ => rfl)) (pv 1)) (pg_sub (pv 0) pe_int set_list))
  (pss_one (ps_ret (pv 2)))))
  pss_nil)
  (pss_cons (ps_asg (pe_op op_add (pe_ix (ix_listK (K := K) rfl) (pv 0) pe_int (fun _ _ => rfl)) pe_int) (pg_sub (pv 0) pe_int set_list))
  (pss_cons (ps_if (pt_cmpR op_gt (pe_ix (ix_listK (K := K) rfl) (pv 0) pe_int (fun _ _ => rfl)) (pe_callB (call_lenK (K := K) rfl) rfl T.m_len PySem.boot_len (pa_cons (pe_ix (ix_listK (K := K) rfl) (pv 0) pe_int (fun _ _ => rfl)) pa_nil)) (nomark _))
  (pss_cons (ps_asg (pe_op op_mod (pe_callTy call_int1 rfl T.m_int (by decide +kernel) (pa_cons (pe_op op_add (pe_op op_mul (pe_ix (ix_listK (K := K) rfl) (pv 0) pe_int (fun _ _ => rfl)) pe_int) pe_int) pa_nil)) pe_int) (pg_sub (pv 0) pe_int set_list))
  (pss_one (ps_ret (pe_op op_mod (pe_callTy call_int1 rfl T.m_int (by decide +kernel) (pa_cons (pe_op op_fdiv (pe_ix (ix_listK (K := K) rfl) (pv 0) pe_int (fun _ _ => rfl)) pe_int) pa_nil)) (pv 1)))))
  pss_nil)
  (pss_cons (ps_set (i := 3) sc_law_taken.nd rfl (Or.inl rfl) (pe_ix (ix_seqK (K := K) rfl) (pe_ix (ix_listK (K := K) rfl) (pv 0) pe_int (fun _ _ => rfl)) (pe_op op_sub (pe_ix (ix_listK (K := K) rfl) (pv 0) pe_int (fun _ _ => rfl)) pe_int) (fun _ _ => rfl)))
  (pss_cons (ps_asg (pe_op op_mod (pe_callTy call_int1 rfl T.m_int (by decide +kernel) (pa_cons (pe_op op_add (pe_op op_add (pe_op op_mul (pe_ix (ix_listK (K := K) rfl) (pv 0) pe_int (fun _ _ => rfl)) pe_int) (pv 3)) pe_int) pa_nil)) pe_int) (pg_sub (pv 0) pe_int set_list))
  (pss_cons (ps_if (pt_cmpR op_ge (pv 3) (pe_op op_pow pe_int pe_int) (nomark _))
  (pss_one (ps_asg (pe_op op_fdiv (pv 3) (pv 1)) (pg_sub (pv 0) pe_int set_list)))
  pss_nil)
  (pss_one (ps_ret (pe_op op_mod (pe_callTy call_int1 rfl T.m_int (by decide +kernel) (pa_cons (pv 3) pa_nil)) (pv 1)))))))))), fn_run (N := ["_law_row", "_law_many", "_law_found", "_law_cell"]) h (fun A' Hz' => (ss_seq (ss_if (st_test (se_op (sr_I0 (fun _ _ => rfl)) (se_op sr_ixL se_var se_int) se_int))
  (ss_seq (ss_asg (se_op (sr_I (fun _ _ => rfl)) (se_cb1 sc_int (se_op sr_ixL se_var se_int)) se_var) sg_name)
  (ss_seq (ss_asg (se_op (sr_I (fun _ _ => rfl)) (se_op sr_ixL se_var se_int) se_var) (sg_sub se_int))
  (ss_ret se_var)))
  ss_next)
  (ss_seq (ss_asg (se_op (sr_I0 (fun _ _ => rfl)) (se_op sr_ixL se_var se_int) se_int) (sg_sub se_int))
  (ss_seq (ss_if (st_test (se_op (sr_I0 (fun _ _ => rfl)) (se_op sr_ixL se_var se_int) (se_cb1 sc_len (se_op sr_ixL se_var se_int))))
  (ss_seq (ss_asg (se_op (sr_I (fun _ _ => rfl)) (se_cb1 sc_int (se_op (sr_I0 (fun _ _ => rfl)) (se_op (sr_I (fun _ _ => rfl)) (se_op sr_ixL se_var se_int) se_int) se_int)) se_int) (sg_sub se_int))
  (ss_ret (se_op (sr_I (fun _ _ => rfl)) (se_cb1 sc_int (se_op (sr_I (fun _ _ => rfl)) (se_op sr_ixL se_var se_int) se_int)) se_var)))
  ss_next)
  (ss_seq (ss_asg (se_op sr_ix (se_op sr_ixL se_var se_int) (se_op (sr_I0 (fun _ _ => rfl)) (se_op sr_ixL se_var se_int) se_int)) sg_name)
  (ss_seq (ss_asg (se_op (sr_I (fun _ _ => rfl)) (se_cb1 sc_int (se_op (sr_I0 (fun _ _ => rfl)) (se_op (sr_I0 (fun _ _ => rfl)) (se_op (sr_I (fun _ _ => rfl)) (se_op sr_ixL se_var se_int) se_int) se_var) se_int)) se_int) (sg_sub se_int))
  (ss_seq (ss_if (st_test (se_op (sr_I0 (fun _ _ => rfl)) se_var (se_op (sr_I (fun _ _ => rfl)) se_int se_int)))
  (ss_asg (se_op (sr_I (fun _ _ => rfl)) se_var se_var) (sg_sub se_int))
  ss_next)
  (ss_ret (se_op (sr_I (fun _ _ => rfl)) (se_cb1 sc_int se_var) se_var))))))))) (fun args P hl hF => ?_) (by rw [spD_len hA h]; exact Nat.le_of_ble_eq_true rfl)⟩)) (fun args P hF => ?_)
  rotate_left
  · obtain ⟨o, m, rfl, _⟩ := hF
    rfl
  obtain ⟨o, m, rfl, ⟨ns, i, z, t, rfl, h1, h2⟩, ⟨m0, m1⟩, q⟩ := hF
  simp -implicitDefEqProofs only [DL.WW, List.isEmpty_nil, List.lookup_cons, List.lookup_nil, List.map, List.length, List.length_cons, List.length_nil, List.length_set, List.replicate, List.append, List.cons_append, List.nil_append, List.append_nil, List.getElem?_cons_zero, List.getElem?_cons_succ, List.getElem?_nil, List.set_cons_zero, List.set_cons_succ, ↓reduceIte, Bool.false_eq_true, Bool.not_true, Bool.not_false, Bool.true_and, Bool.false_and, Bool.and_true, Bool.and_false, Bool.or_true, Bool.or_false, Bool.true_or, Bool.false_or, Nat.reduceAdd, Nat.reduceSub, Nat.reduceLT, Nat.reduceLeDiff, true_and, and_true, and_self, decide_eq_true_eq, Nat.zero_lt_succ, Nat.lt_add_left_iff_pos, beq_self_eq_true, String.reduceBEq, String.reduceEq, Nat.le_refl, Nat.zero_le, Bool.true_eq_false, decide_true, decide_false, Int.reduceEq, Int.reduceLT, Int.reduceLE, Int.reduceSub, Int.reduceAdd, rowL_eq]
  have row : ∀ i' z' t' : Int, 0 ≤ i' → IsRow (.lst (rowL ns i' z' t')) := fun i' z' t' h => ⟨ns, i', z', t', rfl, h1, h⟩
  have fin : ∀ (x i' z' t' : Int), 0 ≤ i' → P (.dat (.int (x % m))) [some (.ob (some 0) (.lst [.list (ns.map PyData.int), .int i', .int z', .int t'])), none] := fun x i' z' t' hi =>
    q _ _ (row i' z' t' hi) (Int.emod_nonneg _ (by omega)) (Int.emod_lt_of_pos _ m0)
  by_cases c : 0 < t
  · rw [if_pos c]
    exact ⟨m0, ⟨m0, m1⟩, fin _ _ _ _ h2⟩
  · rw [if_neg c]
    simp -implicitDefEqProofs only [DL.WW, List.isEmpty_nil, List.lookup_cons, List.lookup_nil, List.map, List.length, List.length_cons, List.length_nil, List.length_set, List.replicate, List.append, List.cons_append, List.nil_append, List.append_nil, List.getElem?_cons_zero, List.getElem?_cons_succ, List.getElem?_nil, List.set_cons_zero, List.set_cons_succ, ↓reduceIte, Bool.false_eq_true, Bool.not_true, Bool.not_false, Bool.true_and, Bool.false_and, Bool.and_true, Bool.and_false, Bool.or_true, Bool.or_false, Bool.true_or, Bool.false_or, Nat.reduceAdd, Nat.reduceSub, Nat.reduceLT, Nat.reduceLeDiff, true_and, and_true, and_self, decide_eq_true_eq, Nat.zero_lt_succ, Nat.lt_add_left_iff_pos, beq_self_eq_true, String.reduceBEq, String.reduceEq, Nat.le_refl, Nat.zero_le, Bool.true_eq_false, decide_true, decide_false, Int.reduceEq, Int.reduceLT, Int.reduceLE, Int.reduceSub, Int.reduceAdd, List.length_map]
    by_cases c2 : ((ns.length : Nat) : Int) < i + 1
    · rw [if_pos c2]
      exact ⟨mul_small, ⟨by decide, by decide⟩, m0, fin _ _ _ _ (by omega)⟩
    · rw [if_neg c2]
      have hi : i.toNat < ns.length := by omega
      have hv : atI (ns.map PyData.int) (i + 1 - 1) = some (.int (ns[i.toNat])) := by
        have e : i + 1 - 1 = ((i.toNat : Nat) : Int) := by omega
        rw [e]
        exact atI_nat (by rw [List.getElem?_map, List.getElem?_eq_getElem hi]; rfl)
      simp -implicitDefEqProofs only [DL.WW, List.isEmpty_nil, List.lookup_cons, List.lookup_nil, List.map, List.length, List.length_cons, List.length_nil, List.length_set, List.replicate, List.append, List.cons_append, List.nil_append, List.append_nil, List.getElem?_cons_zero, List.getElem?_cons_succ, List.getElem?_nil, List.set_cons_zero, List.set_cons_succ, ↓reduceIte, Bool.false_eq_true, Bool.not_true, Bool.not_false, Bool.true_and, Bool.false_and, Bool.and_true, Bool.and_false, Bool.or_true, Bool.or_false, Bool.true_or, Bool.false_or, Nat.reduceAdd, Nat.reduceSub, Nat.reduceLT, Nat.reduceLeDiff, true_and, and_true, and_self, decide_eq_true_eq, Nat.zero_lt_succ, Nat.lt_add_left_iff_pos, beq_self_eq_true, String.reduceBEq, String.reduceEq, Nat.le_refl, Nat.zero_le, Bool.true_eq_false, decide_true, decide_false, Int.reduceEq, Int.reduceLT, Int.reduceLE, Int.reduceSub, Int.reduceAdd, hv]
      refine ⟨mul_small, ⟨by decide, by decide, by decide⟩, ?_⟩
      split
      · exact ⟨⟨m0, m1⟩, m0, fin _ _ _ _ (by omega)⟩
      · exact ⟨m0, fin _ _ _ _ (by omega)⟩
end
end K74D


set_option Elab.async false
set_option linter.all false
set_option maxRecDepth 100000
set_option maxHeartbeats 4000000
namespace K74D
open PySem L2 TG DL K74
section
variable {P : Program} {w : World} {K : PySem.W.Frag} {mg : Str → Option Value} {base : Heap}
theorem ok_law_pick {k : Nat} (T : Txt K mg) (G_law_taken : FnOk P w K mg base CX0 (k) T.a_law_taken T.d_law_taken ["_law_row", "_law_many"] (spD K F_law_taken)) : FnOk P w K mg base CX0 (k + 1) T.a_law_pick T.d_law_pick ["_law_row", "_law_things"] (spD K F_law_pick) := by
  refine (fun (hA : ∀ args P, F_law_pick args P → args.length = 2) => T.F_law_pick.ok (sp := spD K F_law_pick) sc_law_pick (fun vs H Q E h => spD_len hA h) (fun cdv A outer s H vs Q E hr h => ⟨_, (pss_one (ps_ret (pe_ix (ix_listK (K := K) rfl) (pv 1) (pe_call G_law_taken hr rfl T.g_law_taken T.F_law_taken.kp T.b_law_taken .nil pass0 (pa_cons (pv 0) (pa_cons (pe_callB (call_lenK (K := K) rfl) rfl T.m_len PySem.boot_len (pa_cons (pv 1) pa_nil)) pa_nil))) (fun _ _ => rfl)))), fn_run (N := ["_law_row", "_law_things"]) h (fun A' Hz' => (ss_ret (se_op sr_ixL se_var (se_callO (sa_cons (se_cb1 sc_len se_var) sa_nil))))) (fun args P hl hF => ?_) (by rw [spD_len hA h]; exact Nat.le_of_ble_eq_true rfl)⟩)) (fun args P hF => ?_)
  rotate_left
  · obtain ⟨o, ds, rfl, _⟩ := hF
    rfl
  obtain ⟨o, ds, rfl, ho, ⟨h1, h2⟩, hP⟩ := hF
  simp -implicitDefEqProofs only [DL.WW, List.isEmpty_nil, List.lookup_cons, List.lookup_nil, List.map, List.length, List.length_cons, List.length_nil, List.length_set, List.replicate, List.append, List.cons_append, List.nil_append, List.append_nil, List.getElem?_cons_zero, List.getElem?_cons_succ, List.getElem?_nil, List.set_cons_zero, List.set_cons_succ, ↓reduceIte, Bool.false_eq_true, Bool.not_true, Bool.not_false, Bool.true_and, Bool.false_and, Bool.and_true, Bool.and_false, Bool.or_true, Bool.or_false, Bool.true_or, Bool.false_or, Nat.reduceAdd, Nat.reduceSub, Nat.reduceLT, Nat.reduceLeDiff, true_and, and_true, and_self, decide_eq_true_eq, Nat.zero_lt_succ, Nat.lt_add_left_iff_pos, beq_self_eq_true, String.reduceBEq, String.reduceEq, Nat.le_refl, Nat.zero_le, Bool.true_eq_false, decide_true, decide_false, Int.reduceEq, Int.reduceLT, Int.reduceLE, Int.reduceSub, Int.reduceAdd]
  refine ⟨o, _, rfl, ho, ⟨by omega, by omega⟩, fun x o' ho' x0 x1 => ?_⟩
  obtain ⟨x, rfl⟩ : ∃ k : Nat, x = k := ⟨x.toNat, by omega⟩
  have hx : x < ds.length := by omega
  have hat : atI ds (x : Int) = some ds[x] := atI_nat (List.getElem?_eq_getElem hx)
  simp -implicitDefEqProofs only [DL.WW, List.isEmpty_nil, List.lookup_cons, List.lookup_nil, List.map, List.length, List.length_cons, List.length_nil, List.length_set, List.replicate, List.append, List.cons_append, List.nil_append, List.append_nil, List.getElem?_cons_zero, List.getElem?_cons_succ, List.getElem?_nil, List.set_cons_zero, List.set_cons_succ, ↓reduceIte, Bool.false_eq_true, Bool.not_true, Bool.not_false, Bool.true_and, Bool.false_and, Bool.and_true, Bool.and_false, Bool.or_true, Bool.or_false, Bool.true_or, Bool.false_or, Nat.reduceAdd, Nat.reduceSub, Nat.reduceLT, Nat.reduceLeDiff, true_and, and_true, and_self, decide_eq_true_eq, Nat.zero_lt_succ, Nat.lt_add_left_iff_pos, beq_self_eq_true, String.reduceBEq, String.reduceEq, Nat.le_refl, Nat.zero_le, Bool.true_eq_false, decide_true, decide_false, Int.reduceEq, Int.reduceLT, Int.reduceLE, Int.reduceSub, Int.reduceAdd, hat]
  exact hP _ _ ho' (List.getElem_mem hx)
end
end K74D


set_option Elab.async false
set_option linter.all false
set_option maxRecDepth 100000
set_option maxHeartbeats 4000000
namespace K74D
open PySem L2 TG DL K74
section
variable {P : Program} {w : World} {K : PySem.W.Frag} {mg : Str → Option Value} {base : Heap}
def F_law_graph : FSp := fun args P => ∃ (o : Ob) (m : Nat), args = [some (.ob (some 0) o), some (.dat (.int m))] ∧ IsRow o ∧ (0 < m ∧ m ≤ 60) ∧ ∀ (L R : List (List Nat)) (o' : Ob), IsRow o' → GrOk' L R → L.length ≤ m → P (.dat (grD L R)) [some (.ob (some 0) o'), none]
theorem ok_law_graph {k : Nat} (T : Txt K mg) (G_law_taken : FnOk P w K mg base CX0 (k) T.a_law_taken T.d_law_taken ["_law_row", "_law_many"] (spD K F_law_taken)) : FnOk P w K mg base CX0 (k + 1) T.a_law_graph T.d_law_graph ["_law_row", "_law_most"] (spD K F_law_graph) := by
  refine (fun (hA : ∀ args P, F_law_graph args P → args.length = 2) => T.F_law_graph.ok (sp := spD K F_law_graph) sc_law_graph (fun vs H Q E h => spD_len hA h) (fun cdv A outer s H vs Q E hr h => ⟨_, (pss_cons (ps_set (i := 2) sc_law_graph.nd rfl (Or.inr rfl) (pe_op op_add pe_int (pe_call G_law_taken hr rfl T.g_law_taken T.F_law_taken.kp T.b_law_taken .nil pass0 (pa_cons (pv 0) (pa_cons (pv 1) pa_nil)))))
  (pss_cons (ps_set (i := 3) sc_law_graph.nd rfl (Or.inl rfl) (pe_lst pa_nil))
  (pss_cons (ps_for PassesOwn.never rfl (pi_listK (K := K) rfl (pe_lst (pa_cons pe_int (pa_cons pe_int pa_nil)))) (pg_name (i := 4) sc_law_graph.nd rfl (Or.inl rfl))
  (pss_cons (ps_set (i := 5) sc_law_graph.nd rfl (Or.inl rfl) (pe_lst pa_nil))
  (pss_cons (ps_for PassesOwn.never rfl (pi_range1 rfl T.m_range (pa_cons (pv 2) pa_nil)) (pg_name (i := 6) sc_law_graph.nd rfl (Or.inl rfl))
  (pss_cons (ps_setLc (i := 7) (own := [("_law_at", 8)]) rfl sc_law_graph.nd rfl rfl (sw_true rfl rfl rfl (by decide +kernel)) (pi_range1 rfl T.m_range (pa_cons (pe_call G_law_taken hr rfl T.g_law_taken T.F_law_taken.kp T.b_law_taken .nil pass0 (pa_cons (pv 0) (pa_cons pe_int pa_nil))) pa_nil)) (blkOk_by (N := ["_law_row", "_law_most", "_law_many", "_law_sides", "_law_side", "_law_rows", "_law_node", "_law_some", "_law_at"]) (sc := defScope s_law_graph) (by decide +kernel)) (fun _ _ _ _ _ => (pg_name (i := 8) sc_law_graph.nd rfl (Or.inl rfl))) (fun _ _ _ _ _ => pts_nil) (fun _ _ _ _ _ => (pe_call G_law_taken hr rfl T.g_law_taken T.F_law_taken.kp T.b_law_taken .nil pass0 (pa_cons (pv 0) (pa_cons (pv 2) pa_nil)))))
  (pss_one (ps_expr (pe_bmK (K := K) rfl PySem.F.plainAttrs_list PySem.F.slot_list_append PySem.F.type_list_append mt_append (pv 5) (pa_cons (pe_callTy (call_tuple_ofK (K := K) rfl) rfl T.m_tuple (by decide +kernel) (pa_cons (pe_callB (cr_sortedSetK (w := w) rfl rfl) rfl T.m_sorted (by decide +kernel) (pa_cons (pe_callTy (cr_setIK (K := K) (w := w) rfl rfl rfl) rfl T.m_set (by decide +kernel) (pa_cons (pv 7) pa_nil)) pa_nil)) pa_nil)) pa_nil))))))
  (pss_one (ps_expr (pe_bmK (K := K) rfl PySem.F.plainAttrs_list PySem.F.slot_list_append PySem.F.type_list_append mt_append (pv 3) (pa_cons (pe_callTy (call_tuple_ofK (K := K) rfl) rfl T.m_tuple (by decide +kernel) (pa_cons (pv 5) pa_nil)) pa_nil)))))))
  (pss_one (ps_ret (pe_tup (pa_cons (pe_ix (ix_listK (K := K) rfl) (pv 3) pe_int (fun _ _ => rfl)) (pa_cons (pe_ix (ix_listK (K := K) rfl) (pv 3) pe_int (fun _ _ => rfl)) pa_nil)))))))), fn_run (N := ["_law_row", "_law_most", "_law_many", "_law_sides", "_law_side", "_law_rows", "_law_node", "_law_some", "_law_at"]) h (fun A' Hz' => (ss_seq (ss_asg (se_op (sr_I0 (fun _ _ => rfl)) se_int (se_callO (sa_cons se_var sa_nil))) sg_name)
  (ss_seq (ss_asg (se_lst sa_nil) sg_name)
  (ss_seq (ss_for (si_list (se_lst (sa_cons se_int (sa_cons se_int sa_nil)))) sg_name
  (ss_seq (ss_asg (se_lst sa_nil) sg_name)
  (ss_seq (ss_for (si_rng1 se_var) sg_name
  (ss_seq (ss_asg (se_lc (si_rng1 (se_callO (sa_cons se_int sa_nil))) sg_name st_yes (se_callO (sa_cons se_var sa_nil)) (by decide)) sg_name)
  (ss_drop (se_app (se_cb1 sc_tupOf (se_sortSet se_var))))))
  (ss_drop (se_app (se_cb1 sc_tupOf se_var))))))
  (ss_ret (se_tup (sa_cons (se_op sr_ixL se_var se_int) (sa_cons (se_op sr_ixL se_var se_int) sa_nil)))))))) (fun args P hl hF => ?_) (by rw [spD_len hA h]; exact Nat.le_of_ble_eq_true rfl)⟩)) (fun args P hF => ?_)
  rotate_left
  · obtain ⟨o, m, rfl, _⟩ := hF
    rfl
  obtain ⟨o, m, rfl, ho, ⟨m0, m1⟩, q⟩ := hF
  simp -implicitDefEqProofs only [DL.WW, List.isEmpty_nil, List.lookup_cons, List.lookup_nil, List.map, List.length, List.length_cons, List.length_nil, List.length_set, List.replicate, List.append, List.cons_append, List.nil_append, List.append_nil, List.getElem?_cons_zero, List.getElem?_cons_succ, List.getElem?_nil, List.set_cons_zero, List.set_cons_succ, ↓reduceIte, Bool.false_eq_true, Bool.not_true, Bool.not_false, Bool.true_and, Bool.false_and, Bool.and_true, Bool.and_false, Bool.or_true, Bool.or_false, Bool.true_or, Bool.false_or, Nat.reduceAdd, Nat.reduceSub, Nat.reduceLT, Nat.reduceLeDiff, true_and, and_true, and_self, decide_eq_true_eq, Nat.zero_lt_succ, Nat.lt_add_left_iff_pos, beq_self_eq_true, String.reduceBEq, String.reduceEq, Nat.le_refl, Nat.zero_le, Bool.true_eq_false, decide_true, decide_false, Int.reduceEq, Int.reduceLT, Int.reduceLE, Int.reduceSub, Int.reduceAdd]
  refine ⟨o, m, rfl, ho, ⟨by omega, by omega⟩, fun d o1 ho1 d0 d1 => ?_⟩
  obtain ⟨n, rfl⟩ : ∃ n : Nat, d = n := ⟨d.toNat, by omega⟩
  simp -implicitDefEqProofs only [DL.WW, List.isEmpty_nil, List.lookup_cons, List.lookup_nil, List.map, List.length, List.length_cons, List.length_nil, List.length_set, List.replicate, List.append, List.cons_append, List.nil_append, List.append_nil, List.getElem?_cons_zero, List.getElem?_cons_succ, List.getElem?_nil, List.set_cons_zero, List.set_cons_succ, ↓reduceIte, Bool.false_eq_true, Bool.not_true, Bool.not_false, Bool.true_and, Bool.false_and, Bool.and_true, Bool.and_false, Bool.or_true, Bool.or_false, Bool.true_or, Bool.false_or, Nat.reduceAdd, Nat.reduceSub, Nat.reduceLT, Nat.reduceLeDiff, true_and, and_true, and_self, decide_eq_true_eq, Nat.zero_lt_succ, Nat.lt_add_left_iff_pos, beq_self_eq_true, String.reduceBEq, String.reduceEq, Nat.le_refl, Nat.zero_le, Bool.true_eq_false, decide_true, decide_false, Int.reduceEq, Int.reduceLT, Int.reduceLE, Int.reduceSub, Int.reduceAdd]
  refine for_use ?_
  simp -implicitDefEqProofs only [DL.WW, List.isEmpty_nil, List.lookup_cons, List.lookup_nil, List.map, List.length, List.length_cons, List.length_nil, List.length_set, List.replicate, List.append, List.cons_append, List.nil_append, List.append_nil, List.getElem?_cons_zero, List.getElem?_cons_succ, List.getElem?_nil, List.set_cons_zero, List.set_cons_succ, ↓reduceIte, Bool.false_eq_true, Bool.not_true, Bool.not_false, Bool.true_and, Bool.false_and, Bool.and_true, Bool.and_false, Bool.or_true, Bool.or_false, Bool.true_or, Bool.false_or, Nat.reduceAdd, Nat.reduceSub, Nat.reduceLT, Nat.reduceLeDiff, true_and, and_true, and_self, decide_eq_true_eq, Nat.zero_lt_succ, Nat.lt_add_left_iff_pos, beq_self_eq_true, String.reduceBEq, String.reduceEq, Nat.le_refl, Nat.zero_le, Bool.true_eq_false, decide_true, decide_false, Int.reduceEq, Int.reduceLT, Int.reduceLE, Int.reduceSub, Int.reduceAdd]
  have hpos : (1 : Int) + (n : Int) = ((n + 1 : Nat) : Int) := by omega
  rw [hpos]
  generalize hN : n + 1 = N
  have hN1 : N ≤ 60 := by omega
  refine ⟨fun i e => ∃ (o' : Ob) (rss : List (List (List Nat))) (z4 z5 z6 z7 : Option B), IsRow o' ∧ rss.length = i ∧ (∀ rs ∈ rss, rs.length = N ∧ ∀ r ∈ rs, OkRow N r) ∧
    e = [some (.ob (some 0) o'), some (.dat (.int m)), some (.dat (.int N)), some (.ob none (.lst (rss.map rowsD))), z4, z5, z6, z7, none], ⟨o1, [], none, none, none, none, ho1, rfl, fun _ h => by simp at h, rfl⟩, ?_, ?_⟩
  · rintro i d e hd ⟨o2, rss, z4, z5, z6, z7, ho2, hlen, hgood, rfl⟩
    have hi2 : i < 2 := by have := (List.getElem?_eq_some_iff.mp hd).1; simpa using this
    generalize retP _ P = PP
    simp -implicitDefEqProofs only [DL.WW, List.isEmpty_nil, List.lookup_cons, List.lookup_nil, List.map, List.length, List.length_cons, List.length_nil, List.length_set, List.replicate, List.append, List.cons_append, List.nil_append, List.append_nil, List.getElem?_cons_zero, List.getElem?_cons_succ, List.getElem?_nil, List.set_cons_zero, List.set_cons_succ, ↓reduceIte, Bool.false_eq_true, Bool.not_true, Bool.not_false, Bool.true_and, Bool.false_and, Bool.and_true, Bool.and_false, Bool.or_true, Bool.or_false, Bool.true_or, Bool.false_or, Nat.reduceAdd, Nat.reduceSub, Nat.reduceLT, Nat.reduceLeDiff, true_and, and_true, and_self, decide_eq_true_eq, Nat.zero_lt_succ, Nat.lt_add_left_iff_pos, beq_self_eq_true, String.reduceBEq, String.reduceEq, Nat.le_refl, Nat.zero_le, Bool.true_eq_false, decide_true, decide_false, Int.reduceEq, Int.reduceLT, Int.reduceLE, Int.reduceSub, Int.reduceAdd]
    refine for_use ?_
    simp -implicitDefEqProofs only [DL.WW, List.isEmpty_nil, List.lookup_cons, List.lookup_nil, List.map, List.length, List.length_cons, List.length_nil, List.length_set, List.replicate, List.append, List.cons_append, List.nil_append, List.append_nil, List.getElem?_cons_zero, List.getElem?_cons_succ, List.getElem?_nil, List.set_cons_zero, List.set_cons_succ, ↓reduceIte, Bool.false_eq_true, Bool.not_true, Bool.not_false, Bool.true_and, Bool.false_and, Bool.and_true, Bool.and_false, Bool.or_true, Bool.or_false, Bool.true_or, Bool.false_or, Nat.reduceAdd, Nat.reduceSub, Nat.reduceLT, Nat.reduceLeDiff, true_and, and_true, and_self, decide_eq_true_eq, Nat.zero_lt_succ, Nat.lt_add_left_iff_pos, beq_self_eq_true, String.reduceBEq, String.reduceEq, Nat.le_refl, Nat.zero_le, Bool.true_eq_false, decide_true, decide_false, Int.reduceEq, Int.reduceLT, Int.reduceLE, Int.reduceSub, Int.reduceAdd]
    refine ⟨by omega, ?_⟩
    refine ⟨fun j e => ∃ (o' : Ob) (rs : List (List Nat)) (z6 z7 : Option B), IsRow o' ∧ rs.length = j ∧ (∀ r ∈ rs, OkRow N r) ∧
      e = [some (.ob (some 0) o'), some (.dat (.int m)), some (.dat (.int N)), some (.ob none (.lst (rss.map rowsD))), some (.dat d), some (.ob none (.lst (rs.map rowD))), z6, z7, none], ⟨o2, [], _, _, ho2, rfl, fun _ h => by simp at h, rfl⟩, ?_, ?_⟩
    · rintro j d' e hd' ⟨o3, rs, z6, z7, ho3, hlj, hrs, rfl⟩
      obtain ⟨hj, rfl⟩ := range_get hd'
      simp -implicitDefEqProofs only [DL.WW, List.isEmpty_nil, List.lookup_cons, List.lookup_nil, List.map, List.length, List.length_cons, List.length_nil, List.length_set, List.replicate, List.append, List.cons_append, List.nil_append, List.append_nil, List.getElem?_cons_zero, List.getElem?_cons_succ, List.getElem?_nil, List.set_cons_zero, List.set_cons_succ, ↓reduceIte, Bool.false_eq_true, Bool.not_true, Bool.not_false, Bool.true_and, Bool.false_and, Bool.and_true, Bool.and_false, Bool.or_true, Bool.or_false, Bool.true_or, Bool.false_or, Nat.reduceAdd, Nat.reduceSub, Nat.reduceLT, Nat.reduceLeDiff, true_and, and_true, and_self, decide_eq_true_eq, Nat.zero_lt_succ, Nat.lt_add_left_iff_pos, beq_self_eq_true, String.reduceBEq, String.reduceEq, Nat.le_refl, Nat.zero_le, Bool.true_eq_false, decide_true, decide_false, Int.reduceEq, Int.reduceLT, Int.reduceLE, Int.reduceSub, Int.reduceAdd]
      refine lc_use ?_
      simp -implicitDefEqProofs only [DL.WW, List.isEmpty_nil, List.lookup_cons, List.lookup_nil, List.map, List.length, List.length_cons, List.length_nil, List.length_set, List.replicate, List.append, List.cons_append, List.nil_append, List.append_nil, List.getElem?_cons_zero, List.getElem?_cons_succ, List.getElem?_nil, List.set_cons_zero, List.set_cons_succ, ↓reduceIte, Bool.false_eq_true, Bool.not_true, Bool.not_false, Bool.true_and, Bool.false_and, Bool.and_true, Bool.and_false, Bool.or_true, Bool.or_false, Bool.true_or, Bool.false_or, Nat.reduceAdd, Nat.reduceSub, Nat.reduceLT, Nat.reduceLeDiff, true_and, and_true, and_self, decide_eq_true_eq, Nat.zero_lt_succ, Nat.lt_add_left_iff_pos, beq_self_eq_true, String.reduceBEq, String.reduceEq, Nat.le_refl, Nat.zero_le, Bool.true_eq_false, decide_true, decide_false, Int.reduceEq, Int.reduceLT, Int.reduceLE, Int.reduceSub, Int.reduceAdd]
      refine ⟨o3, 3, rfl, ho3, ⟨by decide, by decide⟩, fun c o4 ho4 c0 c1 => ?_⟩
      simp -implicitDefEqProofs only [DL.WW, List.isEmpty_nil, List.lookup_cons, List.lookup_nil, List.map, List.length, List.length_cons, List.length_nil, List.length_set, List.replicate, List.append, List.cons_append, List.nil_append, List.append_nil, List.getElem?_cons_zero, List.getElem?_cons_succ, List.getElem?_nil, List.set_cons_zero, List.set_cons_succ, ↓reduceIte, Bool.false_eq_true, Bool.not_true, Bool.not_false, Bool.true_and, Bool.false_and, Bool.and_true, Bool.and_false, Bool.or_true, Bool.or_false, Bool.true_or, Bool.false_or, Nat.reduceAdd, Nat.reduceSub, Nat.reduceLT, Nat.reduceLeDiff, true_and, and_true, and_self, decide_eq_true_eq, Nat.zero_lt_succ, Nat.lt_add_left_iff_pos, beq_self_eq_true, String.reduceBEq, String.reduceEq, Nat.le_refl, Nat.zero_le, Bool.true_eq_false, decide_true, decide_false, Int.reduceEq, Int.reduceLT, Int.reduceLE, Int.reduceSub, Int.reduceAdd]
      refine ⟨by omega, ?_⟩
      refine ⟨fun l acc e => ∃ (o' : Ob) (ns : List Int), IsRow o' ∧ acc = ns.map PyData.int ∧ ns.length = l ∧ (∀ x ∈ ns, 0 ≤ x ∧ x < N) ∧
        e = [some (.ob (some 0) o'), some (.dat (.int m)), some (.dat (.int N)), some (.ob none (.lst (rss.map rowsD))), some (.dat d), some (.ob none (.lst (rs.map rowD))), some (.dat (.int (0 + (j : Int)))), z7, none], ⟨o4, [], ho4, rfl, rfl, fun _ h => by simp at h, rfl⟩, ?_, ?_⟩
      · rintro l d2 acc e hd2 ⟨o5, ns, ho5, rfl, hll, hns, rfl⟩
        obtain ⟨hl2, rfl⟩ := range_get hd2
        simp -implicitDefEqProofs only [DL.WW, List.isEmpty_nil, List.lookup_cons, List.lookup_nil, List.map, List.length, List.length_cons, List.length_nil, List.length_set, List.replicate, List.append, List.cons_append, List.nil_append, List.append_nil, List.getElem?_cons_zero, List.getElem?_cons_succ, List.getElem?_nil, List.set_cons_zero, List.set_cons_succ, ↓reduceIte, Bool.false_eq_true, Bool.not_true, Bool.not_false, Bool.true_and, Bool.false_and, Bool.and_true, Bool.and_false, Bool.or_true, Bool.or_false, Bool.true_or, Bool.false_or, Nat.reduceAdd, Nat.reduceSub, Nat.reduceLT, Nat.reduceLeDiff, true_and, and_true, and_self, decide_eq_true_eq, Nat.zero_lt_succ, Nat.lt_add_left_iff_pos, beq_self_eq_true, String.reduceBEq, String.reduceEq, Nat.le_refl, Nat.zero_le, Bool.true_eq_false, decide_true, decide_false, Int.reduceEq, Int.reduceLT, Int.reduceLE, Int.reduceSub, Int.reduceAdd]
        refine ⟨by rw [List.length_map]; omega, ?_⟩
        refine ⟨o5, N, rfl, ho5, ⟨by omega, by omega⟩, fun c o6 ho6 c2 c3 => ?_⟩
        simp -implicitDefEqProofs only [DL.WW, List.isEmpty_nil, List.lookup_cons, List.lookup_nil, List.map, List.length, List.length_cons, List.length_nil, List.length_set, List.replicate, List.append, List.cons_append, List.nil_append, List.append_nil, List.getElem?_cons_zero, List.getElem?_cons_succ, List.getElem?_nil, List.set_cons_zero, List.set_cons_succ, ↓reduceIte, Bool.false_eq_true, Bool.not_true, Bool.not_false, Bool.true_and, Bool.false_and, Bool.and_true, Bool.and_false, Bool.or_true, Bool.or_false, Bool.true_or, Bool.false_or, Nat.reduceAdd, Nat.reduceSub, Nat.reduceLT, Nat.reduceLeDiff, true_and, and_true, and_self, decide_eq_true_eq, Nat.zero_lt_succ, Nat.lt_add_left_iff_pos, beq_self_eq_true, String.reduceBEq, String.reduceEq, Nat.le_refl, Nat.zero_le, Bool.true_eq_false, decide_true, decide_false, Int.reduceEq, Int.reduceLT, Int.reduceLE, Int.reduceSub, Int.reduceAdd]
        refine ⟨o6, ns ++ [c], ho6, by simp, by simp [hll], fun x hx => ?_, rfl⟩
        rcases List.mem_append.mp hx with h | h
        · exact hns x h
        · rw [List.mem_singleton] at h
          rw [h]
          exact ⟨c2, c3⟩
      · rintro acc e ⟨o5, ns, ho5, rfl, hll, hns, rfl⟩
        rw [range_len] at hll
        simp -implicitDefEqProofs only [DL.WW, List.isEmpty_nil, List.lookup_cons, List.lookup_nil, List.map, List.length, List.length_cons, List.length_nil, List.length_set, List.replicate, List.append, List.cons_append, List.nil_append, List.append_nil, List.getElem?_cons_zero, List.getElem?_cons_succ, List.getElem?_nil, List.set_cons_zero, List.set_cons_succ, ↓reduceIte, Bool.false_eq_true, Bool.not_true, Bool.not_false, Bool.true_and, Bool.false_and, Bool.and_true, Bool.and_false, Bool.or_true, Bool.or_false, Bool.true_or, Bool.false_or, Nat.reduceAdd, Nat.reduceSub, Nat.reduceLT, Nat.reduceLeDiff, true_and, and_true, and_self, decide_eq_true_eq, Nat.zero_lt_succ, Nat.lt_add_left_iff_pos, beq_self_eq_true, String.reduceBEq, String.reduceEq, Nat.le_refl, Nat.zero_le, Bool.true_eq_false, decide_true, decide_false, Int.reduceEq, Int.reduceLT, Int.reduceLE, Int.reduceSub, Int.reduceAdd, intsD_map]
        refine ⟨by omega, fun ns' hp hm => ?_⟩
        obtain ⟨ds, e1, e2, e3, e4⟩ := nat_list (ns := ns') (fun x hx => (hns x ((hm x).mp hx)).1) hp
        have e5 : ns'.map PyData.int = ds.map fun x : Nat => PyData.int x := by
          have := congrArg (List.map vD) e1
          rw [List.map_map, List.map_map] at this
          exact this
        have hlen2 : ns'.length ≤ ns.length := nodup_le (hp.imp fun h => by omega) fun x hx => (hm x).mp hx
        simp -implicitDefEqProofs only [DL.WW, List.isEmpty_nil, List.lookup_cons, List.lookup_nil, List.map, List.length, List.length_cons, List.length_nil, List.length_set, List.replicate, List.append, List.cons_append, List.nil_append, List.append_nil, List.getElem?_cons_zero, List.getElem?_cons_succ, List.getElem?_nil, List.set_cons_zero, List.set_cons_succ, ↓reduceIte, Bool.false_eq_true, Bool.not_true, Bool.not_false, Bool.true_and, Bool.false_and, Bool.and_true, Bool.and_false, Bool.or_true, Bool.or_false, Bool.true_or, Bool.false_or, Nat.reduceAdd, Nat.reduceSub, Nat.reduceLT, Nat.reduceLeDiff, true_and, and_true, and_self, decide_eq_true_eq, Nat.zero_lt_succ, Nat.lt_add_left_iff_pos, beq_self_eq_true, String.reduceBEq, String.reduceEq, Nat.le_refl, Nat.zero_le, Bool.true_eq_false, decide_true, decide_false, Int.reduceEq, Int.reduceLT, Int.reduceLE, Int.reduceSub, Int.reduceAdd, e5]
        refine ⟨by rw [List.length_map]; omega, o5, rs ++ [ds], _, _, ho5, by simp [hlj], fun r hr => ?_, by rw [List.map_append]; rfl⟩
        rcases List.mem_append.mp hr with h | h
        · exact hrs r h
        · rw [List.mem_singleton] at h
          subst h
          refine ⟨e2, fun x hx => ?_, by omega⟩
          have := hns x ((hm x).mp ((e4 x).mp hx))
          omega
    · rintro e ⟨o3, rs, z6, z7, ho3, hlj, hrs, rfl⟩
      rw [range_len] at hlj
      simp -implicitDefEqProofs only [DL.WW, List.isEmpty_nil, List.lookup_cons, List.lookup_nil, List.map, List.length, List.length_cons, List.length_nil, List.length_set, List.replicate, List.append, List.cons_append, List.nil_append, List.append_nil, List.getElem?_cons_zero, List.getElem?_cons_succ, List.getElem?_nil, List.set_cons_zero, List.set_cons_succ, ↓reduceIte, Bool.false_eq_true, Bool.not_true, Bool.not_false, Bool.true_and, Bool.false_and, Bool.and_true, Bool.and_false, Bool.or_true, Bool.or_false, Bool.true_or, Bool.false_or, Nat.reduceAdd, Nat.reduceSub, Nat.reduceLT, Nat.reduceLeDiff, true_and, and_true, and_self, decide_eq_true_eq, Nat.zero_lt_succ, Nat.lt_add_left_iff_pos, beq_self_eq_true, String.reduceBEq, String.reduceEq, Nat.le_refl, Nat.zero_le, Bool.true_eq_false, decide_true, decide_false, Int.reduceEq, Int.reduceLT, Int.reduceLE, Int.reduceSub, Int.reduceAdd]
      refine ⟨by rw [List.length_map]; omega, o3, rss ++ [rs], _, _, _, _, ho3, by simp [hlen], fun x hx => ?_, by rw [List.map_append]; rfl⟩
      rcases List.mem_append.mp hx with h | h
      · exact hgood x h
      · rw [List.mem_singleton] at h
        subst h
        exact ⟨by omega, hrs⟩
  · rintro e ⟨o2, rss, z4, z5, z6, z7, ho2, hlen, hgood, rfl⟩
    match rss, hlen, hgood with
    | [A, B], _, hgood =>
      simp -implicitDefEqProofs only [DL.WW, List.isEmpty_nil, List.lookup_cons, List.lookup_nil, List.map, List.length, List.length_cons, List.length_nil, List.length_set, List.replicate, List.append, List.cons_append, List.nil_append, List.append_nil, List.getElem?_cons_zero, List.getElem?_cons_succ, List.getElem?_nil, List.set_cons_zero, List.set_cons_succ, ↓reduceIte, Bool.false_eq_true, Bool.not_true, Bool.not_false, Bool.true_and, Bool.false_and, Bool.and_true, Bool.and_false, Bool.or_true, Bool.or_false, Bool.true_or, Bool.false_or, Nat.reduceAdd, Nat.reduceSub, Nat.reduceLT, Nat.reduceLeDiff, true_and, and_true, and_self, decide_eq_true_eq, Nat.zero_lt_succ, Nat.lt_add_left_iff_pos, beq_self_eq_true, String.reduceBEq, String.reduceEq, Nat.le_refl, Nat.zero_le, Bool.true_eq_false, decide_true, decide_false, Int.reduceEq, Int.reduceLT, Int.reduceLE, Int.reduceSub, Int.reduceAdd]
      obtain ⟨a1, a2⟩ := hgood A (by simp)
      obtain ⟨b1, b2⟩ := hgood B (by simp)
      refine q A B o2 ho2 ⟨by omega, by omega, by omega, ?_, ?_⟩ (by omega)
      · rw [a1]
        exact a2
      · rw [a1]
        exact b2
end
end K74D


set_option Elab.async false
set_option linter.all false
set_option maxRecDepth 100000
set_option maxHeartbeats 4000000
/-! tuple * 1 is the tuple itself -/
namespace L2
open PySem PySem.Spec PyProof.Rows
theorem tuple_mulOne (l : Addr) (items : Array Value) (n : Nat) (dd : Option Addr) (sl : Array (Option Value)) (u : Tok) :
    Meets (Builtin.«tuple.__mul__» ⟨[.ref l, .int 1 u], []⟩) (fun _ R s => s.heap.get? l = some { cls := .type "tuple", dict := dd, data := .seq items n, slots := sl } ∧
      R (.ok (.ret (Value.ref l))) s) :=
  .of_wp fun prog w A R s h => by
    obtain ⟨hp, g, d, tk, os⟩ := s
    obtain ⟨hl, h⟩ := h
    have f1 := AutoSeq1.idx_int
    have c0 : (decide ((1 : Int) < -(2 ^ 63)) || decide ((1 : Int) ≥ 2 ^ 63)) = false := by decide
    have c1 : (items.isEmpty || (1 : Int) == 1) = true := by simp
    wp_walk using wpAny_loadPart' hl
    repeat (first
      | (refine wpAny_ite_false (decide_eq_false (by rw [c0]; exact Bool.false_ne_true)) ?_; wp_walk using wpAny_loadPart' hl)
      | (refine wpAny_ite_true (decide_eq_true (by rw [c1])) ?_; wp_walk using wpAny_loadPart' hl))
    exact ⟨_, rfl, h⟩
def rRep1 (K : PySem.W.Frag) : R2 := fun x y H Q => ∃ l xs, x = .ref l ∧ y = .int 1 ∧ SqT K H l xs ∧ Q (.ref l) H
section
variable {X : Cx}
theorem op_rep1 : OpR X (binaryOp .Mult) (rRep1 X.K) := by
  intro pins s σ H x y v u Q I rx ry h
  obtain ⟨l, xs, rfl, rfl, hT, q⟩ := h
  cases rx
  obtain ⟨t, rfl⟩ := ry
  obtain ⟨its, r, ⟨⟨cls, dd, data, sl⟩, ho, hc, n, hd⟩, hs⟩ := I.tuple hT
  simp only at hc hd
  subst hc hd
  refine wpAny_binaryOp_repeat_ref (T := "tuple") (U := "int") (by decide) ⟨_, ho, rfl⟩ (fun s' => typeIs_int s' 1 t) noFill_tuple_mul F.fills_int_mul F.slot_int_rmul repeat_tuple F.slot_int_index.lookup
    (call_meets F.slot_int_rmul (typeIs_int s 1 t) F.entry_int_rmul (F.args_int_rmul_2 _ _) (int_rmul_tuple 1 t l its.toArray n dd sl)
      ⟨ho, rfl, ⟨_, ho, rfl⟩, call_meets F.slot_tuple_mul ⟨_, ho, rfl⟩ F.entry_tuple_mul (F.args_tuple_mul_2 _ _) (tuple_mulOne l its.toArray n dd sl t) ⟨ho, ?_⟩⟩)
  exact ⟨.ref l, _, I, rfl, q⟩
/-- tuple * int, from 1 on -/
def rRepA (K : PySem.W.Frag) : R2 := fun x y H Q => rRepT K x y H Q ∨ rRep1 K x y H Q
theorem op_repA : OpR X (binaryOp .Mult) (rRepA X.K) := by
  intro pins s σ H x y v u Q I rx ry h
  rcases h with h | h
  · exact op_repT pins s σ H x y v u Q I rx ry h
  · exact op_rep1 pins s σ H x y v u Q I rx ry h
end
end L2


set_option Elab.async false
set_option linter.all false
set_option maxRecDepth 100000
set_option maxHeartbeats 4000000
/-! tuple * int; an empty dict as data. -/
namespace DL
open PySem L2 TG
section
variable {f : Fr}
def gRepT (d1 d2 : PyData) (P : Vl → Prop) : Prop := match d1, d2 with
  | .tuple ds, .int k => (ds ≠ [] ∧ 1 ≤ k ∧ k ≤ 1000 ∧ ds.length ≤ 1000) ∧ P (.dat (.tuple (List.replicate k.toNat ds).flatten))
  | _, _ => False
theorem eRepT {ds : List PyData} {k : Int} {P : Vl → Prop} : gRepT (.tuple ds) (.int k) P = ((ds ≠ [] ∧ 1 ≤ k ∧ k ≤ 1000 ∧ ds.length ≤ 1000) ∧ P (.dat (.tuple (List.replicate k.toNat ds).flatten))) := rfl
theorem sr_repT : SR f (rRepA f.K) gRepT := ⟨fun {L W e σ Hz H x y d1 d2 Post Q} r1 r2 s h k => by
  unfold gRepT at h
  split at h
  · rename_i ds n
    obtain ⟨⟨h1, h2, h3, h4⟩, h5⟩ := h
    obtain ⟨a, xs, rfl, q1, q2⟩ := dp_tup r1
    cases r2
    have hne : xs ≠ [] := fun c => h1 (by
      have := dps_len q2
      rw [c] at this
      exact List.eq_nil_of_length_eq_zero this.symm)
    by_cases c : n = 1
    · subst c
      refine .inr ⟨a, xs, rfl, rfl, sqT s.sm q1, ?_⟩
      refine k _ _ _ _ h5 same_refl s ?_
      have e : (List.replicate (Int.toNat 1) ds).flatten = ds := by
        show (List.replicate 1 ds).flatten = ds
        simp
      rw [e]
      exact Dp.tup q1 q2
    · refine .inl ⟨a, n, xs, rfl, rfl, sqT s.sm q1, hne, by omega, h3, by rw [dps_len q2]; exact h4, fun p hp => ?_⟩
      have s1 := same_new (s.hz hp) (.tup (List.replicate n.toNat xs).flatten)
      exact k _ _ _ _ h5 s1 (s.newT hp) (Dp.tup (SqT.of upd_same) (dps_mono s1 _ _ (dps_rep2 q2 _)))
  · exact h.elim⟩
/-- {} as data -/
def wEDic (e : En) (P : Vl → En → Prop) : Prop := P (.dat (.dict [])) e
theorem se_edic : SE f tDNewK wEDic := ⟨fun {L W e σ Hz H Post Q} w y k p hp => k (.dat (.dict [])) _ _ _ _ w (same_new (y.hz hp) (.dK [])) (y.newT hp) (Dp.dic upd_same)⟩
end
end DL


set_option Elab.async false
set_option linter.all false
set_option maxRecDepth 100000
set_option maxHeartbeats 4000000
namespace K74D
open PySem L2 TG DL K74 GM SV
section
variable {P : Program} {w : World} {K : PySem.W.Frag} {mg : Str → Option Value} {base : Heap}
theorem TD_wD (x : Option (Nat × Nat)) : TD (wD x) := by
  rw [wD_two]
  have sw : PyData.strOk (wordO x) = true := by
    cases x with
    | none => decide +kernel
    | some p =>
      unfold wordO wordS
      dsimp only
      split <;> decide +kernel
  cases x with
  | none => exact .two sw .non
  | some p => exact .two sw (.int _)
theorem set_split (l : List PyData) (v : Nat) (h : v < l.length) (y : PyData) : l.take v ++ [y] ++ l.drop (v + 1) = l.set v y := by
  rw [List.set_eq_take_append_cons_drop, if_pos h]
  simp
theorem eqv_pair {f g : Nat → Nat → Option (Nat × Nat)} {v : Nat} (hf : ∀ s, s < 2 → W2 (f s v)) (hg : ∀ s, s < 2 → W2 (g s v)) : PyData.eqv (pairD f v) (pairD g v) = true ↔ pairD f v = pairD g v := by
  have e : PyData.eqv (pairD f v) (pairD g v) = (decide (f 0 v = g 0 v) && decide (f 1 v = g 1 v)) := by
    show PyData.eqv (.tuple [wD (f 0 v), wD (f 1 v)]) (.tuple [wD (g 0 v), wD (g 1 v)]) = _
    rw [eqv_tup]
    simp only [PyData.eqvAll, Bool.and_true]
    rw [eqv_wD (hf 0 (by decide)) (hg 0 (by decide)), eqv_wD (hf 1 (by decide)) (hg 1 (by decide))]
  rw [e, Bool.and_eq_true]
  constructor
  · rintro ⟨h1, h2⟩
    unfold pairD
    rw [of_decide_eq_true h1, of_decide_eq_true h2]
  · intro h
    have h' := PyData.tuple.inj (show PyData.tuple [wD (f 0 v), wD (f 1 v)] = .tuple [wD (g 0 v), wD (g 1 v)] from h)
    simp only [List.cons.injEq, and_true] at h'
    exact ⟨decide_eq_true (wD_inj (hf 0 (by decide)) (hg 0 (by decide)) h'.1), decide_eq_true (wD_inj (hf 1 (by decide)) (hg 1 (by decide)) h'.2)⟩
theorem eqv_pairs {f g : Nat → Nat → Option (Nat × Nat)} : ∀ l : List Nat, (∀ v ∈ l, ∀ s, s < 2 → W2 (f s v)) → (∀ v ∈ l, ∀ s, s < 2 → W2 (g s v)) → (PyData.eqvAll (l.map (pairD f)) (l.map (pairD g)) = true ↔ l.map (pairD f) = l.map (pairD g))
  | [], _, _ => by simp [PyData.eqvAll]
  | v :: l, hf, hg => by
    simp only [List.map_cons, PyData.eqvAll, Bool.and_eq_true, List.cons.injEq]
    rw [eqv_pair (hf v (List.mem_cons_self ..)) (hg v (List.mem_cons_self ..)), eqv_pairs l (fun x hx => hf x (List.mem_cons_of_mem _ hx)) (fun x hx => hg x (List.mem_cons_of_mem _ hx))]
theorem rep_flat (y : PyData) (n : Nat) : (List.replicate n [y]).flatten = List.replicate n y := by
  induction n with
  | zero => rfl
  | succ n ih => rw [List.replicate_succ, List.flatten_cons, ih, List.replicate_succ]; rfl
theorem TD_pair (g : Nat → Nat → Option (Nat × Nat)) (v : Nat) : ∃ a b, pairD g v = .tuple [a, b] ∧ TD a ∧ TD b := ⟨_, _, rfl, TD_wD _, TD_wD _⟩
theorem ok_law {k : Nat} (T : Txt K mg) (G_law_graph : FnOk P w K mg base CX0 (k) T.a_law_graph T.d_law_graph ["_law_row", "_law_most"] (spD K F_law_graph)) (G_law_told : FnOk P w K mg base CX0 (k) T.a_law_told T.d_law_told ["_law_graph_here"] (spD K F_law_told)) (G_law_pick : FnOk P w K mg base CX0 (k) T.a_law_pick T.d_law_pick ["_law_row", "_law_things"] (spD K F_law_pick)) (G_law_is : FnOk P w K mg base CX0 (k) T.a_law_is T.d_law_is ["_law_found", "_law_due"] (spD K F_law_is)) (G_law_taken : FnOk P w K mg base CX0 (k) T.a_law_taken T.d_law_taken ["_law_row", "_law_many"] (spD K F_law_taken)) (G_law_alike : FnOk P w K mg base CX0 (k) T.a_law_alike T.d_law_alike ["_law_found", "_law_due"] (spD K F_law_alike)) (G_shows_solution : FnOk P w K mg base CX0 (k) T.a_shows_solution T.d_shows_solution ["graph", "value"] (spD K F_shows_solution)) (G_solution : FnOk P w K mg base CX0 (k) T.a_solution T.d_solution ["graph"] (spD K F_solution)) : FnOk P w K mg base CX0 (k + 1) T.a_law T.d_law ["_law_script"] (spD K F_law) := by
  refine (fun (hA : ∀ args P, F_law args P → args.length = 1) => T.F_law.ok (sp := spD K F_law) sc_law (fun vs H Q E h => spD_len hA h) (fun cdv A outer s H vs Q E hr h => ⟨_, (pss_cons (ps_set (i := 1) sc_law.nd rfl (Or.inl rfl) (pe_lst (pa_cons (pv 0) (pa_cons pe_int (pa_cons pe_int (pa_cons pe_int pa_nil))))))
  (pss_cons (ps_set (i := 2) sc_law.nd rfl (Or.inl rfl) (pe_call G_law_graph hr rfl T.g_law_graph T.F_law_graph.kp T.b_law_graph .nil pass0 (pa_cons (pv 1) (pa_cons pe_int pa_nil))))
  (pss_cons (ps_set (i := 3) sc_law.nd rfl (Or.inl rfl) (pe_call G_law_told hr rfl T.g_law_told T.F_law_told.kp T.b_law_told .nil pass0 (pa_cons (pv 2) pa_nil)))
  (pss_cons (ps_if (PW.pt (pw_or (pt_cmpR op_notBl (pe_call G_shows_solution hr rfl T.g_shows_solution T.F_shows_solution.kp T.b_shows_solution .nil pass0 (pa_cons (pv 2) (pa_cons (pv 3) pa_nil))) pe_bl (nomark _)) (pw_or1 (pt_cmpR op_notBl (pe_call G_shows_solution hr rfl T.g_shows_solution T.F_shows_solution.kp T.b_shows_solution .nil pass0 (pa_cons (pv 2) (pa_cons (pe_call G_solution hr rfl T.g_solution T.F_solution.kp T.b_solution .nil pass0 (pa_cons (pv 2) pa_nil)) pa_nil))) pe_bl (nomark _)))))
  (pss_one (ps_ret pe_bl))
  pss_nil)
  (pss_cons (ps_par (i := 4) (j := 5) rfl sc_law.nd rfl rfl (by decide) rfl rfl (pa_cons (pe_call G_law_taken hr rfl T.g_law_taken T.F_law_taken.kp T.b_law_taken .nil pass0 (pa_cons (pv 1) (pa_cons (pe_callB (call_lenK (K := K) rfl) rfl T.m_len PySem.boot_len (pa_cons (pv 3) pa_nil)) pa_nil))) (pa_cons (pe_call G_law_taken hr rfl T.g_law_taken T.F_law_taken.kp T.b_law_taken .nil pass0 (pa_cons (pv 1) (pa_cons pe_int pa_nil))) pa_nil)) rfl)
  (pss_cons (ps_set (i := 6) sc_law.nd rfl (Or.inl rfl) (pe_ix (ix_tupK (K := K) rfl) (pe_ix (ix_tupK (K := K) rfl) (pv 3) (pv 4) (fun _ _ => rfl)) (pv 5) (fun _ _ => rfl)))
  (pss_cons (ps_set (i := 7) sc_law.nd rfl (Or.inl rfl) (pe_lst (pa_cons (pe_tup (pa_cons pe_str (pa_cons pe_non pa_nil))) (pa_cons (pe_tup (pa_cons pe_str (pa_cons (pe_call G_law_taken hr rfl T.g_law_taken T.F_law_taken.kp T.b_law_taken .nil pass0 (pa_cons (pv 1) (pa_cons pe_int pa_nil))) pa_nil))) (pa_cons (pe_tup (pa_cons pe_str (pa_cons (pe_call G_law_taken hr rfl T.g_law_taken T.F_law_taken.kp T.b_law_taken .nil pass0 (pa_cons (pv 1) (pa_cons pe_int pa_nil))) pa_nil))) (pa_cons (pe_tup (pa_cons (pe_ix (ix_tupK (K := K) rfl) (pv 6) pe_int (fun _ _ => rfl)) (pa_cons pe_int pa_nil))) (pa_cons (pe_tup (pa_cons pe_str (pa_cons pe_int pa_nil))) pa_nil)))))))
  (pss_cons (ps_set (i := 7) sc_law.nd rfl (Or.inl rfl) (pe_op (op_catQ (K := K) rfl) (pv 7) (pe_lst (pa_cons pe_non (pa_cons pe_str (pa_cons (pe_tup (pa_cons pe_str pa_nil)) (pa_cons (pe_tup (pa_cons pe_str (pa_cons (pe_un un_neg pe_int) pa_nil))) (pa_cons (pe_tup (pa_cons pe_str (pa_cons pe_non pa_nil))) (pa_cons (pe_tup (pa_cons pe_str (pa_cons pe_non pa_nil))) (pa_cons (pe_lst (pa_cons pe_str (pa_cons pe_int pa_nil))) (pa_cons (pe_tup (pa_cons pe_str (pa_cons pe_bl pa_nil))) (pa_cons (pv 6) pa_nil))))))))))))
  (pss_cons (ps_set (i := 8) sc_law.nd rfl (Or.inl rfl) (pe_callTy (call_list_ofK (K := K) rfl) rfl T.m_list (by decide +kernel) (pa_cons (pe_ix (ix_tupK (K := K) rfl) (pv 3) (pv 4) (fun _ _ => rfl)) pa_nil)))
  (pss_cons (ps_asg (pe_call G_law_pick hr rfl T.g_law_pick T.F_law_pick.kp T.b_law_pick .nil pass0 (pa_cons (pv 1) (pa_cons (pv 7) pa_nil))) (pg_sub (pv 8) (pv 5) set_list))
  (pss_cons (ps_set (i := 9) sc_law.nd rfl (Or.inl rfl) (pe_op (op_catAK (K := K) rfl) (pe_op (op_catAK (K := K) rfl) (pe_slice (sl_tupAK (K := K) rfl) (pv 3) po_none (po_some (pv 4))) (pe_tup (pa_cons (pe_callTy (call_tuple_ofK (K := K) rfl) rfl T.m_tuple (by decide +kernel) (pa_cons (pv 8) pa_nil)) pa_nil))) (pe_slice (sl_tupAK (K := K) rfl) (pv 3) (po_some (pe_op op_add (pv 4) pe_int)) po_none)))
  (pss_cons (ps_set (i := 10) sc_law.nd rfl (Or.inl rfl) (pe_ifExp (pt_val (pe_callB (call_isiX (K := K) rfl) rfl T.m_isinstance (by decide +kernel) (pa_cons (pe_ix (ix_listK (K := K) rfl) (pv 8) (pv 5) (fun _ _ => rfl)) (pa_cons (pe_bltn (v := .ty "tuple") (u := .type "tuple") rfl T.m_tuple (by decide +kernel) rfl) pa_nil)))) (pe_call G_law_alike hr rfl T.g_law_alike T.F_law_alike.kp T.b_law_alike .nil pass0 (pa_cons (pe_ix (ix_listK (K := K) rfl) (pv 8) (pv 5) (fun _ _ => rfl)) (pa_cons (pv 6) pa_nil))) pe_bl))
  (pss_cons (ps_if (pt_not (pt_val (pe_call G_law_is hr rfl T.g_law_is T.F_law_is.kp T.b_law_is .nil pass0 (pa_cons (pe_call G_shows_solution hr rfl T.g_shows_solution T.F_shows_solution.kp T.b_shows_solution .nil pass0 (pa_cons (pv 2) (pa_cons (pv 9) pa_nil))) (pa_cons (pv 10) pa_nil)))))
  (pss_one (ps_ret pe_bl))
  pss_nil)
  (pss_cons (ps_set (i := 11) sc_law.nd rfl (Or.inl rfl) (pe_call G_law_pick hr rfl T.g_law_pick T.F_law_pick.kp T.b_law_pick .nil pass0 (pa_cons (pv 1) (pa_cons (pe_lst (pa_cons pe_non (pa_cons (pe_slice (sl_tupAK (K := K) rfl) (pv 3) po_none (po_some (pe_un un_neg pe_int))) (pa_cons (pe_op (op_catAK (K := K) rfl) (pv 3) (pe_slice (sl_tupAK (K := K) rfl) (pv 3) po_none (po_some pe_int))) (pa_cons (pe_callTy (call_list_ofK (K := K) rfl) rfl T.m_list (by decide +kernel) (pa_cons (pv 3) pa_nil)) (pa_cons pe_str (pa_cons (pe_tup (pa_cons (pv 3) pa_nil)) (pa_cons pe_dnewK pa_nil)))))))) pa_nil))))
  (pss_cons (ps_if (pt_cmpR op_notBl (pe_call G_shows_solution hr rfl T.g_shows_solution T.F_shows_solution.kp T.b_shows_solution .nil pass0 (pa_cons (pv 2) (pa_cons (pv 11) pa_nil))) pe_bl (nomark _))
  (pss_one (ps_ret pe_bl))
  pss_nil)
  (pss_cons (ps_set (i := 12) sc_law.nd rfl (Or.inl rfl) (pe_op op_repA (pe_tup (pa_cons (pe_op op_repA (pe_tup (pa_cons (pe_tup (pa_cons pe_str (pa_cons pe_non pa_nil))) pa_nil)) pe_int) pa_nil)) (pe_callB (call_lenK (K := K) rfl) rfl T.m_len PySem.boot_len (pa_cons (pv 3) pa_nil))))
  (pss_one (ps_ret (pe_call G_law_is hr rfl T.g_law_is T.F_law_is.kp T.b_law_is .nil pass0 (pa_cons (pe_call G_shows_solution hr rfl T.g_shows_solution T.F_shows_solution.kp T.b_shows_solution .nil pass0 (pa_cons (pv 2) (pa_cons (pv 12) pa_nil))) (pa_cons (pe_cmpR (op_eqDK (K := K) rfl hr.units) (pv 12) (pv 3) (nomark _)) pa_nil))))))))))))))))))))), fn_run (N := ["_law_script", "_law_row", "_law_graph_here", "_law_due", "_law_node", "_law_side", "_law_told_here", "_law_some", "_law_pair", "_law_bent", "_law_same", "_law_wrong", "_law_all_draws"]) h (fun A' Hz' => (ss_seq (ss_asg (se_lst (sa_cons se_var (sa_cons se_int (sa_cons se_int (sa_cons se_int sa_nil))))) sg_name)
  (ss_seq (ss_asg (se_callO (sa_cons se_int sa_nil)) sg_name)
  (ss_seq (ss_asg (se_call (sa_cons se_var sa_nil)) sg_name)
  (ss_seq (ss_if (st_or (st_test (se_op sr_notB (se_call (sa_cons se_var (sa_cons se_var sa_nil))) se_bl)) (st_test (se_op sr_notB (se_call (sa_cons se_var (sa_cons (se_call (sa_cons se_var sa_nil)) sa_nil))) se_bl)))
  (ss_ret se_bl)
  ss_next)
  (ss_seq (ss_par (by decide) (se_callO (sa_cons (se_cb1 sc_len se_var) sa_nil)) (se_callO (sa_cons se_int sa_nil)))
  (ss_seq (ss_asg (se_op sr_ixT (se_op sr_ixT se_var se_var) se_var) sg_name)
  (ss_seq (ss_asg (se_lst (sa_cons (se_tup (sa_cons se_str (sa_cons se_non sa_nil))) (sa_cons (se_tup (sa_cons se_str (sa_cons (se_callO (sa_cons se_int sa_nil)) sa_nil))) (sa_cons (se_tup (sa_cons se_str (sa_cons (se_callO (sa_cons se_int sa_nil)) sa_nil))) (sa_cons (se_tup (sa_cons (se_op sr_ixT se_var se_int) (sa_cons se_int sa_nil))) (sa_cons (se_tup (sa_cons se_str (sa_cons se_int sa_nil))) sa_nil)))))) sg_name)
  (ss_seq (ss_asg (se_op sr_cat se_var (se_lst (sa_cons se_non (sa_cons se_str (sa_cons (se_tup (sa_cons se_str sa_nil)) (sa_cons (se_tup (sa_cons se_str (sa_cons (se_un (fun _ => rfl) se_int) sa_nil))) (sa_cons (se_tup (sa_cons se_str (sa_cons se_non sa_nil))) (sa_cons (se_tup (sa_cons se_str (sa_cons se_non sa_nil))) (sa_cons (se_lst (sa_cons se_str (sa_cons se_int sa_nil))) (sa_cons (se_tup (sa_cons se_str (sa_cons se_bl sa_nil))) (sa_cons se_var sa_nil))))))))))) sg_name)
  (ss_seq (ss_asg (se_cb1 sc_listOf (se_op sr_ixT se_var se_var)) sg_name)
  (ss_seq (ss_asg (se_callO (sa_cons se_var sa_nil)) (sg_sub se_var))
  (ss_seq (ss_asg (se_op sr_catA (se_op sr_catA (se_slT se_var so_none (so_some se_var)) (se_tup (sa_cons (se_cb1 sc_tupOf se_var) sa_nil))) (se_slT se_var (so_some (se_op (sr_I0 (fun _ _ => rfl)) se_var se_int)) so_none)) sg_name)
  (ss_cut (ss_asg (se_if (st_B (se_isi rfl (se_op sr_ixL se_var se_var))) (se_call (sa_cons (se_op sr_ixL se_var se_var) (sa_cons se_var sa_nil))) se_bl) sg_name)
  (ss_seq (ss_if (st_not (st_B (se_call (sa_cons (se_call (sa_cons se_var (sa_cons se_var sa_nil))) (sa_cons se_var sa_nil)))))
  (ss_ret se_bl)
  ss_next)
  (ss_seq (ss_asg (se_callO (sa_cons (se_lst (sa_cons se_non (sa_cons (se_slT se_var so_none (so_some (se_un (fun _ => rfl) se_int))) (sa_cons (se_op sr_catA se_var (se_slT se_var so_none (so_some se_int))) (sa_cons (se_cb1 sc_listOf se_var) (sa_cons se_str (sa_cons (se_tup (sa_cons se_var sa_nil)) (sa_cons se_edic sa_nil)))))))) sa_nil)) sg_name)
  (ss_seq (ss_if (st_test (se_op sr_notB (se_call (sa_cons se_var (sa_cons se_var sa_nil))) se_bl))
  (ss_ret se_bl)
  ss_next)
  (ss_seq (ss_asg (se_op sr_repT (se_tup (sa_cons (se_op sr_repT (se_tup (sa_cons (se_tup (sa_cons se_str (sa_cons se_non sa_nil))) sa_nil)) se_int) sa_nil)) (se_cb1 sc_len se_var)) sg_name)
  (ss_ret (se_call (sa_cons (se_call (sa_cons se_var (sa_cons se_var sa_nil))) (sa_cons (se_op sr_eqD se_var se_var) sa_nil))))))))))))))))))))) (fun args P hl hF => ?_) (by rw [spD_len hA h]; exact Nat.le_of_ble_eq_true rfl)⟩)) (fun args P hF => ?_)
  rotate_left
  · obtain ⟨ns, rfl, _⟩ := hF
    rfl
  obtain ⟨ns, rfl, hl2, q⟩ := hF
  simp -implicitDefEqProofs only [DL.WW, List.isEmpty_nil, List.lookup_cons, List.lookup_nil, List.map, List.length, List.length_cons, List.length_nil, List.length_set, List.replicate, List.append, List.cons_append, List.nil_append, List.append_nil, List.getElem?_cons_zero, List.getElem?_cons_succ, List.getElem?_nil, List.set_cons_zero, List.set_cons_succ, ↓reduceIte, Bool.false_eq_true, Bool.not_true, Bool.not_false, Bool.true_and, Bool.false_and, Bool.and_true, Bool.and_false, Bool.or_true, Bool.or_false, Bool.true_or, Bool.false_or, Nat.reduceAdd, Nat.reduceSub, Nat.reduceLT, Nat.reduceLeDiff, true_and, and_true, and_self, decide_eq_true_eq, Nat.zero_lt_succ, Nat.lt_add_left_iff_pos, beq_self_eq_true, String.reduceBEq, String.reduceEq, Nat.le_refl, Nat.zero_le, Bool.true_eq_false, decide_true, decide_false, Int.reduceEq, Int.reduceLT, Int.reduceLE, Int.reduceSub, Int.reduceAdd, DL.wIfT, DL.wListRg, DL.eSortT]
  refine ⟨_, 6, rfl, isRow_new hl2, ⟨by decide, by decide⟩, fun L R o ho hok hm => ?_⟩
  simp -implicitDefEqProofs only [DL.WW, List.isEmpty_nil, List.lookup_cons, List.lookup_nil, List.map, List.length, List.length_cons, List.length_nil, List.length_set, List.replicate, List.append, List.cons_append, List.nil_append, List.append_nil, List.getElem?_cons_zero, List.getElem?_cons_succ, List.getElem?_nil, List.set_cons_zero, List.set_cons_succ, ↓reduceIte, Bool.false_eq_true, Bool.not_true, Bool.not_false, Bool.true_and, Bool.false_and, Bool.and_true, Bool.and_false, Bool.or_true, Bool.or_false, Bool.true_or, Bool.false_or, Nat.reduceAdd, Nat.reduceSub, Nat.reduceLT, Nat.reduceLeDiff, true_and, and_true, and_self, decide_eq_true_eq, Nat.zero_lt_succ, Nat.lt_add_left_iff_pos, beq_self_eq_true, String.reduceBEq, String.reduceEq, Nat.le_refl, Nat.zero_le, Bool.true_eq_false, decide_true, decide_false, Int.reduceEq, Int.reduceLT, Int.reduceLE, Int.reduceSub, Int.reduceAdd, DL.wIfT, DL.wListRg, DL.eSortT]
  have hok' : GrOk L R := hok
  have h60 : L.length ≤ 60 := hok.2.2.1
  refine ⟨L, R, rfl, hok', ?_⟩
  simp -implicitDefEqProofs only [DL.WW, List.isEmpty_nil, List.lookup_cons, List.lookup_nil, List.map, List.length, List.length_cons, List.length_nil, List.length_set, List.replicate, List.append, List.cons_append, List.nil_append, List.append_nil, List.getElem?_cons_zero, List.getElem?_cons_succ, List.getElem?_nil, List.set_cons_zero, List.set_cons_succ, ↓reduceIte, Bool.false_eq_true, Bool.not_true, Bool.not_false, Bool.true_and, Bool.false_and, Bool.and_true, Bool.and_false, Bool.or_true, Bool.or_false, Bool.true_or, Bool.false_or, Nat.reduceAdd, Nat.reduceSub, Nat.reduceLT, Nat.reduceLeDiff, true_and, and_true, and_self, decide_eq_true_eq, Nat.zero_lt_succ, Nat.lt_add_left_iff_pos, beq_self_eq_true, String.reduceBEq, String.reduceEq, Nat.le_refl, Nat.zero_le, Bool.true_eq_false, decide_true, decide_false, Int.reduceEq, Int.reduceLT, Int.reduceLE, Int.reduceSub, Int.reduceAdd, DL.wIfT, DL.wListRg, DL.eSortT]
  obtain ⟨g, hg⟩ : ∃ g, g = gS (op L R) := ⟨_, rfl⟩
  have hshow : ∀ (rows : List PyData) (Po : Vl → En → Prop), rows.length = L.length → (∀ x ∈ rows, ∃ a b, x = .tuple [a, b] ∧ TD a ∧ TD b) → (∀ b : Bool, (b = true ↔ .tuple rows = solD L.length g) → Po (.dat (.bool b)) [none, none]) → F_shows_solution [some (.dat (grD L R)), some (.dat (.tuple rows))] Po := fun rows Po h1 h2 h3 => ⟨L, R, _, rfl, hok', .inl ⟨rows, rfl, h1, h2, by rw [← hg]; exact h3⟩⟩
  have hTDs : ∀ f, ∀ x ∈ (List.range L.length).map (pairD f), ∃ a b, x = .tuple [a, b] ∧ TD a ∧ TD b := fun f x hx => by
    obtain ⟨v, _, rfl⟩ := List.mem_map.mp hx
    exact TD_pair f v
  have hlen : ∀ f, ((List.range L.length).map (pairD f)).length = L.length := fun f => by rw [List.length_map, List.length_range]
  have hsolD : solD L.length g = .tuple ((List.range L.length).map (pairD g)) := rfl
  have h1L : 1 ≤ L.length := hok'.2.1
  rw [← hg, hsolD]
  refine hshow _ _ (hlen g) (hTDs g) fun b hb => ?_
  have : b = true := hb.mpr rfl
  subst this
  simp -implicitDefEqProofs only [DL.WW, List.isEmpty_nil, List.lookup_cons, List.lookup_nil, List.map, List.length, List.length_cons, List.length_nil, List.length_set, List.replicate, List.append, List.cons_append, List.nil_append, List.append_nil, List.getElem?_cons_zero, List.getElem?_cons_succ, List.getElem?_nil, List.set_cons_zero, List.set_cons_succ, ↓reduceIte, Bool.false_eq_true, Bool.not_true, Bool.not_false, Bool.true_and, Bool.false_and, Bool.and_true, Bool.and_false, Bool.or_true, Bool.or_false, Bool.true_or, Bool.false_or, Nat.reduceAdd, Nat.reduceSub, Nat.reduceLT, Nat.reduceLeDiff, true_and, and_true, and_self, decide_eq_true_eq, Nat.zero_lt_succ, Nat.lt_add_left_iff_pos, beq_self_eq_true, String.reduceBEq, String.reduceEq, Nat.le_refl, Nat.zero_le, Bool.true_eq_false, decide_true, decide_false, Int.reduceEq, Int.reduceLT, Int.reduceLE, Int.reduceSub, Int.reduceAdd, DL.wIfT, DL.wListRg, DL.eSortT]
  refine ⟨L, R, rfl, hok', ?_⟩
  rw [← hg, hsolD]
  simp -implicitDefEqProofs only [DL.WW, List.isEmpty_nil, List.lookup_cons, List.lookup_nil, List.map, List.length, List.length_cons, List.length_nil, List.length_set, List.replicate, List.append, List.cons_append, List.nil_append, List.append_nil, List.getElem?_cons_zero, List.getElem?_cons_succ, List.getElem?_nil, List.set_cons_zero, List.set_cons_succ, ↓reduceIte, Bool.false_eq_true, Bool.not_true, Bool.not_false, Bool.true_and, Bool.false_and, Bool.and_true, Bool.and_false, Bool.or_true, Bool.or_false, Bool.true_or, Bool.false_or, Nat.reduceAdd, Nat.reduceSub, Nat.reduceLT, Nat.reduceLeDiff, true_and, and_true, and_self, decide_eq_true_eq, Nat.zero_lt_succ, Nat.lt_add_left_iff_pos, beq_self_eq_true, String.reduceBEq, String.reduceEq, Nat.le_refl, Nat.zero_le, Bool.true_eq_false, decide_true, decide_false, Int.reduceEq, Int.reduceLT, Int.reduceLE, Int.reduceSub, Int.reduceAdd, DL.wIfT, DL.wListRg, DL.eSortT]
  refine hshow _ _ (hlen g) (hTDs g) fun b hb => ?_
  have : b = true := hb.mpr rfl
  subst this
  simp -implicitDefEqProofs only [DL.WW, List.isEmpty_nil, List.lookup_cons, List.lookup_nil, List.map, List.length, List.length_cons, List.length_nil, List.length_set, List.replicate, List.append, List.cons_append, List.nil_append, List.append_nil, List.getElem?_cons_zero, List.getElem?_cons_succ, List.getElem?_nil, List.set_cons_zero, List.set_cons_succ, ↓reduceIte, Bool.false_eq_true, Bool.not_true, Bool.not_false, Bool.true_and, Bool.false_and, Bool.and_true, Bool.and_false, Bool.or_true, Bool.or_false, Bool.true_or, Bool.false_or, Nat.reduceAdd, Nat.reduceSub, Nat.reduceLT, Nat.reduceLeDiff, true_and, and_true, and_self, decide_eq_true_eq, Nat.zero_lt_succ, Nat.lt_add_left_iff_pos, beq_self_eq_true, String.reduceBEq, String.reduceEq, Nat.le_refl, Nat.zero_le, Bool.true_eq_false, decide_true, decide_false, Int.reduceEq, Int.reduceLT, Int.reduceLE, Int.reduceSub, Int.reduceAdd, DL.wIfT, DL.wListRg, DL.eSortT, List.length_map, List.length_range]
  refine ⟨_, _, rfl, ho, ⟨by omega, by omega⟩, fun v o2 ho2 v0 v1 => ?_⟩
  obtain ⟨v, rfl⟩ := Int.eq_ofNat_of_zero_le v0
  have hv : v < L.length := by omega
  simp -implicitDefEqProofs only [DL.WW, List.isEmpty_nil, List.lookup_cons, List.lookup_nil, List.map, List.length, List.length_cons, List.length_nil, List.length_set, List.replicate, List.append, List.cons_append, List.nil_append, List.append_nil, List.getElem?_cons_zero, List.getElem?_cons_succ, List.getElem?_nil, List.set_cons_zero, List.set_cons_succ, ↓reduceIte, Bool.false_eq_true, Bool.not_true, Bool.not_false, Bool.true_and, Bool.false_and, Bool.and_true, Bool.and_false, Bool.or_true, Bool.or_false, Bool.true_or, Bool.false_or, Nat.reduceAdd, Nat.reduceSub, Nat.reduceLT, Nat.reduceLeDiff, true_and, and_true, and_self, decide_eq_true_eq, Nat.zero_lt_succ, Nat.lt_add_left_iff_pos, beq_self_eq_true, String.reduceBEq, String.reduceEq, Nat.le_refl, Nat.zero_le, Bool.true_eq_false, decide_true, decide_false, Int.reduceEq, Int.reduceLT, Int.reduceLE, Int.reduceSub, Int.reduceAdd, DL.wIfT, DL.wListRg, DL.eSortT]
  refine ⟨_, _, rfl, ho2, ⟨by omega, by omega⟩, fun s o3 ho3 s0 s1 => ?_⟩
  obtain ⟨s, rfl⟩ := Int.eq_ofNat_of_zero_le s0
  have hs : s < 2 := by omega
  have e1 : atI ((List.range L.length).map (pairD g)) (v : Int) = some (pairD g v) := atI_nat (by rw [List.getElem?_map, List.getElem?_range hv]; rfl)
  have e2 : pairD g v = .tuple [wD (g 0 v), wD (g 1 v)] := rfl
  have e3 : atI [wD (g 0 v), wD (g 1 v)] (s : Int) = some (wD (g s v)) := by
    have : s = 0 ∨ s = 1 := by omega
    rcases this with rfl | rfl <;> rfl
  simp -implicitDefEqProofs only [DL.WW, List.isEmpty_nil, List.lookup_cons, List.lookup_nil, List.map, List.length, List.length_cons, List.length_nil, List.length_set, List.replicate, List.append, List.cons_append, List.nil_append, List.append_nil, List.getElem?_cons_zero, List.getElem?_cons_succ, List.getElem?_nil, List.set_cons_zero, List.set_cons_succ, ↓reduceIte, Bool.false_eq_true, Bool.not_true, Bool.not_false, Bool.true_and, Bool.false_and, Bool.and_true, Bool.and_false, Bool.or_true, Bool.or_false, Bool.true_or, Bool.false_or, Nat.reduceAdd, Nat.reduceSub, Nat.reduceLT, Nat.reduceLeDiff, true_and, and_true, and_self, decide_eq_true_eq, Nat.zero_lt_succ, Nat.lt_add_left_iff_pos, beq_self_eq_true, String.reduceBEq, String.reduceEq, Nat.le_refl, Nat.zero_le, Bool.true_eq_false, decide_true, decide_false, Int.reduceEq, Int.reduceLT, Int.reduceLE, Int.reduceSub, Int.reduceAdd, DL.wIfT, DL.wListRg, DL.eSortT, e1, e2, e3]
  refine ⟨_, _, rfl, ho3, ⟨by omega, by omega⟩, fun j1 o4 ho4 j10 j11 => ?_⟩
  simp -implicitDefEqProofs only [DL.WW, List.isEmpty_nil, List.lookup_cons, List.lookup_nil, List.map, List.length, List.length_cons, List.length_nil, List.length_set, List.replicate, List.append, List.cons_append, List.nil_append, List.append_nil, List.getElem?_cons_zero, List.getElem?_cons_succ, List.getElem?_nil, List.set_cons_zero, List.set_cons_succ, ↓reduceIte, Bool.false_eq_true, Bool.not_true, Bool.not_false, Bool.true_and, Bool.false_and, Bool.and_true, Bool.and_false, Bool.or_true, Bool.or_false, Bool.true_or, Bool.false_or, Nat.reduceAdd, Nat.reduceSub, Nat.reduceLT, Nat.reduceLeDiff, true_and, and_true, and_self, decide_eq_true_eq, Nat.zero_lt_succ, Nat.lt_add_left_iff_pos, beq_self_eq_true, String.reduceBEq, String.reduceEq, Nat.le_refl, Nat.zero_le, Bool.true_eq_false, decide_true, decide_false, Int.reduceEq, Int.reduceLT, Int.reduceLE, Int.reduceSub, Int.reduceAdd, DL.wIfT, DL.wListRg, DL.eSortT]
  refine ⟨_, _, rfl, ho4, ⟨by omega, by omega⟩, fun j2 o5 ho5 j20 j21 => ?_⟩
  obtain ⟨x, hx⟩ : ∃ x, x = g s v := ⟨_, rfl⟩
  rw [← hx]
  have hx2 := wD_two x
  simp -implicitDefEqProofs only [DL.WW, List.isEmpty_nil, List.lookup_cons, List.lookup_nil, List.map, List.length, List.length_cons, List.length_nil, List.length_set, List.replicate, List.append, List.cons_append, List.nil_append, List.append_nil, List.getElem?_cons_zero, List.getElem?_cons_succ, List.getElem?_nil, List.set_cons_zero, List.set_cons_succ, ↓reduceIte, Bool.false_eq_true, Bool.not_true, Bool.not_false, Bool.true_and, Bool.false_and, Bool.and_true, Bool.and_false, Bool.or_true, Bool.or_false, Bool.true_or, Bool.false_or, Nat.reduceAdd, Nat.reduceSub, Nat.reduceLT, Nat.reduceLeDiff, true_and, and_true, and_self, decide_eq_true_eq, Nat.zero_lt_succ, Nat.lt_add_left_iff_pos, beq_self_eq_true, String.reduceBEq, String.reduceEq, Nat.le_refl, Nat.zero_le, Bool.true_eq_false, decide_true, decide_false, Int.reduceEq, Int.reduceLT, Int.reduceLE, Int.reduceSub, Int.reduceAdd, DL.wIfT, DL.wListRg, DL.eSortT, hx2, e1, e2]
  refine ⟨by decide, ?_⟩
  refine ⟨_, _, rfl, ho5, ⟨Nat.zero_lt_succ _, by simp⟩, fun d o6 ho6 hd => ?_⟩
  have swx : PyData.strOk (wordO x) = true := by
    cases x with
    | none => decide +kernel
    | some p =>
      unfold wordO wordS
      dsimp only
      split <;> decide +kernel
  have hTd : TD d := by
    have a1 : PyData.strOk (Str.ofString "draw") = true := by decide +kernel
    have a2 : PyData.strOk (Str.ofString "L") = true := by decide +kernel
    have a3 : PyData.strOk (Str.ofString "R") = true := by decide +kernel
    have a4 : PyData.strOk (Str.ofString "x") = true := by decide +kernel
    simp only [List.mem_cons, List.not_mem_nil, or_false] at hd
    rcases hd with rfl | rfl | rfl | rfl | rfl | rfl | rfl | rfl | rfl | rfl | rfl | rfl | rfl | rfl
    · exact .two a1 .non
    · exact .two a2 (.int _)
    · exact .two a3 (.int _)
    · exact .two swx (.int _)
    · exact .two a1 (.int _)
    · exact .non
    · exact .str a2
    · exact .one a2
    · exact .two a2 (.int _)
    · exact .two a2 .non
    · exact .two a4 .non
    · exact .lst a2 (.int _)
    · exact .two a3 (.bool _)
    · have t := TD_wD x
      rw [hx2] at t
      exact t
  clear hd
  have hix : ixN 2 (s : Int) = some s := by
    have : s = 0 ∨ s = 1 := by omega
    rcases this with rfl | rfl <;> rfl
  have ev : (v : Int) + 1 = ((v + 1 : Nat) : Int) := by omega
  obtain ⟨rows, hrows⟩ : ∃ rows, rows = ((List.range L.length).map (pairD g)).take v ++ [PyData.tuple ([wD (g 0 v), wD (g 1 v)].set s d)] ++ ((List.range L.length).map (pairD g)).drop (v + 1) := ⟨_, rfl⟩
  have hset : rows = ((List.range L.length).map (pairD g)).set v (PyData.tuple ([wD (g 0 v), wD (g 1 v)].set s d)) := by
    rw [hrows]
    exact set_split _ v (by rw [hlen]; exact hv) _
  have hpr : ∃ a b, PyData.tuple ([wD (g 0 v), wD (g 1 v)].set s d) = .tuple [a, b] ∧ TD a ∧ TD b := by
    have : s = 0 ∨ s = 1 := by omega
    rcases this with rfl | rfl
    · exact ⟨_, _, rfl, hTd, TD_wD _⟩
    · exact ⟨_, _, rfl, TD_wD _, hTd⟩
  have hrl : rows.length = L.length := by rw [hset, List.length_set, hlen]
  have hrT : ∀ x ∈ rows, ∃ a b, x = .tuple [a, b] ∧ TD a ∧ TD b := fun x hx => by
    rw [hrows, List.mem_append, List.mem_append] at hx
    rcases hx with (hx | hx) | hx
    · exact hTDs g x (List.mem_of_mem_take hx)
    · rw [List.mem_singleton] at hx
      rw [hx]
      exact hpr
    · exact hTDs g x (List.mem_of_mem_drop hx)
  have hre : PyData.tuple rows = solD L.length g ↔ d = wD x := by
    have hget : ((List.range L.length).map (pairD g))[v]? = some (pairD g v) := by rw [List.getElem?_map, List.getElem?_range hv]; rfl
    have hv' : v < ((List.range L.length).map (pairD g)).length := by rw [hlen]; exact hv
    constructor
    · intro h
      have h1 : rows = (List.range L.length).map (pairD g) := PyData.tuple.inj h
      have h2 : rows[v]? = some (PyData.tuple ([wD (g 0 v), wD (g 1 v)].set s d)) := by rw [hset, List.getElem?_set_self hv']
      rw [h1, hget] at h2
      have h3 : PyData.tuple [wD (g 0 v), wD (g 1 v)] = .tuple ([wD (g 0 v), wD (g 1 v)].set s d) := Option.some.inj h2
      have h4 := PyData.tuple.inj h3
      have : s = 0 ∨ s = 1 := by omega
      rcases this with rfl | rfl
      · simp only [List.set_cons_zero, List.cons.injEq, and_true] at h4
        rw [hx]
        exact h4.symm
      · simp only [List.set_cons_succ, List.set_cons_zero, List.cons.injEq, and_true, true_and] at h4
        rw [hx]
        exact h4.symm
    · intro h
      have h1 : PyData.tuple ([wD (g 0 v), wD (g 1 v)].set s d) = pairD g v := by
        rw [h, hx, e2]
        have : s = 0 ∨ s = 1 := by omega
        rcases this with rfl | rfl <;> rfl
      rw [hset, h1]
      have : ((List.range L.length).map (pairD g)).set v (pairD g v) = (List.range L.length).map (pairD g) := by
        refine List.ext_getElem? fun k => ?_
        by_cases c : k = v
        · subst c
          rw [List.getElem?_set_self hv', hget]
        · rw [List.getElem?_set_ne (fun h => c h.symm)]
      rw [this]
      rfl
  have hd2 : atI ([wD (g 0 v), wD (g 1 v)].set s d) (s : Int) = some d := by
    have : s = 0 ∨ s = 1 := by omega
    rcases this with rfl | rfl <;> rfl
  simp -implicitDefEqProofs only [DL.WW, List.isEmpty_nil, List.lookup_cons, List.lookup_nil, List.map, List.length, List.length_cons, List.length_nil, List.length_set, List.replicate, List.append, List.cons_append, List.nil_append, List.append_nil, List.getElem?_cons_zero, List.getElem?_cons_succ, List.getElem?_nil, List.set_cons_zero, List.set_cons_succ, ↓reduceIte, Bool.false_eq_true, Bool.not_true, Bool.not_false, Bool.true_and, Bool.false_and, Bool.and_true, Bool.and_false, Bool.or_true, Bool.or_false, Bool.true_or, Bool.false_or, Nat.reduceAdd, Nat.reduceSub, Nat.reduceLT, Nat.reduceLeDiff, true_and, and_true, and_self, decide_eq_true_eq, Nat.zero_lt_succ, Nat.lt_add_left_iff_pos, beq_self_eq_true, String.reduceBEq, String.reduceEq, Nat.le_refl, Nat.zero_le, Bool.true_eq_false, decide_true, decide_false, Int.reduceEq, Int.reduceLT, Int.reduceLE, Int.reduceSub, Int.reduceAdd, DL.wIfT, DL.wListRg, DL.eSortT, hix, ev, cut_to, cut_from]
  rw [← hrows]
  have hsz : 62 ≤ sizeLine := by decide
  refine ⟨by rw [List.length_take]; omega, by rw [List.length_append, List.length_take, List.length_drop, hlen, List.length_singleton]; omega, ?_⟩
  refine cut_use (fun e => ∃ (same : Bool) (z7 z8 : Option B), (same = true ↔ d = wD x) ∧ e = [some (.dat (.list (ns.map PyData.int))), some (.ob none o6), some (.dat (grD L R)), some (.dat (.tuple ((List.range L.length).map (pairD g)))), some (.dat (.int v)), some (.dat (.int s)), some (.dat (wD x)), z7, z8, some (.dat (.tuple rows)), some (.dat (.bool same)), none, none]) ?_ ?_
  · simp -implicitDefEqProofs only [DL.WW, List.isEmpty_nil, List.lookup_cons, List.lookup_nil, List.map, List.length, List.length_cons, List.length_nil, List.length_set, List.replicate, List.append, List.cons_append, List.nil_append, List.append_nil, List.getElem?_cons_zero, List.getElem?_cons_succ, List.getElem?_nil, List.set_cons_zero, List.set_cons_succ, ↓reduceIte, Bool.false_eq_true, Bool.not_true, Bool.not_false, Bool.true_and, Bool.false_and, Bool.and_true, Bool.and_false, Bool.or_true, Bool.or_false, Bool.true_or, Bool.false_or, Nat.reduceAdd, Nat.reduceSub, Nat.reduceLT, Nat.reduceLeDiff, true_and, and_true, and_self, decide_eq_true_eq, Nat.zero_lt_succ, Nat.lt_add_left_iff_pos, beq_self_eq_true, String.reduceBEq, String.reduceEq, Nat.le_refl, Nat.zero_le, Bool.true_eq_false, decide_true, decide_false, Int.reduceEq, Int.reduceLT, Int.reduceLE, Int.reduceSub, Int.reduceAdd, DL.wIfT, DL.wListRg, DL.eSortT, hd2]
    rw [← hx2]
    have nope : ∀ y : PyData, (∀ a b, y ≠ .tuple [a, b]) → y ≠ wD x := fun y hy h => by
      rw [hx2] at h
      exact hy _ _ h
    clear hre hd2 hpr hrT hset hrows
    cases hTd with
    | non =>
      simp -implicitDefEqProofs only [DL.WW, List.isEmpty_nil, List.lookup_cons, List.lookup_nil, List.map, List.length, List.length_cons, List.length_nil, List.length_set, List.replicate, List.append, List.cons_append, List.nil_append, List.append_nil, List.getElem?_cons_zero, List.getElem?_cons_succ, List.getElem?_nil, List.set_cons_zero, List.set_cons_succ, ↓reduceIte, Bool.false_eq_true, Bool.not_true, Bool.not_false, Bool.true_and, Bool.false_and, Bool.and_true, Bool.and_false, Bool.or_true, Bool.or_false, Bool.true_or, Bool.false_or, Nat.reduceAdd, Nat.reduceSub, Nat.reduceLT, Nat.reduceLeDiff, true_and, and_true, and_self, decide_eq_true_eq, Nat.zero_lt_succ, Nat.lt_add_left_iff_pos, beq_self_eq_true, String.reduceBEq, String.reduceEq, Nat.le_refl, Nat.zero_le, Bool.true_eq_false, decide_true, decide_false, Int.reduceEq, Int.reduceLT, Int.reduceLE, Int.reduceSub, Int.reduceAdd, DL.wIfT, DL.wListRg, DL.eSortT]
      exact ⟨false, _, _, ⟨fun h => (by cases h), fun h => absurd h (nope _ (fun a b h => by cases h))⟩, rfl⟩
    | str hs' =>
      simp -implicitDefEqProofs only [DL.WW, List.isEmpty_nil, List.lookup_cons, List.lookup_nil, List.map, List.length, List.length_cons, List.length_nil, List.length_set, List.replicate, List.append, List.cons_append, List.nil_append, List.append_nil, List.getElem?_cons_zero, List.getElem?_cons_succ, List.getElem?_nil, List.set_cons_zero, List.set_cons_succ, ↓reduceIte, Bool.false_eq_true, Bool.not_true, Bool.not_false, Bool.true_and, Bool.false_and, Bool.and_true, Bool.and_false, Bool.or_true, Bool.or_false, Bool.true_or, Bool.false_or, Nat.reduceAdd, Nat.reduceSub, Nat.reduceLT, Nat.reduceLeDiff, true_and, and_true, and_self, decide_eq_true_eq, Nat.zero_lt_succ, Nat.lt_add_left_iff_pos, beq_self_eq_true, String.reduceBEq, String.reduceEq, Nat.le_refl, Nat.zero_le, Bool.true_eq_false, decide_true, decide_false, Int.reduceEq, Int.reduceLT, Int.reduceLE, Int.reduceSub, Int.reduceAdd, DL.wIfT, DL.wListRg, DL.eSortT]
      exact ⟨false, _, _, ⟨fun h => (by cases h), fun h => absurd h (nope _ (fun a b h => by cases h))⟩, rfl⟩
    | lst hs' hd' =>
      simp -implicitDefEqProofs only [DL.WW, List.isEmpty_nil, List.lookup_cons, List.lookup_nil, List.map, List.length, List.length_cons, List.length_nil, List.length_set, List.replicate, List.append, List.cons_append, List.nil_append, List.append_nil, List.getElem?_cons_zero, List.getElem?_cons_succ, List.getElem?_nil, List.set_cons_zero, List.set_cons_succ, ↓reduceIte, Bool.false_eq_true, Bool.not_true, Bool.not_false, Bool.true_and, Bool.false_and, Bool.and_true, Bool.and_false, Bool.or_true, Bool.or_false, Bool.true_or, Bool.false_or, Nat.reduceAdd, Nat.reduceSub, Nat.reduceLT, Nat.reduceLeDiff, true_and, and_true, and_self, decide_eq_true_eq, Nat.zero_lt_succ, Nat.lt_add_left_iff_pos, beq_self_eq_true, String.reduceBEq, String.reduceEq, Nat.le_refl, Nat.zero_le, Bool.true_eq_false, decide_true, decide_false, Int.reduceEq, Int.reduceLT, Int.reduceLE, Int.reduceSub, Int.reduceAdd, DL.wIfT, DL.wListRg, DL.eSortT]
      exact ⟨false, _, _, ⟨fun h => (by cases h), fun h => absurd h (nope _ (fun a b h => by cases h))⟩, rfl⟩
    | one hs' =>
      simp -implicitDefEqProofs only [DL.WW, List.isEmpty_nil, List.lookup_cons, List.lookup_nil, List.map, List.length, List.length_cons, List.length_nil, List.length_set, List.replicate, List.append, List.cons_append, List.nil_append, List.append_nil, List.getElem?_cons_zero, List.getElem?_cons_succ, List.getElem?_nil, List.set_cons_zero, List.set_cons_succ, ↓reduceIte, Bool.false_eq_true, Bool.not_true, Bool.not_false, Bool.true_and, Bool.false_and, Bool.and_true, Bool.and_false, Bool.or_true, Bool.or_false, Bool.true_or, Bool.false_or, Nat.reduceAdd, Nat.reduceSub, Nat.reduceLT, Nat.reduceLeDiff, true_and, and_true, and_self, decide_eq_true_eq, Nat.zero_lt_succ, Nat.lt_add_left_iff_pos, beq_self_eq_true, String.reduceBEq, String.reduceEq, Nat.le_refl, Nat.zero_le, Bool.true_eq_false, decide_true, decide_false, Int.reduceEq, Int.reduceLT, Int.reduceLE, Int.reduceSub, Int.reduceAdd, DL.wIfT, DL.wListRg, DL.eSortT]
      refine ⟨_, x, rfl, .inl ⟨_, rfl, hs'⟩, fun b hb => ?_⟩
      simp -implicitDefEqProofs only [DL.WW, List.isEmpty_nil, List.lookup_cons, List.lookup_nil, List.map, List.length, List.length_cons, List.length_nil, List.length_set, List.replicate, List.append, List.cons_append, List.nil_append, List.append_nil, List.getElem?_cons_zero, List.getElem?_cons_succ, List.getElem?_nil, List.set_cons_zero, List.set_cons_succ, ↓reduceIte, Bool.false_eq_true, Bool.not_true, Bool.not_false, Bool.true_and, Bool.false_and, Bool.and_true, Bool.and_false, Bool.or_true, Bool.or_false, Bool.true_or, Bool.false_or, Nat.reduceAdd, Nat.reduceSub, Nat.reduceLT, Nat.reduceLeDiff, true_and, and_true, and_self, decide_eq_true_eq, Nat.zero_lt_succ, Nat.lt_add_left_iff_pos, beq_self_eq_true, String.reduceBEq, String.reduceEq, Nat.le_refl, Nat.zero_le, Bool.true_eq_false, decide_true, decide_false, Int.reduceEq, Int.reduceLT, Int.reduceLE, Int.reduceSub, Int.reduceAdd, DL.wIfT, DL.wListRg, DL.eSortT]
      exact ⟨b, _, _, hb, rfl⟩
    | two hs' hd' =>
      simp -implicitDefEqProofs only [DL.WW, List.isEmpty_nil, List.lookup_cons, List.lookup_nil, List.map, List.length, List.length_cons, List.length_nil, List.length_set, List.replicate, List.append, List.cons_append, List.nil_append, List.append_nil, List.getElem?_cons_zero, List.getElem?_cons_succ, List.getElem?_nil, List.set_cons_zero, List.set_cons_succ, ↓reduceIte, Bool.false_eq_true, Bool.not_true, Bool.not_false, Bool.true_and, Bool.false_and, Bool.and_true, Bool.and_false, Bool.or_true, Bool.or_false, Bool.true_or, Bool.false_or, Nat.reduceAdd, Nat.reduceSub, Nat.reduceLT, Nat.reduceLeDiff, true_and, and_true, and_self, decide_eq_true_eq, Nat.zero_lt_succ, Nat.lt_add_left_iff_pos, beq_self_eq_true, String.reduceBEq, String.reduceEq, Nat.le_refl, Nat.zero_le, Bool.true_eq_false, decide_true, decide_false, Int.reduceEq, Int.reduceLT, Int.reduceLE, Int.reduceSub, Int.reduceAdd, DL.wIfT, DL.wListRg, DL.eSortT]
      refine ⟨_, x, rfl, .inr ⟨_, _, rfl, hs', hd'⟩, fun b hb => ?_⟩
      simp -implicitDefEqProofs only [DL.WW, List.isEmpty_nil, List.lookup_cons, List.lookup_nil, List.map, List.length, List.length_cons, List.length_nil, List.length_set, List.replicate, List.append, List.cons_append, List.nil_append, List.append_nil, List.getElem?_cons_zero, List.getElem?_cons_succ, List.getElem?_nil, List.set_cons_zero, List.set_cons_succ, ↓reduceIte, Bool.false_eq_true, Bool.not_true, Bool.not_false, Bool.true_and, Bool.false_and, Bool.and_true, Bool.and_false, Bool.or_true, Bool.or_false, Bool.true_or, Bool.false_or, Nat.reduceAdd, Nat.reduceSub, Nat.reduceLT, Nat.reduceLeDiff, true_and, and_true, and_self, decide_eq_true_eq, Nat.zero_lt_succ, Nat.lt_add_left_iff_pos, beq_self_eq_true, String.reduceBEq, String.reduceEq, Nat.le_refl, Nat.zero_le, Bool.true_eq_false, decide_true, decide_false, Int.reduceEq, Int.reduceLT, Int.reduceLE, Int.reduceSub, Int.reduceAdd, DL.wIfT, DL.wListRg, DL.eSortT]
      exact ⟨b, _, _, hb, rfl⟩
  · rintro e ⟨same, z7, z8, hsame, rfl⟩
    simp -implicitDefEqProofs only [DL.WW, List.isEmpty_nil, List.lookup_cons, List.lookup_nil, List.map, List.length, List.length_cons, List.length_nil, List.length_set, List.replicate, List.append, List.cons_append, List.nil_append, List.append_nil, List.getElem?_cons_zero, List.getElem?_cons_succ, List.getElem?_nil, List.set_cons_zero, List.set_cons_succ, ↓reduceIte, Bool.false_eq_true, Bool.not_true, Bool.not_false, Bool.true_and, Bool.false_and, Bool.and_true, Bool.and_false, Bool.or_true, Bool.or_false, Bool.true_or, Bool.false_or, Nat.reduceAdd, Nat.reduceSub, Nat.reduceLT, Nat.reduceLeDiff, true_and, and_true, and_self, decide_eq_true_eq, Nat.zero_lt_succ, Nat.lt_add_left_iff_pos, beq_self_eq_true, String.reduceBEq, String.reduceEq, Nat.le_refl, Nat.zero_le, Bool.true_eq_false, decide_true, decide_false, Int.reduceEq, Int.reduceLT, Int.reduceLE, Int.reduceSub, Int.reduceAdd, DL.wIfT, DL.wListRg, DL.eSortT]
    refine hshow rows _ hrl hrT fun b hb => ?_
    have ebs : b = same := by
      cases b <;> cases same <;> simp_all
    subst ebs
    simp -implicitDefEqProofs only [DL.WW, List.isEmpty_nil, List.lookup_cons, List.lookup_nil, List.map, List.length, List.length_cons, List.length_nil, List.length_set, List.replicate, List.append, List.cons_append, List.nil_append, List.append_nil, List.getElem?_cons_zero, List.getElem?_cons_succ, List.getElem?_nil, List.set_cons_zero, List.set_cons_succ, ↓reduceIte, Bool.false_eq_true, Bool.not_true, Bool.not_false, Bool.true_and, Bool.false_and, Bool.and_true, Bool.and_false, Bool.or_true, Bool.or_false, Bool.true_or, Bool.false_or, Nat.reduceAdd, Nat.reduceSub, Nat.reduceLT, Nat.reduceLeDiff, true_and, and_true, and_self, decide_eq_true_eq, Nat.zero_lt_succ, Nat.lt_add_left_iff_pos, beq_self_eq_true, String.reduceBEq, String.reduceEq, Nat.le_refl, Nat.zero_le, Bool.true_eq_false, decide_true, decide_false, Int.reduceEq, Int.reduceLT, Int.reduceLE, Int.reduceSub, Int.reduceAdd, DL.wIfT, DL.wListRg, DL.eSortT]
    refine ⟨b, b, rfl, ?_⟩
    simp -implicitDefEqProofs only [DL.WW, List.isEmpty_nil, List.lookup_cons, List.lookup_nil, List.map, List.length, List.length_cons, List.length_nil, List.length_set, List.replicate, List.append, List.cons_append, List.nil_append, List.append_nil, List.getElem?_cons_zero, List.getElem?_cons_succ, List.getElem?_nil, List.set_cons_zero, List.set_cons_succ, ↓reduceIte, Bool.false_eq_true, Bool.not_true, Bool.not_false, Bool.true_and, Bool.false_and, Bool.and_true, Bool.and_false, Bool.or_true, Bool.or_false, Bool.true_or, Bool.false_or, Nat.reduceAdd, Nat.reduceSub, Nat.reduceLT, Nat.reduceLeDiff, true_and, and_true, and_self, decide_eq_true_eq, Nat.zero_lt_succ, Nat.lt_add_left_iff_pos, beq_self_eq_true, String.reduceBEq, String.reduceEq, Nat.le_refl, Nat.zero_le, Bool.true_eq_false, decide_true, decide_false, Int.reduceEq, Int.reduceLT, Int.reduceLE, Int.reduceSub, Int.reduceAdd, DL.wIfT, DL.wListRg, DL.eSortT]
    have c1 : cutD ((List.range L.length).map (pairD g)) none (some 1) = ((List.range L.length).map (pairD g)).take 1 := cut_to _ 1
    rw [c1]
    refine ⟨by rw [List.length_take, hlen]; omega, ?_⟩
    simp -implicitDefEqProofs only [DL.WW, List.isEmpty_nil, List.lookup_cons, List.lookup_nil, List.map, List.length, List.length_cons, List.length_nil, List.length_set, List.replicate, List.append, List.cons_append, List.nil_append, List.append_nil, List.getElem?_cons_zero, List.getElem?_cons_succ, List.getElem?_nil, List.set_cons_zero, List.set_cons_succ, ↓reduceIte, Bool.false_eq_true, Bool.not_true, Bool.not_false, Bool.true_and, Bool.false_and, Bool.and_true, Bool.and_false, Bool.or_true, Bool.or_false, Bool.true_or, Bool.false_or, Nat.reduceAdd, Nat.reduceSub, Nat.reduceLT, Nat.reduceLeDiff, true_and, and_true, and_self, decide_eq_true_eq, Nat.zero_lt_succ, Nat.lt_add_left_iff_pos, beq_self_eq_true, String.reduceBEq, String.reduceEq, Nat.le_refl, Nat.zero_le, Bool.true_eq_false, decide_true, decide_false, Int.reduceEq, Int.reduceLT, Int.reduceLE, Int.reduceSub, Int.reduceAdd, DL.wIfT, DL.wListRg, DL.eSortT, DL.wEDic, cut_initial]
    refine ⟨_, _, rfl, ho6, ⟨Nat.zero_lt_succ _, by simp⟩, fun dw o7 ho7 hdw => ?_⟩
    have hw : Wrong L.length dw := by
      simp only [List.mem_cons, List.not_mem_nil, or_false] at hdw
      rcases hdw with rfl | rfl | rfl | rfl | rfl | rfl | rfl
      · exact .non
      · exact .tup (by rw [List.length_dropLast, hlen]; omega)
      · exact .tup (by rw [List.length_append, List.length_take, hlen]; omega)
      · exact .lst _
      · exact .str _
      · by_cases c : L.length = 1
        · exact .one (by rw [hlen]; omega)
        · exact .tup (fun h => c h.symm)
      · exact .dic
    simp -implicitDefEqProofs only [DL.WW, List.isEmpty_nil, List.lookup_cons, List.lookup_nil, List.map, List.length, List.length_cons, List.length_nil, List.length_set, List.replicate, List.append, List.cons_append, List.nil_append, List.append_nil, List.getElem?_cons_zero, List.getElem?_cons_succ, List.getElem?_nil, List.set_cons_zero, List.set_cons_succ, ↓reduceIte, Bool.false_eq_true, Bool.not_true, Bool.not_false, Bool.true_and, Bool.false_and, Bool.and_true, Bool.and_false, Bool.or_true, Bool.or_false, Bool.true_or, Bool.false_or, Nat.reduceAdd, Nat.reduceSub, Nat.reduceLT, Nat.reduceLeDiff, true_and, and_true, and_self, decide_eq_true_eq, Nat.zero_lt_succ, Nat.lt_add_left_iff_pos, beq_self_eq_true, String.reduceBEq, String.reduceEq, Nat.le_refl, Nat.zero_le, Bool.true_eq_false, decide_true, decide_false, Int.reduceEq, Int.reduceLT, Int.reduceLE, Int.reduceSub, Int.reduceAdd, DL.wIfT, DL.wListRg, DL.eSortT]
    refine ⟨L, R, dw, rfl, hok', .inr ⟨hw, ?_⟩⟩
    clear hdw hw
    simp -implicitDefEqProofs only [DL.WW, List.isEmpty_nil, List.lookup_cons, List.lookup_nil, List.map, List.length, List.length_cons, List.length_nil, List.length_set, List.replicate, List.append, List.cons_append, List.nil_append, List.append_nil, List.getElem?_cons_zero, List.getElem?_cons_succ, List.getElem?_nil, List.set_cons_zero, List.set_cons_succ, ↓reduceIte, Bool.false_eq_true, Bool.not_true, Bool.not_false, Bool.true_and, Bool.false_and, Bool.and_true, Bool.and_false, Bool.or_true, Bool.or_false, Bool.true_or, Bool.false_or, Nat.reduceAdd, Nat.reduceSub, Nat.reduceLT, Nat.reduceLeDiff, true_and, and_true, and_self, decide_eq_true_eq, Nat.zero_lt_succ, Nat.lt_add_left_iff_pos, beq_self_eq_true, String.reduceBEq, String.reduceEq, Nat.le_refl, Nat.zero_le, Bool.true_eq_false, decide_true, decide_false, Int.reduceEq, Int.reduceLT, Int.reduceLE, Int.reduceSub, Int.reduceAdd, DL.wIfT, DL.wListRg, DL.eSortT, DL.eRepT, hlen]
    have e0 : (List.replicate (L.length : Int).toNat [PyData.tuple (List.replicate (Int.toNat 2) [PyData.tuple [PyData.str (Str.ofString "draw"), PyData.none]]).flatten]).flatten = (List.range L.length).map (pairD fun _ _ => none) := by
      rw [Int.toNat_natCast, rep_flat]
      refine (List.eq_replicate_iff.mpr ⟨by rw [List.length_map, List.length_range], fun b hb => ?_⟩).symm
      obtain ⟨v', _, rfl⟩ := List.mem_map.mp hb
      rfl
    refine ⟨by simp, ⟨by simp, by omega, by omega⟩, ?_⟩
    rw [e0]
    refine hshow _ _ (hlen _) (hTDs _) fun b2 hb2 => ?_
    simp -implicitDefEqProofs only [DL.WW, List.isEmpty_nil, List.lookup_cons, List.lookup_nil, List.map, List.length, List.length_cons, List.length_nil, List.length_set, List.replicate, List.append, List.cons_append, List.nil_append, List.append_nil, List.getElem?_cons_zero, List.getElem?_cons_succ, List.getElem?_nil, List.set_cons_zero, List.set_cons_succ, ↓reduceIte, Bool.false_eq_true, Bool.not_true, Bool.not_false, Bool.true_and, Bool.false_and, Bool.and_true, Bool.and_false, Bool.or_true, Bool.or_false, Bool.true_or, Bool.false_or, Nat.reduceAdd, Nat.reduceSub, Nat.reduceLT, Nat.reduceLeDiff, true_and, and_true, and_self, decide_eq_true_eq, Nat.zero_lt_succ, Nat.lt_add_left_iff_pos, beq_self_eq_true, String.reduceBEq, String.reduceEq, Nat.le_refl, Nat.zero_le, Bool.true_eq_false, decide_true, decide_false, Int.reduceEq, Int.reduceLT, Int.reduceLE, Int.reduceSub, Int.reduceAdd, DL.wIfT, DL.wListRg, DL.eSortT]
    have hfs : ∀ f, Fine 3 (.tuple ((List.range L.length).map (pairD f))) := fun f => fine_sol f h60
    refine ⟨(hfs _).ok (by decide), (hfs _).ok (by decide), b2, _, rfl, ?_⟩
    simp -implicitDefEqProofs only [DL.WW, List.isEmpty_nil, List.lookup_cons, List.lookup_nil, List.map, List.length, List.length_cons, List.length_nil, List.length_set, List.replicate, List.append, List.cons_append, List.nil_append, List.append_nil, List.getElem?_cons_zero, List.getElem?_cons_succ, List.getElem?_nil, List.set_cons_zero, List.set_cons_succ, ↓reduceIte, Bool.false_eq_true, Bool.not_true, Bool.not_false, Bool.true_and, Bool.false_and, Bool.and_true, Bool.and_false, Bool.or_true, Bool.or_false, Bool.true_or, Bool.false_or, Nat.reduceAdd, Nat.reduceSub, Nat.reduceLT, Nat.reduceLeDiff, true_and, and_true, and_self, decide_eq_true_eq, Nat.zero_lt_succ, Nat.lt_add_left_iff_pos, beq_self_eq_true, String.reduceBEq, String.reduceEq, Nat.le_refl, Nat.zero_le, Bool.true_eq_false, decide_true, decide_false, Int.reduceEq, Int.reduceLT, Int.reduceLE, Int.reduceSub, Int.reduceAdd, DL.wIfT, DL.wListRg, DL.eSortT]
    have key : b2 = PyData.eqv (.tuple ((List.range L.length).map (pairD fun _ _ => none))) (.tuple ((List.range L.length).map (pairD g))) := by
      have h1 : PyData.eqv (.tuple ((List.range L.length).map (pairD fun _ _ => none))) (.tuple ((List.range L.length).map (pairD g))) = true ↔ PyData.tuple ((List.range L.length).map (pairD fun _ _ => none)) = solD L.length g := by
        rw [eqv_tup, eqv_pairs _ (fun _ _ _ _ w j h => by cases h) (fun v _ s hs => by rw [hg]; exact gS_W2 hs)]
        constructor
        · intro h
          rw [h]
          rfl
        · exact fun h => PyData.tuple.inj h
      have h2 := hb2.trans h1.symm
      generalize PyData.eqv _ _ = c at h2
      cases b2 <;> cases c <;> simp_all
    rw [← key]
    have : (b2 == b2) = true := by cases b2 <;> rfl
    rw [this]
    exact q
theorem ok_none {F : FSp} (h : ∀ args P, ¬ F args P) {k : Nat} {a : Addr} {d : FuncData} {ps : List Str} : FnOk P w K mg base CX0 k a d ps (spD K F) :=
  ⟨fun _ _ _ _ hs => by obtain ⟨args, A, Hz, P, y, _, hF, hQ⟩ := hs; exact absurd hF (h _ _), fun _ _ _ _ _ _ _ _ _ _ _ _ _ hs => by obtain ⟨args, A, Hz, P, y, _, hF, hQ⟩ := hs; exact absurd hF (h _ _)⟩
theorem law_end {P : Program} {w : World} {K : PySem.W.Frag} {mg : Str → Option Value} {fa : Addr} (N : Nonempty (Txt K mg)) (hfa : mg "law" = some (.ref fa)) :
    ∃ fd : FuncData, (∀ (s : Shared) (v : Value), BindsTo s fd ⟨[v], []⟩ [("_law_script", v)]) ∧ ∀ base : Heap, K.In base → base.Ns mainGlobals mg → FnOk P w K mg base CX0 64 fa fd ["_law_script"] (spLaw K) := by
  obtain ⟨T⟩ := N
  have e := hfa.symm.trans T.g_law
  cases e
  refine ⟨T.d_law, T.B_law, fun base _ _ => ?_⟩
  have t1 : FnOk P w K mg base CX0 1 T.a_law_taken T.d_law_taken ["_law_row", "_law_many"] (spD K F_law_taken) := ok_law_taken T
  have t2 := ok_law_pick T t1
  have g1 := ok_law_graph T t1
  have i1 : FnOk P w K mg base CX0 1 T.a_is_int T.d_is_int ["value"] (spD K F_is_int) := ok_is_int T
  have i4 := ok_need_graph T (ok_is_edges T (ok_is_in T i1))
  have n1 : FnOk P w K mg base CX0 1 T.a_is_int T.d_is_int ["value"] K74.spIsInt := K74.ok_is_int T
  have n4 := K74.ok_need_graph T (K74.ok_is_edges T (K74.ok_is_in T n1))
  have b1 : FnOk P w K mg base CX0 1 T.a_back_edges T.d_back_edges ["graph"] (K74.spBack K) := K74.ok_back_edges T
  have s2 := K74.ok_solution_of T (K74.ok_solved T b1)
  have s3 := (K74.ok_solution (k := 10) T (n4.mono (by decide)) (s2.mono (by decide))).imp up_solution
  have e1 : FnOk P w K mg base CX0 1 T.a_law_ends T.d_law_ends ["_law_graph_here"] (K74.spEnds K) := K74.ok_ends T
  have d1 := (K74.ok_told T e1).imp up_told
  have j1 : FnOk P w K mg base CX0 1 T.a_is_int T.d_is_int ["value"] (spD K Any.F_is_int) := Any.ok_is_int T
  have j3 := Any.ok_is_told T (Any.ok_is_in T j1)
  have u1 : FnOk P w K mg base CX0 1 T.a_due_at T.d_due_at ["graph", "value", "node", "side"] (spD K F_due_at) := ok_due_at T
  have x1 := ok_shows_solution (k := 20) T (G_need_graph := i4.mono (by decide)) (G_due_at := u1.mono (by decide)) (G_is_told := j3.mono (by decide))
  have l1 : FnOk P w K mg base CX0 1 T.a_law_is T.d_law_is ["_law_found", "_law_due"] (spD K F_law_is) := ok_law_is T
  have a0 : FnOk P w K mg base CX0 1 T.a_law_alike T.d_law_alike ["_law_found", "_law_due"] (spD K F_al0) := Leaf.ok_law_alike T (ok_none fun _ _ h => h)
  have a1 := ok_law_alike T a0
  exact (ok_law (k := 63) T (G_law_graph := g1.mono (by decide)) (G_law_told := d1.mono (by decide)) (G_law_pick := t2.mono (by decide)) (G_law_is := l1.mono (by decide)) (G_law_taken := t1.mono (by decide)) (G_law_alike := a1.mono (by decide)) (G_shows_solution := x1.mono (by decide)) (G_solution := s3.mono (by decide))).imp law_imp
end
end K74D
abbrev K74D.spLaw := DL.spLaw
open PySem PySem.W PyProof.Rows
set_option maxRecDepth 100000 in
set_option maxHeartbeats 0 in
theorem PySem.Challenge.cw_thermogames_k74_whole_solutions_judged_holds : PySem.Challenge.rw_thermogames_k74_whole_solutions_judged.Holds := by
  w_on; o_law; k_head; (case hw => w_witness2)
  k_fill
  refine L2.walk_of (l := PySem.Challenge.rw_thermogames_k74_whole_solutions_judged) (n := 63) (k := 64) (x := "_law_script") (CX := fun _ => L2.CX0) (sp := fun w => K74D.spLaw _) rfl (by decide) rfl ⟨rfl, by decide, by decide⟩ (fun w h Y => PySem.W.kIn_of Y) ?F (fun _ _ a ns hl _ hS => ⟨a, ns, rfl, hS, hl, fun _ => rfl⟩) (fun _ _ _ _ _ h => h)
  case F =>
    intro w mg fa h KX G hmg
    refine' K74D.law_end (K74.txt_mk KX G ?a0 ?l0 ?c0 ?k0 ?a1 ?l1 ?c1 ?k1 ?a2 ?l2 ?c2 ?k2 ?a3 ?l3 ?c3 ?k3 ?a4 ?l4 ?c4 ?k4 ?a5 ?l5 ?c5 ?k5 ?a6 ?l6 ?c6 ?k6 ?a7 ?l7 ?c7 ?k7 ?a8 ?l8 ?c8 ?k8 ?a9 ?l9 ?c9 ?k9 ?a10 ?l10 ?c10 ?k10 ?a11 ?l11 ?c11 ?k11 ?a12 ?l12 ?c12 ?k12 ?a13 ?l13 ?c13 ?k13 ?a14 ?l14 ?c14 ?k14 ?a15 ?l15 ?c15 ?k15 ?a16 ?l16 ?c16 ?k16 ?a17 ?l17 ?c17 ?k17 ?a18 ?l18 ?c18 ?k18 ?v0 ?v1 ?v2 ?z0 ?z1 ?z2 ?z3 ?z4 ?z5 ?z6 ?z7 ?z8 ?z9 ?z10 ?z11 ?z12 ?z13) hmg
    case a0 => k_is
    case l0 => k_is
    case c0 => k_is
    case k0 => k_is
    case a1 => k_is
    case l1 => k_is
    case c1 => k_is
    case k1 => k_is
    case a2 => k_is
    case l2 => k_is
    case c2 => k_is
    case k2 => k_is
    case a3 => k_is
    case l3 => k_is
    case c3 => k_is
    case k3 => k_is
    case a4 => k_is
    case l4 => k_is
    case c4 => k_is
    case k4 => k_is
    case a5 => k_is
    case l5 => k_is
    case c5 => k_is
    case k5 => k_is
    case a6 => k_is
    case l6 => k_is
    case c6 => k_is
    case k6 => k_is
    case a7 => k_is
    case l7 => k_is
    case c7 => k_is
    case k7 => k_is
    case a8 => k_is
    case l8 => k_is
    case c8 => k_is
    case k8 => k_is
    case a9 => k_is
    case l9 => k_is
    case c9 => k_is
    case k9 => k_is
    case a10 => k_is
    case l10 => k_is
    case c10 => k_is
    case k10 => k_is
    case a11 => k_is
    case l11 => k_is
    case c11 => k_is
    case k11 => k_is
    case a12 => k_is
    case l12 => k_is
    case c12 => k_is
    case k12 => k_is
    case a13 => k_is
    case l13 => k_is
    case c13 => k_is
    case k13 => k_is
    case a14 => k_is
    case l14 => k_is
    case c14 => k_is
    case k14 => k_is
    case a15 => k_is
    case l15 => k_is
    case c15 => k_is
    case k15 => k_is
    case a16 => k_is
    case l16 => k_is
    case c16 => k_is
    case k16 => k_is
    case a17 => k_is
    case l17 => k_is
    case c17 => k_is
    case k17 => k_is
    case a18 => k_is
    case l18 => k_is
    case c18 => k_is
    case k18 => k_is
    case v0 => k_is
    case v1 => k_is
    case v2 => k_is
    case z0 => k_is
    case z1 => k_is
    case z2 => k_is
    case z3 => k_is
    case z4 => k_is
    case z5 => k_is
    case z6 => k_is
    case z7 => k_is
    case z8 => k_is
    case z9 => k_is
    case z10 => k_is
    case z11 => k_is
    case z12 => k_is
    case z13 => k_is
#print axioms PySem.Challenge.cw_thermogames_k74_whole_solutions_judged_holds

