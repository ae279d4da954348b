import PyProof.Rows.All
import Wide.All
import OpenK.AllK
import Wide.FinOn
import HandS.ForMost
import HandS.IsInst
import HandS.SortInts
import HandS.Style
import HandS.Evl
import HandS.More
import HandS.Zip
import PyProof.Draws
import PyProof.EnumMake
import HandS.TupAny
import HandS.SetFor
import HandS.Strs
import HandS.TupSets
import HandS.Deep
import HandS.Star
import HandS.Lambda
import KE.KDflt
import HandS.ExcOwn
import HandS.ExcIs
import KE.KNestM
import KE.KDictKeyed
import HandS.Flow
import HandS.SetBool
import HandS.Conv
import KE.GoesMore
import HandS.Gcd
import HandS.Text
import KE.KDictDisplayH
import HandS.TupMul
import HandS.EndTab
import PySem.Challenge.RW_thermogames_k58_heaps_refused
set_option Elab.async false
set_option linter.all false
set_option maxRecDepth 100000
set_option maxHeartbeats 4000000
/-! The kit of our own, over the hand layer: what all laws share. -/
namespace TG
open PySem L2
/-! ### names at once, for simp -/
theorem ex2_eq {α β : Sort _} {a : α} {b : β} {p : α → β → Prop} : (∃ v w, (a = v ∧ b = w) ∧ p v w) ↔ p a b :=
  ⟨fun ⟨_, _, ⟨h1, h2⟩, h⟩ => by subst h1 h2; exact h, fun h => ⟨_, _, ⟨rfl, rfl⟩, h⟩⟩
theorem ex3_eq {α β γ : Sort _} {a : α} {b : β} {c : γ} {p : α → β → γ → Prop} : (∃ v w x, (a = v ∧ b = w ∧ c = x) ∧ p v w x) ↔ p a b c :=
  ⟨fun ⟨_, _, _, ⟨h1, h2, h3⟩, h⟩ => by subst h1 h2 h3; exact h, fun h => ⟨_, _, _, ⟨rfl, rfl, rfl⟩, h⟩⟩
theorem ex4_eq {α β γ δ : Sort _} {a : α} {b : β} {c : γ} {d : δ} {p : α → β → γ → δ → Prop} : (∃ v w x y, (a = v ∧ b = w ∧ c = x ∧ d = y) ∧ p v w x y) ↔ p a b c d :=
  ⟨fun ⟨_, _, _, _, ⟨h1, h2, h3, h4⟩, h⟩ => by subst h1 h2 h3 h4; exact h, fun h => ⟨_, _, _, _, ⟨rfl, rfl, rfl, rfl⟩, h⟩⟩
/-! ### a weaker reading -/
theorem ps_imp {X : Cx} {st : Stmt} {t t' : TS} (h : ∀ D σ H, t' D σ H → t D σ H) (p : PS X st t) : PS X st t' := ⟨fun pins s σ H D I q => p.run pins s σ H D I (h D σ H q)⟩
theorem pe_imp {X : Cx} {e : Expr} {t t' : TE} (h : ∀ σ H Q, t' σ H Q → t σ H Q) (p : PE X e t) : PE X e t' := ⟨fun pins s σ H Q I q => p.run pins s σ H Q I (h σ H Q q)⟩
theorem same_new {H : Hp} {p : Addr} (h : H p = none) (o : HO) : Same H (upd H p o) := fun b u q => by rw [upd_ne (ne_of_none q h)]; exact q
/-- a, b = constants: a tuple is made on the way -/
def tParC (i j : Nat) (v w : V) : TS := fun D σ H => ∀ H', Same H H' → D.nx ((σ.set i (some v)).set j (some w)) H'
theorem parC {K : PySem.W.Frag} {i j : Nat} {v w : V} : ∀ D σ H, tParC i j v w D σ H → tAsg (tTup (tCons (tC v) (tCons (tC w) tNil))) (gTup K 2 (gCons (gName i) (gCons (gName j) gNil))) D σ H :=
  fun D σ H h => ⟨by show 2 ≤ sizeLine; decide, fun p hp => ⟨p, _, rfl, SqT.of upd_same, rfl, _, _, rfl, _, _, rfl, rfl, h _ (same_new hp _)⟩⟩
/-! ### one step into a reading -/
section
variable {σ : L2.St} {H : Hp} {D : Ends} {te ta tb : TE} {r : R2} {Q : VK} {g : TG} {t u : TS} {tt : TT} {ts : TA}
theorem go_ret (h : te σ H D.rt) : tRet te D σ H := h
theorem go_op (h : ta σ H fun x H1 => tb σ H1 fun y H2 => r x y H2 Q) : tOp r ta tb σ H Q := h
theorem go_asg (h : te σ H fun x H1 => g x σ H1 D.nx) : tAsg te g D σ H := h
theorem go_seq (h : t { D with nx := u D } σ H) : tSeq t u D σ H := h
theorem go_drop (h : te σ H fun _ H1 => D.nx σ H1) : tDrop te D σ H := h
theorem go_ifS {u : TS} (h : tt σ H fun b H1 => if b = true then t D σ H1 else u D σ H1) : tIfS tt t u D σ H := h
theorem go_cons {tr : TA} {Q : List V → Hp → Prop} (h : ta σ H fun x H1 => tr σ H1 fun xs H2 => Q (x :: xs) H2) : tCons ta tr σ H Q := h
theorem go_cb {f : List V → Hp → VK → Prop} (h : ts σ H fun vs H1 => f vs H1 Q) : tCB f ts σ H Q := h
theorem go_call {sp : Sp} {dvs : List V} {E : XK} (h : ts σ H fun vs H1 => sp (vs ++ dvs) H1 Q E) : tCall sp dvs E ts σ H Q := h
end
/-! ### the rules with the written part named -/
section
variable {X : Cx} {K : PySem.W.Frag}
theorem op_in_seqK (hK : X.K = K) : OpR X (compareOp .In) (rIn K false) := by subst hK; exact op_in_seq
theorem op_notIn_seqK (hK : X.K = K) : OpR X (compareOp .NotIn) (rIn K true) := by subst hK; exact op_notIn_seq
theorem ix_listK (hK : X.K = K) : IxR X (rIxL K) := by subst hK; exact ix_list
theorem ix_tupK (hK : X.K = K) : IxR X (rIxT K) := by subst hK; exact ix_tup
theorem ix_seqK (hK : X.K = K) : IxR X (rIx K) := by subst hK; exact ix_seq
def rLenQ (K : PySem.W.Frag) : List V → Hp → VK → Prop := fun xs H Q => ∃ p ys, xs = [.ref p] ∧ (SqL K H p ys ∨ SqT K H p ys) ∧ Q (.int ys.length) H
theorem call_lenK (hK : X.K = K) : CallR X (.builtin "len") (rLenQ K) := by subst hK; exact call_len_seq
def rListOf (K : PySem.W.Frag) : List V → Hp → VK → Prop := fun xs H Q => ∃ p ys, xs = [.ref p] ∧ (SqL K H p ys ∨ SqT K H p ys) ∧ ∀ l, H l = none → Q (.ref l) (upd H l (.lst ys))
theorem call_list_ofK (hK : X.K = K) : CallR X (.type "list") (rListOf K) := by subst hK; exact call_list_of
def rTupOf (K : PySem.W.Frag) : List V → Hp → VK → Prop := fun xs H Q => ∃ p ys, xs = [.ref p] ∧ ((SqL K H p ys ∧ ∀ l, H l = none → Q (.ref l) (upd H l (.tup ys))) ∨ (SqT K H p ys ∧ Q (.ref p) H))
theorem call_tuple_ofK (hK : X.K = K) : CallR X (.type "tuple") (rTupOf K) := by subst hK; exact call_tuple_of
theorem cr_sumK (hK : X.K = K) (hc : X.calm = true) : CallR X (.builtin "sum") (rSum K) := by subst hK; exact cr_sum hc
theorem cr_maxK (hK : X.K = K) (hc : X.calm = true) : CallR X (.builtin "max") (rMax K) := by subst hK; exact cr_max hc
theorem cr_minK (hK : X.K = K) (hc : X.calm = true) : CallR X (.builtin "min") (rMin K) := by subst hK; exact cr_min hc
theorem cr_anyK (hK : X.K = K) (hc : X.calm = true) : CallR X (.builtin "any") (rAny K) := by subst hK; exact cr_any hc
theorem cr_allK (hK : X.K = K) (hc : X.calm = true) : CallR X (.builtin "all") (rAll K) := by subst hK; exact cr_all hc
theorem cr_sortedIK (hK : X.K = K) : CallR X (.builtin "sorted") (rSortedI K) := by subst hK; exact cr_sortedI
theorem sl_listK (hK : X.K = K) : SlR X (rSlL K) := by subst hK; exact sl_list
theorem sl_tupK (hK : X.K = K) : SlR X (rSlT K) := by subst hK; exact sl_tup
theorem op_catTK (hK : X.K = K) : OpR X (binaryOp .Add) (rCatT K) := by subst hK; exact op_catT
theorem op_eqDK (hK : X.K = K) (hu : X.A.units + 64 < cLine) : OpR X (compareOp .Eq) (rEqD K) := by subst hK; exact op_eqD hu
theorem op_neDK (hK : X.K = K) (hu : X.A.units + 64 < cLine) : OpR X (compareOp .NotEq) (rNeD K) := by subst hK; exact op_neD hu
theorem call_isiTK (hK : X.K = K) : CallR X (.builtin "isinstance") (rIsiT K) := by subst hK; exact call_isiT
theorem call_isiK' (hK : X.K = K) : CallR X (.builtin "isinstance") (rIsi K) := by subst hK; exact call_isi
theorem pi_listK {tg l : Expr} {tl : TE} (hK : X.K = K) (hl : PE X l tl) : PI X tg l (iList K tl) := by subst hK; exact pi_list hl
theorem pi_tupK {tg l : Expr} {tl : TE} (hK : X.K = K) (hl : PE X l tl) : PI X tg l (iTup K tl) := by subst hK; exact pi_tup hl
theorem pi_enumK {e : Expr} {ta : TA} {p pos tpos : Pos} {elts : List Expr} {kk : Nat} (hK : X.K = K) (hg : Gl X "enumerate") (hm : X.mg "enumerate" = none) (ha : PA X [e] ta) (hs : starEach [e] X.env = [(false, eval e X.env)] := by rfl) :
    PI X (.Tuple elts kk tpos) (.Call (.Name "enumerate" p) [e] [] pos) (iEnum K ta) := by subst hK; exact pi_enum hg hm ha hs
theorem pi_zipK {e e2 : Expr} {ta : TA} {p pos tpos : Pos} {elts : List Expr} {kk : Nat} (hK : X.K = K) (hg : Gl X "zip") (hm : X.mg "zip" = none) (ha : PA X [e, e2] ta)
    (hs : starEach [e, e2] X.env = (false, eval e X.env) :: starEach [e2] X.env := by rfl) (hpl : (backTo pos (starEach [e2] X.env)).any (·.1) = false := by rfl) :
    PI X (.Tuple elts kk tpos) (.Call (.Name "zip" p) [e, e2] [] pos) (iZip K ta) := by subst hK; exact pi_zip hg hm ha hs hpl
theorem pg_tupK {pos : Pos} {es : List Expr} {k : Nat} {t : TGs} {n : Nat} (hK : X.K = K) (hc : X.calm = true) (h : PGs X es t)
    (hn : (assignEach es X.env).length = n := by rfl) (hst : (assignEach es X.env).findIdx? (·.1) = none := by rfl) : PG X (.Tuple es k pos) (gTup K n t) := by subst hK; exact pg_tup hc h hn hst
theorem pe_bm0K {o : Expr} {to : TE} {name : Str} {apos cpos : Pos} {T id : String} {r : V → List V → Hp → VK → Prop} (hK : X.K = K) (pa : PlainAttrs T) (slot : Slot T name id) (hty : typeOf (.builtin id) = pure (.type "method_descriptor")) (hm : MtR X id r) (ho : PE X o to)
    (hbase : attributeBase o name X.env (eval o X.env) = eval o X.env := by rfl) (hline : (apos.endLine == cpos.line) = true := by rfl) : PE X (.Call (.Attribute o name apos) [] [] cpos) (tBM0 K T r to) := by subst hK; exact pe_bm0 pa slot hty hm ho hbase hline
theorem pe_bmK {o e : Expr} {es : List Expr} {to : TE} {t : TA} {name : Str} {apos cpos : Pos} {T id : String} {r : V → List V → Hp → VK → Prop} (hK : X.K = K) (pa : PlainAttrs T) (slot : Slot T name id) (hty : typeOf (.builtin id) = pure (.type "method_descriptor")) (hm : MtR X id r) (ho : PE X o to) (ha : PA X (e :: es) t)
    (hbase : attributeBase o name X.env (eval o X.env) = eval o X.env := by rfl)
    (hfew : ((backTo cpos (starEach (e :: es) X.env)).all (fun x => !x.1) && (backToKw cpos (keywordEach [] X.env)).all (fun x => x.1.isSome)
      && decide ((e :: es).length + ([] : List Keyword).length + (if ([] : List Keyword).isEmpty then 0 else 1) < 30)) = true := by rfl)
    (hline : (apos.endLine == cpos.line) = true := by rfl) (hs : starEach (e :: es) X.env = (false, eval e X.env) :: starEach es X.env := by rfl) (hplain : (backTo cpos (starEach es X.env)).any (·.1) = false := by rfl) :
    PE X (.Call (.Attribute o name apos) (e :: es) [] cpos) (tBM K T r to t) := by subst hK; exact pe_bm pa slot hty hm ho ha hbase hfew hline hs hplain
end
/-! ### isinstance of plain values -/
def sTy : V → Option String
  | .non => some "NoneType"
  | .bl _ => some "bool"
  | .int _ => some "int"
  | .str _ => some "str"
  | _ => none
def rIsiS : List V → Hp → VK → Prop := fun xs H Q => ∃ x c t b, xs = [x, .ty c] ∧ sTy x = some t ∧ kitB t c = some b ∧ Q (.bl b) H
theorem call_isiS {X : Cx} : CallR X (.builtin "isinstance") rIsiS := by
  intro pins s σ H xs us Q I r h
  obtain ⟨x, c, t, b, rfl, ht, hk, q⟩ := h
  have ty : TyX X.K H x (.type t) := by
    cases x with
    | non => cases ht; exact .base .non
    | bl b => cases ht; exact .base (.bl b)
    | int i => cases ht; exact .base (.int i)
    | str z => cases ht; exact .base (.str z)
    | _ => cases ht
  exact call_isi pins s σ H _ us Q I r ⟨x, .ty c, .type t, .type c, b, rfl, .ty c, ty, kit_ty hk, q⟩
theorem kit_int_int : kitB "int" "int" = some true := by decide +kernel
theorem kit_int_bool : kitB "int" "bool" = some false := by decide +kernel
theorem kit_int_str : kitB "int" "str" = some false := by decide +kernel
theorem kit_int_tuple : kitB "int" "tuple" = some false := by decide +kernel
theorem kit_int_list : kitB "int" "list" = some false := by decide +kernel
/-! ### the law's row of draws -/
def hide (H : Hp) (r : Addr) : Hp := fun b => if b = r then none else H b
theorem hide_upd {H : Hp} {r : Addr} {o : HO} : hide (upd H r o) r = hide H r := by
  funext b
  unfold hide upd
  by_cases h : b = r
  · rw [if_pos h, if_pos h]
  · rw [if_neg h, if_neg h, if_neg h]
theorem hide_same {H : Hp} {r : Addr} : Same (hide H r) H := fun b o e => by
  unfold hide at e
  by_cases h : b = r
  · rw [if_pos h] at e
    cases e
  · rw [if_neg h] at e
    exact e
/-- what stands apart from r is as it was, or more -/
def Off (r : Addr) (H H' : Hp) : Prop := ∀ b o, b ≠ r → H b = some o → H' b = some o
theorem Off.hide {r : Addr} {H H' : Hp} (h : Off r H H') : Same (hide H r) (hide H' r) := fun b o e => by
  unfold TG.hide at e ⊢
  by_cases hb : b = r
  · rw [if_pos hb] at e
    cases e
  · rw [if_neg hb] at e ⊢
    exact h b o hb e
theorem Off.refl {r : Addr} {H : Hp} : Off r H H := fun _ _ _ e => e
theorem Off.trans {r : Addr} {H H1 H2 : Hp} (a : Off r H H1) (b : Off r H1 H2) : Off r H H2 := fun x o hx e => b x o hx (a x o hx e)
theorem Off.upd {r : Addr} {H : Hp} {o : HO} : Off r H (upd H r o) := fun b u hb e => by rw [upd_ne hb]; exact e
theorem Off.of {r : Addr} {H H' : Hp} (h : Same H H') : Off r H H' := fun b u _ e => h b u e
theorem Off.eq {r : Addr} {H H' : Hp} (h : ∀ b, b ≠ r → H' b = H b) : Off r H H' := fun b u hb e => by rw [h b hb]; exact e
/-- the row: the script, a place, a seed, what is left of a great cell -/
def Row (K : PySem.W.Frag) (H : Hp) (r : Addr) : Prop :=
  ∃ (a : Addr) (ns : List Int) (i s t : Int), H r = some (.lst [.ref a, .int i, .int s, .int t]) ∧ SqL K (hide H r) a (ns.map V.int) ∧ ns.length ≤ 63 ∧ 0 ≤ i
theorem Row.more {K : PySem.W.Frag} {H H' : Hp} {r : Addr} (h : Row K H r) (s : Same H H') : Row K H' r := by
  obtain ⟨a, ns, i, z, t, h1, h2, h3, h4⟩ := h
  exact ⟨a, ns, i, z, t, s _ _ h1, (Off.hide (Off.of s)).seq h2, h3, h4⟩
theorem Row.there {K : PySem.W.Frag} {H : Hp} {r : Addr} (h : Row K H r) : ∃ xs, H r = some (.lst xs) := by
  obtain ⟨a, ns, i, z, t, h1, _⟩ := h
  exact ⟨_, h1⟩
/-- what changes is no list -/
theorem Row.off {K : PySem.W.Frag} {H H' : Hp} {r d : Addr} {u : HO} (h : Row K H r) (o : Off d H H') (hd : H d = some u) (hu : (∀ xs, u ≠ .lst xs) ∧ ∀ x y, u ≠ .frz x y) : Row K H' r := by
  obtain ⟨a, ns, i, z, t, h1, h2, h3, h4⟩ := h
  have hrd : r ≠ d := fun e => by
    rw [e, hd] at h1
    exact hu.1 _ (Option.some.inj h1)
  refine ⟨a, ns, i, z, t, o _ _ hrd h1, ?_, h3, h4⟩
  have key : ∀ v, hide H r a = some v → ((∃ xs, v = HO.lst xs) ∨ ∃ x y, v = HO.frz x y) → hide H' r a = some v := fun v e c => by
    have e1 : H a = some v := hide_same a v e
    have had : a ≠ d := fun q => by
      rw [q, hd] at e1
      have e2 := Option.some.inj e1
      rcases c with ⟨xs, c⟩ | ⟨x, y, c⟩
      · exact hu.1 _ (e2.trans c)
      · exact hu.2 _ _ (e2.trans c)
    have har : a ≠ r := fun q => by
      unfold hide at e
      rw [if_pos q] at e
      cases e
    unfold hide
    rw [if_neg har]
    exact o a v had e1
  rcases h2 with (h2 | ⟨x, h2⟩) | h2
  · exact .inl (.inl (key _ h2 (.inl ⟨_, rfl⟩)))
  · exact .inl (.inr ⟨x, key _ h2 (.inr ⟨_, _, rfl⟩)⟩)
  · exact .inr h2
/-- a draw: some number below m; the row turns, all else stands -/
def spTaken (K : PySem.W.Frag) : Sp := fun vs H Q _ => ∃ (r : Addr) (m : Int), vs = [.ref r, .int m] ∧ Row K H r ∧ (0 < m ∧ m < 1073741824) ∧
  ∀ (d : Int) (H' : Hp), 0 ≤ d → d < m → Row K H' r → (∀ b, b ≠ r → H' b = H b) → Q (.int d) H'
theorem at0 {a b c d : V} : atI [a, b, c, d] 0 = some a := rfl
theorem at1 {a b c d : V} : atI [a, b, c, d] 1 = some b := rfl
theorem at2 {a b c d : V} : atI [a, b, c, d] 2 = some c := rfl
theorem at3 {a b c d : V} : atI [a, b, c, d] 3 = some d := rfl
theorem mul_small {i : Int} : CMul i 48271 := .inr ⟨by decide, by decide⟩
/-- one of some things -/
def spPick (K : PySem.W.Frag) : Sp := fun vs H Q _ => ∃ (r p : Addr) (xs : List V), vs = [.ref r, .ref p] ∧ Row K H r ∧ H p = some (.lst xs) ∧ p ≠ r ∧ (0 < xs.length ∧ xs.length < 1000) ∧
  ∀ (v : V) (H' : Hp), v ∈ xs → Row K H' r → (∀ b, b ≠ r → H' b = H b) → Q v H'
/-- the row as the law makes it -/
theorem Row.make {K : PySem.W.Frag} {H : Hp} {r a : Addr} {ns : List Int} {s : Int} (hr : H r = none) (h : SqL K H a (ns.map V.int)) (hl : ns.length ≤ 63) : Row K (upd H r (.lst [.ref a, .int 0, .int s, .int 0])) r :=
  ⟨a, ns, 0, s, 0, upd_same, by
    rw [hide_upd]
    refine Same.seq (fun b o e => ?_) h
    unfold hide
    rw [if_neg (ne_of_none e hr)]
    exact e, hl, Int.le_refl 0⟩
/-! ### lists without repetition -/
theorem nodup_le {α : Type} [DecidableEq α] : ∀ {l m : List α}, l.Nodup → (∀ x ∈ l, x ∈ m) → l.length ≤ m.length
  | [], _, _, _ => Nat.zero_le _
  | x :: r, m, hn, hs => by
    have hx : x ∈ m := hs x List.mem_cons_self
    have hr := List.nodup_cons.mp hn
    have ih := nodup_le (l := r) (m := m.erase x) hr.2 fun y hy => by
      have hne : y ≠ x := fun e => hr.1 (e ▸ hy)
      exact (List.mem_erase_of_ne hne).mpr (hs y (List.mem_cons_of_mem _ hy))
    have hp : 0 < m.length := List.length_pos_of_mem hx
    rw [List.length_erase_of_mem hx] at ih
    rw [List.length_cons]
    omega
theorem nodup_cast : ∀ n : Nat, ((List.range n).map fun k : Nat => (k : Int)).Nodup := fun n => by
  rw [List.Nodup, List.pairwise_map]
  exact List.Pairwise.imp (fun h e => by omega) (List.pairwise_lt_range (n := n))
theorem int_in (k : Int) : ∀ ns : List Int, inV (.int k) (ns.map V.int) = decide (k ∈ ns)
  | [] => rfl
  | n :: r => by
    have ih := int_in k r
    unfold inV at ih ⊢
    rw [List.map_cons, List.any_cons, ih]
    by_cases h : n = k
    · subst h
      simp [eqV]
    · have h2 : ¬ k = n := fun e => h e.symm
      simp [eqV, h, h2]
theorem ints_flat (ns : List Int) : (ns.map V.int).all flatV = true := by
  rw [List.all_map, List.all_eq_true]
  intro x _
  rfl
end TG


set_option Elab.async false
set_option linter.all false
set_option maxRecDepth 100000
set_option maxHeartbeats 4000000
/-! enumerate(tuple) in a for, over the hand layer -/
namespace TG
open PySem PySem.Spec PyProof.Rows L2
open PySem.AutoSeq1 (wpAny_loadPart')
theorem meets_enumT (l : Addr) (items : Array Value) (n : Nat) (dct : Option Addr) (sl : Array (Option Value)) :
    Meets (Builtin.«enumerate.__new__» ⟨[.type "enumerate", .ref l], []⟩) (fun _ R s => s.heap.get? l = some { cls := .type "tuple", dict := dct, data := .seq items n, slots := sl } ∧
      R (.ok (.ret (.ref (s.heap.push { cls := .type "tuple_iterator", data := .fields #[.ref l, .int 0 0] }).objs.size)))
        { s with heap := (s.heap.push { cls := .type "tuple_iterator", data := .fields #[.ref l, .int 0 0] }).push { cls := .type "enumerate", data := .fields #[.none, .bool false, .ref s.heap.objs.size, rawInt 0, .none, .none] } }) :=
  .of_wp fun prog w A R s h => by
    obtain ⟨hp, g, d, tk, os⟩ := s; obtain ⟨hl, h⟩ := h
    have hsub := sub_enumerate
    have hL : Heap.IsTuple (Shared.heap ⟨hp, g, d, tk, os⟩) l items := ⟨_, hl, rfl, n, rfl⟩
    wp_walk using wpAny_loadPart' hl
    refine wpAny_stack_any fun st => wpAny_pure ?_
    split
    · rename_i c _ _ _ _ _
      cases (c == Value.type "enumerate")
      · wp_walk using wpAny_loadPart' hl, wpAny_pyIter_tuple hL
        exact ⟨_, rfl, h⟩
      · wp_walk using wpAny_loadPart' hl, wpAny_pyIter_tuple hL
        exact ⟨_, rfl, h⟩
    · wp_walk using wpAny_loadPart' hl, wpAny_pyIter_tuple hL
      exact ⟨_, rfl, h⟩
section
variable {prog : Program} {w : World} {A : Around} {E : Value → Shared → Prop} {s : Shared}
theorem call_enumT {l : Addr} {items : Array Value} {Q : Value → Shared → Prop} (hL : s.heap.IsTuple l items)
    (h : ∀ h', IsEnum h' (s.heap.objs.size + 1) s.heap.objs.size 0 .none → h'.IsTupleIter s.heap.objs.size l 0 → h'.objs.size = s.heap.objs.size + 2 →
      (∀ b o, s.heap.get? b = some o → h'.get? b = some o) → Q (.ref (s.heap.objs.size + 1)) { s with heap := h' }) :
    wpAny (model prog w) A (call (.type "enumerate") [.ref l]) Q E s := by
  obtain ⟨⟨c, dct, dt, sl⟩, hl, hc, n, hd⟩ := hL
  replace hc : c = .type "tuple" := hc
  replace hd : dt = .seq items n := hd
  subst hc hd
  refine callType_new F.called_enumerate (by decide) (F.typeCall_enumerate_1 _) (F.newCall_enumerate_1 _) (fun obj => F.args_object_init_2 obj _) F.entry_enumerate_new
    (meets_enumT l items n dct sl) ⟨hl, ?_⟩
  have hz : (s.heap.push { cls := .type "tuple_iterator", data := .fields #[.ref l, .int 0 0] }).objs.size = s.heap.objs.size + 1 := Heap.size_push ..
  show _ ∧ _
  rw [hz]
  have he : IsEnum ((s.heap.push { cls := .type "tuple_iterator", data := .fields #[.ref l, .int 0 0] }).push
      { cls := .type "enumerate", data := .fields #[.none, .bool false, .ref s.heap.objs.size, rawInt 0, .none, .none] }) (s.heap.objs.size + 1) s.heap.objs.size 0 .none := by
    have := Heap.get?_push_size (s.heap.push { cls := .type "tuple_iterator", data := .fields #[.ref l, .int 0 0] })
      (o := { cls := .type "enumerate", data := .fields #[.none, .bool false, .ref s.heap.objs.size, rawInt 0, .none, .none] }) rfl
    rw [hz] at this; exact this
  refine ⟨⟨_, he, rfl⟩, h _ he ⟨_, Heap.get?_push_of_some _ (Heap.get?_push_size _ rfl), rfl, rfl⟩ (by rw [Heap.size_push, hz]) fun b o x => Heap.get?_push_of_some _ (Heap.get?_push_of_some _ x)⟩
end
theorem drawsT {prog : Program} {w : World} {A : Around} (hh : A.handled = none) (it l : Addr) (hne : l ≠ it) (items : Array Value) :
    Draws prog w A it [it, l] items.size (fun i v => items[i]? = some v) (fun i h => h.IsTupleIter it l i ∧ h.IsTuple l items) where
  live := fun _ _ st => let ⟨o, ho, _⟩ := st.1; ⟨o, ho⟩
  frame := fun _ _ _ st hk => ⟨st.1.at fun o e => hk it (by simp) o e, let ⟨o, ho, r⟩ := st.2; ⟨o, hk l (by simp) o ho, r⟩⟩
  item := fun i s Q E hi st hQ => by
    refine RZ.nextOf_tuple_item st.1 st.2 (x := items[i]) (by simp [hi]) fun h' hit' hs' => ?_
    exact hQ _ h' s.toks (by simp [hi]) ⟨hit', let ⟨o, ho, r⟩ := st.2; ⟨o, (hs'.2 l hne).trans ho, r⟩⟩ hs'
  done := fun s Q E st hE => RZ.nextOf_tuple_end hh st.1 st.2 (by simp) hE
/-- the tuple at a as it stands at each turn, each item in a new pair -/
def IteT (K : PySem.W.Frag) (a : Addr) : It :=
  ⟨fun i H => ∃ (xs : List V) (x : V), SqT K H a xs ∧ xs[i]? = some x, fun i H v H' => ∃ T x, v = .ref T ∧ H T = none ∧ H' = upd H T (.tup [.int (i : Nat), x]) ∧ ∀ xs, SqT K H a xs → xs[i]? = some x, fun i H => ∃ xs : List V, SqT K H a xs ∧ xs.length = i⟩
theorem turn_enumT {P : Program} {w : World} {K : PySem.W.Frag} {elts : List Expr} {kk : Nat} {tpos : Pos} (a e it : Addr) :
    Turn P w K (.Tuple elts kk tpos) (IteT K a) [e, it] e (fun i h => (∃ old, IsEnum h e it ((i : Nat) : Int) old) ∧ h.IsTupleIter it a i ∧ e ≠ it ∧ a ≠ it ∧ a ≠ e) where
  mem := by simp
  obj := fun i h st b hb => by
    obtain ⟨⟨old, he⟩, ⟨o, ho, hc, hd⟩, _⟩ := st
    have e' : b = e ∨ b = it := by simpa using hb
    rcases e' with z | z
    · rw [z]; exact ⟨_, he, fun v q => nomatch q⟩
    · rw [z]; exact ⟨o, ho, fun v q => by rw [hd] at q; cases q⟩
  keep := fun i h h' st k => let ⟨⟨old, he⟩, hi, hne⟩ := st; ⟨⟨old, k e (by simp) _ he⟩, hi.at fun o q => k it (by simp) o q, hne⟩
  item := by
    intro X hP hw hK hc i pins s σ H E I hf st hg
    subst hP hw hK
    obtain ⟨⟨old, he⟩, hit, hne, hai, hae⟩ := st
    obtain ⟨xs, x, hq, hx⟩ := hg
    obtain ⟨its, rv, p, hz⟩ := I.tuple hq
    obtain ⟨u, hu, ru⟩ := rv.get hx
    have hel : e < s.heap.objs.size := Heap.lt_size he
    have hil : it < s.heap.objs.size := by obtain ⟨_, q, _⟩ := hit; exact Heap.lt_size q
    have hilen : i < its.toArray.size := by
      have := (List.getElem?_eq_some_iff.mp hu).1
      simpa using this
    have D := drawsT (prog := X.prog) (w := X.w) (A := X.A.in1) (I.ok.hd hc) it a hai its.toArray
    refine wpAny_pyNext_enum_itemD D he ⟨hit, p⟩ hilen hne (by simp [hne, Ne.symm hae]) fun x' h' tk hP' ho hit' hT hsz hk => ?_
    have ex : x' = u := by
      have h1 : its[i]? = some x' := by simpa using hP'
      rw [hu] at h1
      exact (Option.some.inj h1).symm
    subst ex
    refine ⟨_, rfl, wpAny_letOwnedTupleGo_enum (s := { s with heap := h', toks := tk + 1 }) ho fun h'' he' sb => ?_⟩
    have hT2 : h''.get? s.heap.objs.size = some { cls := .type "tuple", data := .seq #[.int i tk, x'] } := (sb.2 _ (Nat.ne_of_gt hel)).trans hT
    have new : ObjOk X.prog X.w (upd H s.heap.objs.size (.tup [.int (i : Nat), x])) h'' s.heap.objs.size (.tup [.int (i : Nat), x]) :=
      ⟨by show 2 ≤ sizeLine; decide, [.int i tk, x'], .cons ⟨_, rfl⟩ (.cons ru .nil), ⟨_, hT2, rfl, _, rfl⟩⟩
    have I1 : Inv X pins σ (upd H s.heap.objs.size (.tup [.int (i : Nat), x])) { s with heap := h'', toks := tk + 1 } :=
      I.turnedNew (ch := [e, it]) (fun b ob hb q => (sb.2 b (fun z => hb (by simp [z]))).trans (hk b ob (fun z => hb (by simp [z])) (fun z => hb (by simp [z])) q)) hf (Nat.le_refl _) new
    refine ⟨.ref s.heap.objs.size, _, I1, rfl, ⟨_, x, rfl, I.hok.fresh (Nat.le_refl _), rfl, fun ys hy => by rw [I.tuple_inj hy hq]; exact hx⟩, ⟨⟨x', ?_⟩, hit'.1.at fun o q => (sb.2 it (Ne.symm hne)).trans q, hne, hai, hae⟩, fun b hb => ?_⟩
    · have e1 : ((i + 1 : Nat) : Int) = (i : Int) + 1 := by omega
      rw [e1]; exact he'
    · have hb' : b < s.heap.objs.size := by
        have e' : b = e ∨ b = it := by simpa using hb
        rcases e' with z | z
        · rw [z]; exact hel
        · rw [z]; exact hil
      rw [upd_ne (Nat.ne_of_lt hb')]
      exact (hf b hb).1
  done := by
    intro X hP hw hK hc i pins s σ H E I hf st hg
    subst hP hw hK
    obtain ⟨⟨old, he⟩, hit, hne, hai, hae⟩ := st
    obtain ⟨xs, hq, hx⟩ := hg
    obtain ⟨its, rv, p, hz⟩ := I.tuple hq
    obtain ⟨f0, f1, f2, f3, f4, f5⟩ := hf it (by simp)
    have hl := rv.length
    have D := drawsT (prog := X.prog) (w := X.w) (A := X.A.in1) (I.ok.hd hc) it a hai its.toArray
    have hi : i = its.toArray.size := by simp; omega
    rw [hi] at hit
    exact wpAny_pyNext_enum_endD D he ⟨hit, p⟩ fun h' eb => ⟨rfl, I.turned (t' := s.toks) (fun b o hb q => eb b o hb q) f0 f1 f3 f4 f5⟩
  self := fun A i s Q E st h => let ⟨⟨_, he⟩, _⟩ := st; wpAny_pyIter_enum he h
def iEnumT (K : PySem.W.Frag) (ta : TA) : TI := fun σ H R => ta σ H fun vs H1 => ∃ a xs, vs = [.ref a] ∧ SqT K H1 a xs ∧ R (IteT K a) H1
theorem pi_enumT {X : Cx} {K : PySem.W.Frag} {e : Expr} {ta : TA} {p pos tpos : Pos} {elts : List Expr} {kk : Nat} (hK : X.K = K) (hg : Gl X "enumerate") (hm : X.mg "enumerate" = none) (ha : PA X [e] ta) (hs : starEach [e] X.env = [(false, eval e X.env)] := by rfl) :
    PI X (.Tuple elts kk tpos) (.Call (.Name "enumerate" p) [e] [] pos) (iEnumT K ta) := by
  subst hK
  refine ⟨fun pins s σ H R I h => ?_⟩
  refine Call_ (ld_blt I hg hm boot_enumerate (PyProof.Rows.callWith_type1 (thn (ha.run pos pins s σ H _ I h) fun us s1 ⟨vs, H1, I1, r1, q1⟩ => ?_) hs rfl))
  obtain ⟨a, xs, ex, hq, q⟩ := q1
  subst ex
  cases r1 with
  | cons r rr =>
    cases rr
    cases r
    obtain ⟨its, rv, p', hz⟩ := I1.tuple hq
    have hal : a < s1.heap.objs.size := by obtain ⟨o, ho, _⟩ := p'; exact Heap.lt_size ho
    refine call_enumT p' fun h' he hit hsz hk => wpAny_pyIter_enum he ?_
    have I2 : Inv X pins σ H1 { s1 with heap := h' } := I1.kept (t' := s1.toks) hk
    refine ⟨s1.heap.objs.size + 1, [s1.heap.objs.size + 1, s1.heap.objs.size], _, _, H1, rfl, I2, turn_enumT a (s1.heap.objs.size + 1) s1.heap.objs.size, ⟨⟨.none, he⟩, hit, Nat.succ_ne_self _, Nat.ne_of_lt hal, Nat.ne_of_lt (Nat.lt_succ_of_lt hal)⟩, fun b hb => ?_, q⟩
    have e' : b = s1.heap.objs.size + 1 ∨ b = s1.heap.objs.size := by simpa using hb
    have hle : s1.heap.objs.size ≤ b := by
      rcases e' with z | z
      · rw [z]; exact Nat.le_add_right _ _
      · rw [z]; exact Nat.le_refl _
    exact I1.fpOk hle (I1.hok.fresh hle)
/-- a for over enumerate(tuple): the invariant by the turn -/
theorem for_enumT {K : PySem.W.Frag} {a : Addr} {xs : List V} {i1 i2 : Nat} {tb : TS} {D : Ends} {σ : L2.St} {H : Hp} (Pv : Nat → L2.St → Hp → Prop) (h0 : Pv 0 σ H) (hl : ∀ i σ H, i ≤ xs.length → Pv i σ H → SqT K H a xs)
    (hs : ∀ i x σ H H', xs[i]? = some x → Pv i σ H → Same H H' → tb { D with nx := Pv (i + 1), ct := Pv (i + 1), bk := D.nx } ((σ.set i1 (some (.int (i : Nat)))).set i2 (some x)) H') (hd : ∀ σ H, Pv xs.length σ H → D.nx σ H) :
    ∃ W : Nat → Nat → L2.St → Hp → Prop, (∃ m, W 0 m σ H) ∧ ∀ i m σ H, W i m σ H →
      ((IteT K a).stop i H ∧ D.nx σ H) ∨ ((IteT K a).go i H ∧ ∃ N : L2.St → Hp → Prop, (∀ σ' H', N σ' H' → ∃ m', m' < m ∧ W (i + 1) m' σ' H') ∧ ∀ x H', (IteT K a).yld i H x H' →
        gTup K 2 (gCons (gName i1) (gCons (gName i2) gNil)) x σ H' fun σ2 H2 => tb { D with nx := N, ct := N, bk := D.nx } σ2 H2) := by
  refine ⟨fun i m σ H => m = xs.length - i ∧ i ≤ xs.length ∧ Pv i σ H, ⟨xs.length, by simp, Nat.zero_le _, h0⟩, ?_⟩
  rintro i m σ H ⟨rfl, hi, p⟩
  have hq := hl i σ H hi p
  by_cases hlt : i < xs.length
  · refine .inr ⟨⟨xs, xs[i], hq, List.getElem?_eq_getElem hlt⟩, Pv (i + 1), fun σ' H' p' => ⟨xs.length - (i + 1), by omega, rfl, hlt, p'⟩, fun x H' y => ?_⟩
    obtain ⟨T, z, rfl, hT, rfl, hz⟩ := y
    exact ⟨T, _, rfl, SqT.of upd_same, rfl, _, _, rfl, _, _, rfl, rfl, hs i z σ H _ (hz xs hq) p (same_new hT _)⟩
  · have e : i = xs.length := by omega
    subst e
    exact .inl ⟨⟨xs, hq, rfl⟩, hd σ H p⟩
end TG


set_option Elab.async false
set_option linter.all false
set_option maxRecDepth 100000
set_option maxHeartbeats 4000000
namespace TG
open PySem L2
/-! ### further steps into a reading -/
section
variable {σ : L2.St} {H : Hp} {D : Ends} {te : TE} {tt tu : TT} {Q : Bool → Hp → Prop}
theorem go_next (h : D.nx σ H) : tNext D σ H := h
theorem go_or (h : tt σ H fun c H1 => if c = true then Q true H1 else tu σ H1 Q) : tOr tt tu σ H Q := h
theorem go_and (h : tt σ H fun c H1 => if c = true then tu σ H1 Q else Q false H1) : tAnd tt tu σ H Q := h
theorem go_not (h : tt σ H fun c H1 => Q (!c) H1) : tNot tt σ H Q := h
theorem go_B (h : te σ H fun x H1 => ∃ c, x = .bl c ∧ Q c H1) : tB te σ H Q := h
theorem go_test (h : te σ H fun x H1 => ∃ c, x = .bl c ∧ Q c H1) : tTest te σ H Q := h
end
/-! ### more rules with the written part named -/
section
variable {X : Cx} {K : PySem.W.Frag}
theorem op_catAK (hK : X.K = K) : OpR X (binaryOp .Add) (rCatA K) := by subst hK; exact op_catA
theorem sl_tupAK (hK : X.K = K) : SlR X (rSlA K) := by subst hK; exact sl_tupA
/-- the type's name of a value: plain ones, tuples, lists -/
def TyN (K : PySem.W.Frag) (H : Hp) (x : V) (t : String) : Prop :=
  sTy x = some t ∨ (t = "tuple" ∧ ∃ a ys, x = .ref a ∧ SqT K H a ys) ∨ (t = "list" ∧ ∃ a ys, x = .ref a ∧ H a = some (.lst ys)) ∨ (t = "dict" ∧ ∃ a kvs, x = .ref a ∧ H a = some (.dK kvs))
theorem TyN.x {H : Hp} {x : V} {t : String} (h : TyN K H x t) : TyX K H x (.type t) := by
  rcases h with h | ⟨rfl, a, ys, rfl, (h | ⟨o, h⟩) | ⟨o, its, n, h, hc, _⟩⟩ | ⟨rfl, a, ys, rfl, h⟩ | ⟨rfl, a, kvs, rfl, h⟩
  · cases x with
    | non => cases h; exact .base .non
    | bl b => cases h; exact .base (.bl b)
    | int i => cases h; exact .base (.int i)
    | str z => cases h; exact .base (.str z)
    | _ => cases h
  · exact .base (.tup h)
  · exact .fTuple h
  · exact .kTuple h hc
  · exact .base (.lst h)
  · exact .base (.dK h)
def rIsiG (K : PySem.W.Frag) : List V → Hp → VK → Prop := fun xs H Q => ∃ x c t b, xs = [x, .ty c] ∧ TyN K H x t ∧ kitB t c = some b ∧ Q (.bl b) H
theorem call_isiG (hK : X.K = K) : CallR X (.builtin "isinstance") (rIsiG K) := by
  subst hK
  intro pins s σ H xs us Q I r h
  obtain ⟨x, c, t, b, rfl, ht, hk, q⟩ := h
  exact call_isi pins s σ H _ us Q I r ⟨x, .ty c, .type t, .type c, b, rfl, .ty c, ht.x, kit_ty hk, q⟩
end
theorem kit_tuple_tuple : kitB "tuple" "tuple" = some true := by decide +kernel
theorem kit_tuple_int : kitB "tuple" "int" = some false := by decide +kernel
theorem kit_bool_bool : kitB "bool" "bool" = some true := by decide +kernel
theorem kit_bool_int : kitB "bool" "int" = some true := by decide +kernel
theorem TyN.int {K : PySem.W.Frag} {H : Hp} {n : Int} : TyN K H (.int n) "int" := .inl rfl
theorem TyN.bl {K : PySem.W.Frag} {H : Hp} {b : Bool} : TyN K H (.bl b) "bool" := .inl rfl
theorem TyN.tup {K : PySem.W.Frag} {H : Hp} {a : Addr} {ys : List V} (h : SqT K H a ys) : TyN K H (.ref a) "tuple" := .inr (.inl ⟨rfl, a, ys, rfl, h⟩)
theorem sqT {K : PySem.W.Frag} {H H' : Hp} {a : Addr} {xs : List V} (e : Same H H') (h : SqT K H a xs) : SqT K H' a xs := Evl.ex_t e h
theorem sqL {K : PySem.W.Frag} {H H' : Hp} {a : Addr} {xs : List V} (e : Same H H') (h : SqL K H a xs) : SqL K H' a xs := Evl.ex_l e h
/-! ### the row of draws, the script named -/
def RowA (K : PySem.W.Frag) (a : Addr) (ns : List Int) (H : Hp) (r : Addr) : Prop :=
  ∃ (i s t : Int), H r = some (.lst [.ref a, .int i, .int s, .int t]) ∧ SqL K (hide H r) a (ns.map V.int) ∧ ns.length ≤ 63 ∧ 0 ≤ i
section
variable {K : PySem.W.Frag} {a : Addr} {ns : List Int} {H H' : Hp} {r D : Addr}
theorem RowA.more (h : RowA K a ns H r) (s : Same H H') : RowA K a ns H' r := by
  obtain ⟨i, z, t, h1, h2, h3, h4⟩ := h
  exact ⟨i, z, t, s _ _ h1, (Off.hide (Off.of s)).seq h2, h3, h4⟩
theorem RowA.there (h : RowA K a ns H r) : ∃ xs, H r = some (.lst xs) := by
  obtain ⟨i, z, t, h1, _⟩ := h
  exact ⟨_, h1⟩
theorem RowA.make {s : Int} (hr : H r = none) (h : SqL K H a (ns.map V.int)) (hl : ns.length ≤ 63) : RowA K a ns (upd H r (.lst [.ref a, .int 0, .int s, .int 0])) r :=
  ⟨0, s, 0, upd_same, by
    rw [hide_upd]
    refine Same.seq (fun b o e => ?_) h
    unfold hide
    rw [if_neg (ne_of_none e hr)]
    exact e, hl, Int.le_refl 0⟩
/-- D is not where the script stands -/
def Safe (K : PySem.W.Frag) (a : Addr) (ns : List Int) (D : Addr) : Prop := a ≠ D ∨ ∀ H, SqL K H a (ns.map V.int)
theorem RowA.safe (h : RowA K a ns H r) (hD : H D = none) : Safe K a ns D := by
  obtain ⟨i, z, t, h1, h2, h3, h4⟩ := h
  rcases h2 with (h2 | ⟨x, h2⟩) | h2
  · exact .inl (ne_of_none (hide_same a _ h2) hD)
  · exact .inl (ne_of_none (hide_same a _ h2) hD)
  · exact .inr fun H => .inr h2
/-- all but D is kept -/
theorem RowA.off (h : RowA K a ns H r) (hr : r ≠ D) (hs : Safe K a ns D) (o : Off D H H') : RowA K a ns H' r := by
  obtain ⟨i, z, t, h1, h2, h3, h4⟩ := h
  refine ⟨i, z, t, o _ _ hr h1, ?_, h3, h4⟩
  rcases hs with hs | hs
  · have key : ∀ v, hide H r a = some v → hide H' r a = some v := fun v e => by
      unfold hide at e ⊢
      by_cases har : a = r
      · rw [if_pos har] at e
        cases e
      · rw [if_neg har] at e ⊢
        exact o a v hs e
    rcases h2 with (h2 | ⟨x, h2⟩) | h2
    · exact .inl (.inl (key _ h2))
    · exact .inl (.inr ⟨x, key _ h2⟩)
    · exact .inr h2
  · exact hs _
theorem RowA.upd {o : HO} (h : RowA K a ns H r) (hr : r ≠ D) (hs : Safe K a ns D) : RowA K a ns (upd H D o) r := h.off hr hs Off.upd
end
/-- a tuple stands while the row turns -/
theorem sqT_row {K : PySem.W.Frag} {H H' : Hp} {p r : Addr} {xs ys : List V} (h : SqT K H p xs) (hr : H r = some (.lst ys)) (ho : ∀ b, b ≠ r → H' b = H b) : SqT K H' p xs := by
  have key : ∀ u, H p = some u → (∀ zs, u ≠ .lst zs) → H' p = some u := fun u e hu => by
    rw [ho p (fun c => by rw [c, hr] at e; exact hu _ (Option.some.inj e).symm)]
    exact e
  rcases h with (h | ⟨o, h⟩) | h
  · exact .inl (.inl (key _ h (fun _ z => by cases z)))
  · exact .inl (.inr ⟨o, key _ h (fun _ z => by cases z)⟩)
  · exact .inr h
/-- a draw: some number below m; the row turns, all else stands -/
def spTk (K : PySem.W.Frag) : Sp := fun vs H Q _ => ∃ (r a : Addr) (ns : List Int) (m : Int), vs = [.ref r, .int m] ∧ RowA K a ns H r ∧ (0 < m ∧ m < 1073741824) ∧
  ∀ (d : Int) (H' : Hp), 0 ≤ d → d < m → RowA K a ns H' r → (∀ b, b ≠ r → H' b = H b) → Q (.int d) H'
/-- one of some things -/
def spPk (K : PySem.W.Frag) : Sp := fun vs H Q _ => ∃ (r a p : Addr) (ns : List Int) (xs : List V), vs = [.ref r, .ref p] ∧ RowA K a ns H r ∧ H p = some (.lst xs) ∧ p ≠ r ∧ (0 < xs.length ∧ xs.length < 1000) ∧
  ∀ (v : V) (H' : Hp), v ∈ xs → RowA K a ns H' r → (∀ b, b ≠ r → H' b = H b) → Q v H'
/-! ### a comprehension over range(a, b) -/
theorem el_lcR2 {σ : L2.St} {H : Hp} {t : TT} {te : TE} {ta : TA} {j : Nat} {vs : List Nat} {lo hi : Int} (f : Nat → Bool) (v : Nat → V) (h : Evl.EvA ta σ H [.int lo, .int hi]) (hn : -100000 ≤ lo ∧ lo ≤ 100000 ∧ -100000 ≤ hi ∧ hi ≤ 100000 ∧ hi - lo ≤ 40000) (hw : ∀ x, wipe ((wipe σ vs).set j (some x)) vs = wipe σ vs)
    (ht : ∀ (i : Nat) H1, Evl.Ex H H1 → lo + (i : Int) < hi → Evl.EvT t ((wipe σ vs).set j (some (.int (lo + (i : Int))))) H1 (f i)) (he : ∀ (i : Nat) H1, Evl.Ex H H1 → lo + (i : Int) < hi → f i = true → Evl.Ev te ((wipe σ vs).set j (some (.int (lo + (i : Int))))) H1 (v i)) :
    Evl.EvL (tLc (iRng2 ta) (gName j) t te vs) σ H (Evl.given (hi - lo).toNat f v) := fun H0 e Q q => h H0 e _ fun H1 e1 => ⟨lo, hi, rfl, ⟨by omega, by omega, by omega, by omega⟩, fun Dl hD =>
  lc_range (lo := lo) (n := (hi - lo).toNat) (Evl.Cw H1 f v Dl) ⟨hD, Evl.Ex.new hD, upd_same⟩ (fun i H' hi' p =>
    ⟨hw _, Evl.cw_turn p (by omega) (ht i H1 (e.trans e1) (by omega)) (fun hf => he i H1 (e.trans e1) (by omega) hf)⟩) (fun H' p => q Dl H' (Evl.fresh_back e1 p.1) (e1.trans p.2.1) p.2.2)⟩
/-- over a tuple -/
theorem el_lcT {K : PySem.W.Frag} {σ : L2.St} {H : Hp} {t : TT} {te : TE} {a : Addr} {xs : List V} {tl : TE} {j : Nat} {vs : List Nat} (f : Nat → Bool) (v : Nat → V) (h : Evl.Ev tl σ H (.ref a)) (hx : SqT K H a xs) (hz : xs.length ≤ 40000) (hw : ∀ x, wipe ((wipe σ vs).set j (some x)) vs = wipe σ vs)
    (ht : ∀ (i : Nat) (x : V) H1, Evl.Ex H H1 → xs[i]? = some x → Evl.EvT t ((wipe σ vs).set j (some x)) H1 (f i)) (he : ∀ (i : Nat) (x : V) H1, Evl.Ex H H1 → xs[i]? = some x → f i = true → Evl.Ev te ((wipe σ vs).set j (some x)) H1 (v i)) :
    Evl.EvL (tLc (iTup K tl) (gName j) t te vs) σ H (Evl.given xs.length f v) := fun H0 e Q q => h H0 e _ fun H1 e1 => ⟨a, rfl, ⟨xs, Evl.ex_t (e.trans e1) hx⟩, fun Dl hD =>
  lc_tup (xs := xs) (Evl.Cw H1 f v Dl) ⟨hD, Evl.Ex.new hD, upd_same⟩ (fun i H' _ p => Evl.ex_t ((e.trans e1).trans p.2.1) hx) (fun i x H' hi p => ⟨hw x, Evl.cw_turn p (by have := (List.getElem?_eq_some_iff.mp hi).1; omega) (ht i x H1 (e.trans e1) hi) (fun hf => he i x H1 (e.trans e1) hi hf)⟩)
    (fun H' p => q Dl H' (Evl.fresh_back e1 p.1) (e1.trans p.2.1) p.2.2)⟩
theorem given_all (n : Nat) (v : Nat → V) : Evl.given n (fun _ => true) v = (List.range n).map v := by
  unfold Evl.given
  rw [List.filter_eq_self.mpr (fun _ _ => rfl)]
/-! ### the least that is missing -/
def miss (ns : List Int) : List Nat := (List.range (ns.length + 1)).filter fun k => !decide ((k : Int) ∈ ns)
theorem miss_ne (ns : List Int) : miss ns ≠ [] := by
  intro h
  have h1 : ∀ k ∈ List.range (ns.length + 1), ((k : Int)) ∈ ns := fun k hk => by
    have := List.filter_eq_nil_iff.mp h k hk
    simpa using this
  have h2 := nodup_le (l := (List.range (ns.length + 1)).map fun k : Nat => (k : Int)) (m := ns) (nodup_cast _) (fun x hx => by
    obtain ⟨k, hk, rfl⟩ := List.mem_map.mp hx
    exact h1 k hk)
  rw [List.length_map, List.length_range] at h2
  omega
def mexL (ns : List Int) : Nat := (miss ns).headD 0
theorem below_len {ns : List Int} {m : Nat} (h2 : ∀ j : Nat, j < m → ((j : Int)) ∈ ns) : m ≤ ns.length := by
  have h3 := nodup_le (l := (List.range m).map fun k : Nat => (k : Int)) (m := ns) (nodup_cast _) (fun x hx => by
    obtain ⟨k, hk, rfl⟩ := List.mem_map.mp hx
    exact h2 k (List.mem_range.mp hk))
  rw [List.length_map, List.length_range] at h3
  exact h3
theorem mexL_of {ns : List Int} {m : Nat} (h1 : ((m : Int)) ∉ ns) (h2 : ∀ j : Nat, j < m → ((j : Int)) ∈ ns) : mexL ns = m := by
  have hm : m ∈ miss ns := by
    refine List.mem_filter.mpr ⟨List.mem_range.mpr ?_, by simpa using h1⟩
    have := below_len h2
    omega
  have hs : (miss ns).Pairwise (· < ·) := List.Pairwise.filter _ List.pairwise_lt_range
  have hin : ∀ j ∈ miss ns, ¬ j < m := fun j hj hlt => by
    have := (List.mem_filter.mp hj).2
    simp [h2 j hlt] at this
  unfold mexL
  cases e : miss ns with
  | nil => exact absurd e (miss_ne ns)
  | cons x r =>
    rw [e] at hm hs hin
    have h3 := hin x List.mem_cons_self
    have : x = m := by
      rcases List.mem_cons.mp hm with h | h
      · exact h.symm
      · have := (List.pairwise_cons.mp hs).1 m h
        omega
    simp [this]
theorem mexL_spec (ns : List Int) : ((mexL ns : Nat) : Int) ∉ ns ∧ ∀ j : Nat, j < mexL ns → ((j : Int)) ∈ ns := by
  have hs : (miss ns).Pairwise (· < ·) := List.Pairwise.filter _ List.pairwise_lt_range
  unfold mexL
  cases e : miss ns with
  | nil => exact absurd e (miss_ne ns)
  | cons x r =>
    have hx : x ∈ miss ns := by rw [e]; exact List.mem_cons_self
    obtain ⟨h1, h2⟩ := List.mem_filter.mp hx
    refine ⟨by simpa using h2, fun j hj => ?_⟩
    show ((j : Int)) ∈ ns
    have hj' : j < x := hj
    have hjr : j ∈ List.range (ns.length + 1) := List.mem_range.mpr (by have := List.mem_range.mp h1; omega)
    by_cases c : ((j : Int)) ∈ ns
    · exact c
    · have hm : j ∈ miss ns := List.mem_filter.mpr ⟨hjr, by simpa using c⟩
      rw [e] at hm hs
      rcases List.mem_cons.mp hm with h | h
      · omega
      · have := (List.pairwise_cons.mp hs).1 j h
        omega
theorem mexL_congr {xs ys : List Int} (h : ∀ t, t ∈ xs ↔ t ∈ ys) : mexL xs = mexL ys := by
  obtain ⟨h1, h2⟩ := mexL_spec ys
  exact mexL_of (fun q => h1 ((h _).mp q)) (fun j hj => (h _).mpr (h2 j hj))
/-! ### dicts -/
theorem put_fst {κ : Type} [DecidableEq κ] (kvs : List (κ × V)) (k : κ) (v : V) : (putK kvs k v).map (·.1) = if k ∈ kvs.map (·.1) then kvs.map (·.1) else kvs.map (·.1) ++ [k] := by
  unfold putK
  by_cases h : k ∈ kvs.map (·.1)
  · rw [if_pos h, if_pos]
    · rw [List.map_map]
      refine List.map_congr_left fun p _ => ?_
      show (if p.1 = k then (p.1, v) else p).1 = p.1
      by_cases hp : p.1 = k
      · rw [if_pos hp]
      · rw [if_neg hp]
    · obtain ⟨p, hp, e⟩ := List.mem_map.mp h
      exact List.any_eq_true.mpr ⟨p, hp, decide_eq_true e⟩
  · rw [if_neg h, if_neg]
    · rw [List.map_append]
      rfl
    · intro q
      obtain ⟨p, hp, e⟩ := List.any_eq_true.mp q
      exact h (List.mem_map.mpr ⟨p, hp, of_decide_eq_true e⟩)
theorem val_none {κ : Type} [DecidableEq κ] {kvs : List (κ × V)} {k : κ} (h : valV kvs k = none) : k ∉ kvs.map (·.1) := by
  intro q
  obtain ⟨p, hp, e⟩ := List.mem_map.mp q
  unfold valV at h
  rw [Option.map_eq_none_iff, List.find?_eq_none] at h
  exact h p hp (decide_eq_true e)
theorem val_some {κ : Type} [DecidableEq κ] {kvs : List (κ × V)} {k : κ} : (valV kvs k).isSome = decide (k ∈ kvs.map (·.1)) := by
  cases e : valV kvs k with
  | none => rw [decide_eq_false (val_none e)]; rfl
  | some v =>
    have : k ∈ kvs.map (·.1) := by
      unfold valV at e
      cases e2 : kvs.find? (fun kv => decide (kv.1 = k)) with
      | none => rw [e2] at e; cases e
      | some p =>
        have h1 := List.mem_of_find?_eq_some e2
        have h2 : p.1 = k := by have := List.find?_some e2; simpa using this
        exact List.mem_map.mpr ⟨p, h1, h2⟩
    rw [decide_eq_true this]
    rfl
/-- a dict with int keys: which keys there are -/
structure Keys (ks : List (Key × V)) (xs : List Int) : Prop where
  ex : ∃ ns : List Int, ks.map (·.1) = ns.map Sum.inl ∧ ns.Nodup ∧ ∀ t, t ∈ ns ↔ t ∈ xs
theorem Keys.nil : Keys [] [] := ⟨[], rfl, List.nodup_nil, fun t => Iff.rfl⟩
theorem Keys.has {ks : List (Key × V)} {xs : List Int} (h : Keys ks xs) (t : Int) : (valV ks (Sum.inl t)).isSome = decide (t ∈ xs) := by
  obtain ⟨ns, e, _, hm⟩ := h.ex
  rw [val_some, e]
  have : (Sum.inl t : Key) ∈ ns.map Sum.inl ↔ t ∈ xs := by
    rw [← hm t]
    constructor
    · intro q
      obtain ⟨y, hy, ey⟩ := List.mem_map.mp q
      rw [← Sum.inl.inj ey]
      exact hy
    · intro q
      exact List.mem_map.mpr ⟨t, q, rfl⟩
  exact decide_eq_decide.mpr this
theorem Keys.put {ks : List (Key × V)} {xs : List Int} (h : Keys ks xs) (t : Int) (v : V) : Keys (putK ks (Sum.inl t) v) (xs ++ [t]) := by
  obtain ⟨ns, e, nd, hm⟩ := h.ex
  have hi : (Sum.inl t : Key) ∈ ns.map Sum.inl ↔ t ∈ ns := by
    constructor
    · intro q
      obtain ⟨y, hy, ey⟩ := List.mem_map.mp q
      rw [← Sum.inl.inj ey]
      exact hy
    · intro q
      exact List.mem_map.mpr ⟨t, q, rfl⟩
  refine ⟨if t ∈ ns then ns else ns ++ [t], ?_, ?_, fun x => ?_⟩
  · rw [put_fst, e]
    by_cases c : t ∈ ns
    · rw [if_pos (hi.mpr c), if_pos c]
    · rw [if_neg (fun z => c (hi.mp z)), if_neg c, List.map_append]
      rfl
  · by_cases c : t ∈ ns
    · rw [if_pos c]
      exact nd
    · rw [if_neg c]
      refine List.nodup_append.mpr ⟨nd, by simp, ?_⟩
      intro x hx y hy e
      rw [List.mem_singleton] at hy
      exact c (by rw [← hy, ← e]; exact hx)
  · rw [List.mem_append, List.mem_singleton, ← hm x]
    by_cases c : t ∈ ns
    · rw [if_pos c]
      constructor
      · exact .inl
      · rintro (z | z)
        · exact z
        · rw [z]
          exact c
    · rw [if_neg c, List.mem_append, List.mem_singleton]
theorem Keys.len {ks : List (Key × V)} {xs : List Int} (h : Keys ks xs) : ks.length ≤ xs.length := by
  obtain ⟨ns, e, nd, hm⟩ := h.ex
  have h1 := nodup_le (m := xs) nd fun x hx => (hm x).mp hx
  have h2 := congrArg List.length e
  rw [List.length_map, List.length_map] at h2
  omega
end TG


set_option Elab.async false
set_option linter.all false
set_option maxRecDepth 100000
set_option maxHeartbeats 4000000
/-! set(xs), xs a list of ints: a rule beside the hand layer's own for tuples -/
namespace TG
open PySem PySem.Spec PyProof.Rows L2
/-- the new set, still empty -/
abbrev s0 (w : World) : Obj := { cls := .type "set", dict := none, data := .set #[] 0 (.fresh 0 0 (!w.params.followText "set-order")) }
section
variable {P : Program} {w : World} {A : Around} {E : Value → Shared → Prop} {s : Shared}
theorem int_of {items : Array Value} {ns : List Int} (hit : IntsAre items.toList ns) (hsz : items.size = ns.length) (i : Nat) (v : Value) (hv : items[i]? = some v) : ∃ k t, ns[i]? = some k ∧ v = .int k t := by
  have hi : i < ns.length := by rw [← hsz]; exact (Array.getElem?_eq_some_iff.mp hv).1
  obtain ⟨t, e⟩ := IntsAre.int_at hit i v (by rw [Array.getElem?_toList]; exact hv)
  refine ⟨ns[i], t, List.getElem?_eq_getElem hi, ?_⟩
  rw [e, List.getD_eq_getElem?_getD, List.getElem?_eq_getElem hi] <;> rfl
/-- set(xs) -/
theorem set_of_list {l : Addr} {items : Array Value} (ns : List Int) {Q : Value → Shared → Prop} (hh : A.handled = none) (hl : s.heap.IsList l items) (hit : IntsAre items.toList ns) (hb : ns.length + 1 < scanBound)
    (h : ∀ (h' : Heap) (tk c : Nat), SetR w h' s.heap.objs.size (fun j => decide (j ∈ ns)) c → c ≤ ns.length → (∀ b o, s.heap.get? b = some o → h'.get? b = some o) → Q (.ref s.heap.objs.size) { s with heap := h', toks := tk }) :
    wpAny (model P w) A (call (.type "set") [.ref l]) Q E s := by
  have hsz : items.size = ns.length := by
    have q := IntsAre.length hit
    rw [Array.length_toList] at q
    exact q
  obtain ⟨c, tl, hmro⟩ := F.called_set.mro
  have hmade := F.called_set.made
  have hsub := F.called_set.sub
  refine wpAny_call (codeAny_of_tree ?_)
  show wpAny _ _ (callAny (.type "set") _) _ _ _
  refine wpAny_pure ⟨Code.quiet_builtin _ (by decide +kernel), codeAny_builtin F.entry_type_call ?_⟩
  rw [Around.under_plain (weight_type_call_type "set" [.ref l] []) rfl]
  have h1 := F.called_set.notType
  have h2 := F.called_set.canCreate
  have hct := F.typeCall_set_1 (.ref l)
  repeat (any_goals (first | assumption | wp_step))
  refine codeAny_mono (code_set_led1 (.ref l) (E := E) (Q₁ := fun obj s₁ => obj = .ref s.heap.objs.size ∧ s₁ = { s with heap := s.heap.push (s0 w) }) ⟨rfl, rfl⟩) fun r s₁ hr => ?_
  rcases r with e | fl
  · exact hr
  cases fl with
  | ret obj =>
    obtain ⟨rfl, rfl⟩ := hr
    have hS : (s.heap.push (s0 w)).get? s.heap.objs.size = some (s0 w) := Heap.get?_push_size _ rfl
    have hT : Shared.TypeIs { s with heap := s.heap.push (s0 w) } (.ref s.heap.objs.size) "set" := ⟨_, hS, rfl⟩
    have hli := F.called_set.init.lookup
    have hbi := F.called_set.init.bind (.ref s.heap.objs.size)
    repeat (any_goals (first | assumption | wp_step))
    refine codeAny_mono (codeAny_call_builtin (R := wants (fun r s₂ => r = .none ∧ ∃ h' tk c, s₂ = { s with heap := h', toks := tk } ∧ SetR w h' s.heap.objs.size (fun j => decide (j ∈ ns)) c ∧ c ≤ ns.length ∧
      (∀ b o, s.heap.get? b = some o → h'.get? b = some o)) E) F.called_set.init.plain F.entry_set_init (check_set_init_1 hT ?_)) fun r₂ s₂ hr₂ => ?_
    · obtain ⟨ol, hol, hcl, nl, hdl⟩ := hl
      obtain ⟨ocls, odict, odata, oslots⟩ := ol
      simp only at hcl hdl
      subst hcl; subst hdl
      have hol' : (s.heap.push (s0 w)).get? l = some { cls := .type "list", dict := odict, data := .seq items nl, slots := oslots } := Heap.get?_push_of_some _ hol
      have hsls := F.sub_list_set
      have hslf := F.sub_list_frozenset
      have hne : (Value.type "list" == Value.type "dict") = false := by decide
      have hl1 : (s.heap.push (s0 w)).IsList l items := ⟨_, hol', rfl, nl, rfl⟩
      unfold Builtin.«set.__init__» noKeywords Builtin.Frozenset.updateFrom
      generalize hPI : pyIter = PI
      wp_walk
      subst hPI
      refine wpAny_pyIter_list hl1 ?_
      refine wpAny_bind (wpAny_runValue ?_)
      have hlS : l < s.heap.objs.size := Heap.lt_size hol
      have hh3 : A.in1.in1.in1.handled = none := by simp [hh]
      have hz : (s.heap.push (s0 w)).objs.size = s.heap.objs.size + 1 := Heap.size_push ..
      have hneI : l ≠ (s.heap.push (s0 w)).objs.size := by rw [hz]; exact Nat.ne_of_lt (Nat.lt_succ_of_lt hlS)
      have hSf : s.heap.objs.size ∉ [(s.heap.push (s0 w)).objs.size, l] := by
        rw [hz]
        simp only [List.mem_cons, List.not_mem_nil, or_false, not_or]
        exact ⟨Nat.ne_of_lt (Nat.lt_succ_self _), Nat.ne_of_gt hlS⟩
      refine set_update_ints ((Walks.list hh3 _ l hneI items).toS) s.heap.objs.size hSf ns hsz hb (int_of hit hsz) (items.size - 0) 0 _ (by omega) (Nat.zero_le _)
        ⟨⟨_, Heap.get?_push_size _ rfl, rfl, rfl⟩, (hl1.push _)⟩ ⟨0, Nat.le_refl 0, setR_new_at (Heap.get?_push_of_some _ hS)⟩ ?_
      intro s' c' hm hc' hS'
      obtain ⟨h', g2, d', tk', os'⟩ := s'
      have eg : g2 = s.gens := hm.gens
      have ed : d' = s.drawn := hm.drawn
      have eo : os' = s.os := hm.os
      subst eg; subst ed; subst eo
      show wpAny _ _ _ _ _ _
      refine wpAny_pure ?_
      show wpAny _ _ (ret Value.none) _ _ _
      rw [hsz] at hc'
      refine wpAny_pure ⟨rfl, h', tk', c', rfl, hS', hc', fun b o e => ?_⟩
      have hb0 : b < s.heap.objs.size := Heap.lt_size e
      refine hm.heap b o ?_ (Heap.get?_push_of_some _ (Heap.get?_push_of_some _ e))
      rw [hz]
      simp only [List.mem_cons, List.not_mem_nil, or_false, not_or]
      exact ⟨Nat.ne_of_lt hb0, Nat.ne_of_lt (Nat.lt_succ_of_lt hb0)⟩
    · rcases r₂ with e | fl₂
      · exact hr₂
      cases fl₂ with
      | ret r =>
        obtain ⟨rfl, h', tk, c', rfl, hS', hc', hk'⟩ := hr₂
        repeat (any_goals (first | assumption | wp_step))
        exact h _ _ _ hS' hc' hk'
      | _ => exact hr₂.elim
  | _ => exact hr.elim
end
/-- set(xs): the set of the ints of a list -/
def rSetI (K : PySem.W.Frag) (w : World) : List V → Hp → VK → Prop := fun xs H Q => ∃ (l : Addr) (ns : List Int), xs = [.ref l] ∧ SqL K H l (ns.map V.int) ∧ ns.length ≤ 1000 ∧ ∀ p n, H p = none → n ≤ ns.length → Q (.ref p) (upd H p (SetO w p (fun j => decide (j ∈ ns)) n))
theorem cr_setI {X : Cx} (hc : X.calm = true) : CallR X (.type "set") (rSetI X.K X.w) := by
  intro pins s σ H xs us Q I r h
  obtain ⟨l, ns, rfl, hl, hn, q⟩ := h
  rw [Vals.ref1 r]
  obtain ⟨its, rv, pl, hz⟩ := I.list hl
  refine set_of_list ns (I.ok.hd hc) pl.isList (by simpa using rv.ints) (by unfold scanBound; omega) fun h' tk c R hcn k => ?_
  exact ⟨.ref _, upd H s.heap.objs.size (SetO X.w s.heap.objs.size (fun j => decide (j ∈ ns)) c), I.laid (t' := tk) k (Nat.le_refl _) (setO_new R), rfl, q _ c (I.hok.fresh (Nat.le_refl _)) hcn⟩
end TG


set_option Elab.async false
set_option linter.all false
set_option maxRecDepth 100000
set_option maxHeartbeats 4000000
/-! Tuples in tuples as data; the graphs -/
namespace TG
open PySem L2
abbrev N (n : Nat) : V := .int (n : Int)
/-- whatever tuples stood still stand -/
def KpT (H H' : Hp) : Prop := ∀ (K : PySem.W.Frag) (a : Addr) (xs : List V), SqT K H a xs → SqT K H' a xs
theorem KpT.refl {H : Hp} : KpT H H := fun _ _ _ h => h
theorem KpT.trans {H H1 H2 : Hp} (a : KpT H H1) (b : KpT H1 H2) : KpT H H2 := fun K p xs h => b K p xs (a K p xs h)
theorem KpT.same {H H' : Hp} (s : Same H H') : KpT H H' := fun _ _ _ h => sqT s h
theorem KpT.new {H : Hp} {p : Addr} {o : HO} (h : H p = none) : KpT H (upd H p o) := .same (same_new h o)
theorem KpT.off {H H' : Hp} {r : Addr} {ys : List V} (hr : H r = some (.lst ys)) (o : Off r H H') : KpT H H' := fun K p xs h => by
  have key : ∀ u, H p = some u → (∀ zs, u ≠ .lst zs) → H' p = some u := fun u e hu => o p u (fun c => by rw [c, hr] at e; exact hu _ (Option.some.inj e).symm) e
  rcases h with (h | ⟨x, h⟩) | h
  · exact .inl (.inl (key _ h (fun _ z => by cases z)))
  · exact .inl (.inr ⟨x, key _ h (fun _ z => by cases z)⟩)
  · exact .inr h
theorem KpT.upd {H : Hp} {r : Addr} {ys : List V} {o : HO} (hr : H r = some (.lst ys)) : KpT H (upd H r o) := .off hr Off.upd
theorem KpT.row {K : PySem.W.Frag} {a : Addr} {ns : List Int} {H H' : Hp} {r : Addr} (hR : RowA K a ns H r) (ho : ∀ b, b ≠ r → H' b = H b) : KpT H H' := by
  obtain ⟨xs, hx⟩ := hR.there
  exact .off hx (.eq ho)
/-! ### data of tuples alone -/
mutual
def pT : PyData → Bool
  | .none | .bool _ | .int _ | .str _ => true
  | .tuple xs => pTs xs
  | .list _ | .dict _ => false
def pTs : List PyData → Bool
  | [] => true
  | x :: xs => pT x && pTs xs
end
section
variable {K : PySem.W.Frag} {H H' : Hp}
mutual
theorem dp_keep (k : KpT H H') : ∀ (d : PyData) (v : V), pT d = true → Dp K H v d → Dp K H' v d
  | .none, _, _, h => by cases h; exact .non
  | .bool b, _, _, h => by cases h; exact .bl b
  | .int i, _, _, h => by cases h; exact .int i
  | .str x, _, _, h => by cases h; exact .str x
  | .list _, _, p, _ => by unfold pT at p; cases p
  | .dict _, _, p, _ => by unfold pT at p; cases p
  | .tuple ds, _, p, h => by
    cases h with
    | tup hs ha =>
      unfold pT at p
      exact .tup (k K _ _ hs) (dps_keep k ds _ p ha)
theorem dps_keep (k : KpT H H') : ∀ (ds : List PyData) (vs : List V), pTs ds = true → DpAll K H vs ds → DpAll K H' vs ds
  | [], _, _, h => by cases h; exact .nil
  | d :: ds, _, p, h => by
    cases h with
    | cons h1 h2 =>
      unfold pTs at p
      have p' := Bool.and_eq_true_iff.mp p
      exact .cons (dp_keep k d _ p'.1 h1) (dps_keep k ds _ p'.2 h2)
end
theorem dp_tup {v : V} {ds : List PyData} (h : Dp K H v (.tuple ds)) : ∃ a xs, v = .ref a ∧ SqT K H a xs ∧ DpAll K H xs ds := by
  cases h with
  | tup hs ha => exact ⟨_, _, rfl, hs, ha⟩
theorem dps_len : ∀ {ds : List PyData} {xs : List V}, DpAll K H xs ds → xs.length = ds.length
  | [], _, h => by cases h; rfl
  | d :: ds, _, h => by
    cases h with
    | cons h1 h2 => simp [dps_len h2]
theorem dps_get : ∀ {ds : List PyData} {xs : List V}, DpAll K H xs ds → ∀ (i : Nat) (d : PyData), ds[i]? = some d → ∃ x, xs[i]? = some x ∧ Dp K H x d
  | [], _, _, i, d, h => by cases h
  | _ :: ds, _, .cons h1 h2, 0, d, h => by
    cases h
    exact ⟨_, rfl, h1⟩
  | _ :: ds, _, .cons h1 h2, i + 1, d, h => by
    obtain ⟨x, hx, h'⟩ := dps_get h2 i d (by simpa using h)
    exact ⟨x, by simpa using hx, h'⟩
theorem dps_at : ∀ {ds : List PyData} {xs : List V}, DpAll K H xs ds → ∀ (i : Nat) (x : V), xs[i]? = some x → ∃ d, ds[i]? = some d ∧ Dp K H x d
  | [], _, .nil, i, x, h => by cases h
  | _ :: ds, _, .cons h1 h2, 0, d, h => by
    cases h
    exact ⟨_, rfl, h1⟩
  | _ :: ds, _, .cons h1 h2, i + 1, x, h => by
    obtain ⟨d, hd, h'⟩ := dps_at h2 i x (by simpa using h)
    exact ⟨d, by simpa using hd, h'⟩
theorem dps_set : ∀ {ds : List PyData} {xs : List V} {d : PyData} {x : V} (i : Nat), DpAll K H xs ds → Dp K H x d → DpAll K H (xs.set i x) (ds.set i d)
  | [], _, d, x, i, .nil, h => .nil
  | _ :: ds, _, d, x, 0, .cons h1 h2, h => .cons h h2
  | _ :: ds, _, d, x, i + 1, .cons h1 h2, h => .cons h1 (dps_set i h2 h)
theorem dps_rep {d : PyData} {x : V} (h : Dp K H x d) : ∀ n : Nat, DpAll K H (List.replicate n x) (List.replicate n d)
  | 0 => .nil
  | n + 1 => .cons h (dps_rep h n)
theorem dps_app : ∀ {ds es : List PyData} {xs ys : List V}, DpAll K H xs ds → DpAll K H ys es → DpAll K H (xs ++ ys) (ds ++ es)
  | [], _, _, _, .nil, h => h
  | _ :: ds, _, _, _, .cons h1 h2, h => .cons h1 (dps_app h2 h)
theorem dps_take : ∀ {ds : List PyData} {xs : List V} (k : Nat), DpAll K H xs ds → DpAll K H (xs.take k) (ds.take k)
  | [], _, k, .nil => by simp; exact .nil
  | _ :: ds, _, 0, .cons h1 h2 => .nil
  | _ :: ds, _, k + 1, .cons h1 h2 => .cons h1 (dps_take k h2)
theorem dps_drop : ∀ {ds : List PyData} {xs : List V} (k : Nat), DpAll K H xs ds → DpAll K H (xs.drop k) (ds.drop k)
  | [], _, k, .nil => by simp; exact .nil
  | _ :: ds, _, 0, .cons h1 h2 => .cons h1 h2
  | _ :: ds, _, k + 1, .cons h1 h2 => dps_drop k h2
theorem dps_snoc : ∀ {ds : List PyData} {xs : List V} {d : PyData} {x : V}, DpAll K H xs ds → Dp K H x d → DpAll K H (xs ++ [x]) (ds ++ [d])
  | [], _, d, x, .nil, h => .cons h .nil
  | _ :: ds, _, d, x, .cons h1 h2, h => .cons h1 (dps_snoc h2 h)
end
/-! ### rules with the written part named -/
section
variable {X : Cx} {K : PySem.W.Frag} {w : World}
theorem cr_setIK (hK : X.K = K) (hw : X.w = w) (hc : X.calm = true) : CallR X (.type "set") (rSetI K w) := by subst hK hw; exact cr_setI hc
theorem cr_sortedSetK (hw : X.w = w) (hc : X.calm = true) : CallR X (.builtin "sorted") (rSortedSet w) := by subst hw; exact cr_sortedSet hc
theorem pa_starK {e : Expr} {p : Pos} {es : List Expr} {te : TE} {t : TA} (hK : X.K = K) (he : PE X e te) (h : PA X es t) (hs : starEach (.Starred e p :: es) X.env = (true, eval e X.env) :: starEach es X.env := by rfl) : PA X (.Starred e p :: es) (StX.tStar K te t) := by subst hK; exact StX.pa_star he h hs
theorem pi_zipAK {e e2 : Expr} {ta : TA} {p pos tpos : Pos} {elts : List Expr} {kk : Nat} (hK : X.K = K) (hg : Gl X "zip") (hm : X.mg "zip" = none) (ha : PA X [e, e2] ta)
    (hs : starEach [e, e2] X.env = (false, eval e X.env) :: starEach [e2] X.env := by rfl) (hpl : (backTo pos (starEach [e2] X.env)).any (·.1) = false := by rfl) : PI X (.Tuple elts kk tpos) (.Call (.Name "zip" p) [e, e2] [] pos) (RZ.iZipA K ta) := by subst hK; exact RZ.pi_zipA hg hm ha hs hpl
theorem op_inDK (hK : X.K = K) (hu : X.A.units + 65 < cLine) : OpR X (compareOp .In) (rInD K) := by subst hK; exact op_inD hu
theorem op_notInDK (hK : X.K = K) (hu : X.A.units + 65 < cLine) : OpR X (compareOp .NotIn) (rNotInD K) := by subst hK; exact op_notInD hu
theorem units65 {k : Nat} {A : Around} (r : Room k A) : A.units + 65 < cLine := by have := r.un; omega
end
/-- a comprehension over range(n), n below 0 too -/
theorem el_lcR1n {σ : L2.St} {H : Hp} {t : TT} {te : TE} {ta : TA} {j : Nat} {vs : List Nat} {n : Int} (f : Nat → Bool) (v : Nat → V) (h : Evl.EvA ta σ H [.int n]) (hn : -40000 ≤ n ∧ n ≤ 40000) (hw : ∀ x, wipe ((wipe σ vs).set j (some x)) vs = wipe σ vs)
    (ht : ∀ (i : Nat) H1, Evl.Ex H H1 → (i : Int) < n → Evl.EvT t ((wipe σ vs).set j (some (.int (i : Int)))) H1 (f i)) (he : ∀ (i : Nat) H1, Evl.Ex H H1 → (i : Int) < n → f i = true → Evl.Ev te ((wipe σ vs).set j (some (.int (i : Int)))) H1 (v i)) :
    Evl.EvL (tLc (iRng1 ta) (gName j) t te vs) σ H (Evl.given n.toNat f v) := fun H0 e Q q => h H0 e _ fun H1 e1 => ⟨n, rfl, by omega, by omega, fun Dl hD =>
  lc_range (lo := 0) (n := n.toNat) (Evl.Cw H1 f v Dl) ⟨hD, Evl.Ex.new hD, upd_same⟩ (fun i H' hi' p => by
    rw [Int.zero_add]
    exact ⟨hw _, Evl.cw_turn p (by omega) (ht i H1 (e.trans e1) (by omega)) (fun hf => he i H1 (e.trans e1) (by omega) hf)⟩) (fun H' p => q Dl H' (Evl.fresh_back e1 p.1) (e1.trans p.2.1) p.2.2)⟩
/-! ### slices and sums of tuples, whichever object they are -/
section
variable {K : PySem.W.Frag} {H : Hp} {Q : VK}
theorem catA_any {a b : Addr} {xs ys : List V} (ha : SqT K H a xs) (hb : SqT K H b ys) (hz : xs.length + ys.length ≤ sizeLine) (h : ∀ p H', Same H H' → SqT K H' p (xs ++ ys) → Q (.ref p) H') : rCatA K (.ref a) (.ref b) H Q := by
  refine ⟨a, b, xs, ys, rfl, rfl, ha, hb, hz, fun e => ?_, fun _ e => ?_, fun _ _ p hp => h p _ (same_new hp _) (SqT.of upd_same)⟩
  · subst e
    exact h b H (fun _ _ e => e) hb
  · subst e
    refine h a H (fun _ _ e => e) ?_
    rw [List.append_nil]
    exact ha
theorem slA_any {a : Addr} {xs : List V} {lo hi : Option Int} (ha : SqT K H a xs) (h : ∀ p H', Same H H' → SqT K H' p (cutV xs lo hi) → Q (.ref p) H') : rSlA K (.ref a) lo hi H Q := by
  refine ⟨a, xs, rfl, ha, fun e => ?_, fun _ p hp => h p _ (same_new hp _) (SqT.of upd_same)⟩
  have e2 : cutV xs lo hi = xs := by
    unfold cutV
    rw [e.1, e.2]
    simp
  refine h a H (fun _ _ e => e) ?_
  rw [e2]
  exact ha
theorem cut_take (xs : List V) (k : Nat) : cutV xs none (some (k : Int)) = xs.take k := by
  unfold cutV
  rw [HT.sIx_none, HT.sIx_nat]
  simp [List.take_eq_take_iff]
theorem cut_drop (xs : List V) (k : Nat) : cutV xs (some (k : Int)) none = xs.drop k := by
  unfold cutV
  rw [HT.sIx_none, HT.sIx_nat]
  by_cases h : k ≤ xs.length
  · rw [Nat.min_eq_left h]
    exact List.take_of_length_le (by rw [List.length_drop]; omega)
  · rw [Nat.min_eq_right (by omega), List.drop_eq_nil_of_le (Nat.le_refl _), List.drop_eq_nil_of_le (by omega), List.take_nil]
end
/-! ### the graphs -/
/-- a good row of a graph of n nodes -/
def OkRow (n : Nat) (r : List Nat) : Prop := r.Pairwise (· < ·) ∧ (∀ x ∈ r, x < n) ∧ r.length ≤ 60
def rowD (ds : List Nat) : PyData := .tuple (ds.map fun n : Nat => PyData.int (n : Int))
def rowsD (rs : List (List Nat)) : PyData := .tuple (rs.map rowD)
def grD (L R : List (List Nat)) : PyData := .tuple [rowsD L, rowsD R]
theorem pTs_all : ∀ ds : List PyData, (∀ d ∈ ds, pT d = true) → pTs ds = true
  | [], _ => by unfold pTs; rfl
  | d :: ds, h => by
    unfold pTs
    rw [h d List.mem_cons_self, pTs_all ds fun x hx => h x (List.mem_cons_of_mem _ hx)]
    rfl
theorem pT_row (ds : List Nat) : pT (rowD ds) = true := by
  unfold rowD pT
  refine pTs_all _ fun d hd => ?_
  obtain ⟨n, _, rfl⟩ := List.mem_map.mp hd
  unfold pT
  rfl
theorem pT_rows (rs : List (List Nat)) : pT (rowsD rs) = true := by
  unfold rowsD pT
  refine pTs_all _ fun d hd => ?_
  obtain ⟨n, _, rfl⟩ := List.mem_map.mp hd
  exact pT_row n
theorem pT_gr (L R : List (List Nat)) : pT (grD L R) = true := by
  unfold grD pT
  refine pTs_all _ fun d hd => ?_
  simp only [List.mem_cons, List.not_mem_nil, or_false] at hd
  rcases hd with rfl | rfl
  · exact pT_rows _
  · exact pT_rows _
section
variable {K : PySem.W.Frag} {H H' : Hp}
theorem ints_all : ∀ ds : List Nat, DpAll K H (ds.map N) (ds.map fun n : Nat => PyData.int (n : Int))
  | [] => .nil
  | n :: ds => .cons (.int _) (ints_all ds)
theorem ints_back : ∀ {ds : List Nat} {xs : List V}, DpAll K H xs (ds.map fun n : Nat => PyData.int (n : Int)) → xs = ds.map N
  | [], _, .nil => rfl
  | n :: ds, _, .cons h1 h2 => by
    cases h1
    rw [ints_back h2]
    rfl
theorem row_of {a : Addr} {ds : List Nat} (h : SqT K H a (ds.map N)) : Dp K H (.ref a) (rowD ds) := .tup h (ints_all ds)
theorem row_at {v : V} {ds : List Nat} (h : Dp K H v (rowD ds)) : ∃ a, v = .ref a ∧ SqT K H a (ds.map N) := by
  obtain ⟨a, xs, rfl, hs, ha⟩ := dp_tup h
  rw [ints_back ha] at hs
  exact ⟨a, rfl, hs⟩
theorem rows_at {v : V} {rs : List (List Nat)} (h : Dp K H v (rowsD rs)) : ∃ a xs, v = .ref a ∧ SqT K H a xs ∧ xs.length = rs.length ∧ DpAll K H xs (rs.map rowD) := by
  obtain ⟨a, xs, rfl, hs, ha⟩ := dp_tup h
  exact ⟨a, xs, rfl, hs, by rw [dps_len ha, List.length_map], ha⟩
theorem rows_get {rs : List (List Nat)} {xs : List V} (h : DpAll K H xs (rs.map rowD)) {i : Nat} {ds : List Nat} (hi : rs[i]? = some ds) : ∃ b, xs[i]? = some (.ref b) ∧ SqT K H b (ds.map N) := by
  obtain ⟨x, hx, hd⟩ := dps_get h i (rowD ds) (by rw [List.getElem?_map, hi]; rfl)
  obtain ⟨b, rfl, hb⟩ := row_at hd
  exact ⟨b, hx, hb⟩
theorem gr_at {v : V} {L R : List (List Nat)} (h : Dp K H v (grD L R)) : ∃ a l r, v = .ref a ∧ SqT K H a [l, r] ∧ Dp K H l (rowsD L) ∧ Dp K H r (rowsD R) := by
  obtain ⟨a, xs, rfl, hs, ha⟩ := dp_tup h
  cases ha with
  | cons h1 h2 =>
    cases h2 with
    | cons h2 h3 =>
      cases h3
      exact ⟨a, _, _, rfl, hs, h1, h2⟩
theorem gr_of {a : Addr} {l r : V} {L R : List (List Nat)} (h : SqT K H a [l, r]) (h1 : Dp K H l (rowsD L)) (h2 : Dp K H r (rowsD R)) : Dp K H (.ref a) (grD L R) := .tup h (.cons h1 (.cons h2 .nil))
end
/-- rising numbers that are not below 0 -/
theorem nat_list {ns : List Int} (h0 : ∀ x ∈ ns, 0 ≤ x) (hp : ns.Pairwise (· < ·)) : ∃ ds : List Nat, ns.map V.int = ds.map N ∧ ds.Pairwise (· < ·) ∧ ds.length = ns.length ∧ ∀ d, d ∈ ds ↔ ((d : Nat) : Int) ∈ ns := by
  refine ⟨ns.map Int.toNat, ?_, ?_, List.length_map _, fun d => ?_⟩
  · rw [List.map_map]
    refine List.map_congr_left fun x hx => ?_
    have := h0 x hx
    show V.int x = V.int ((x.toNat : Nat) : Int)
    exact congrArg V.int (by omega)
  · rw [List.pairwise_map]
    refine (List.pairwise_iff_forall_sublist.mpr fun {a b} hs => ?_)
    have h1 := List.pairwise_iff_forall_sublist.mp hp hs
    have h2 := h0 a (hs.subset (by simp))
    omega
  · rw [List.mem_map]
    constructor
    · rintro ⟨x, hx, rfl⟩
      have := h0 x hx
      rw [show ((x.toNat : Nat) : Int) = x by omega]
      exact hx
    · intro h
      exact ⟨_, h, by omega⟩
/-! ### equality -/
theorem eqv_tup (xs ys : List PyData) : PyData.eqv (.tuple xs) (.tuple ys) = PyData.eqvAll xs ys := by rw [PyData.eqv]
theorem eqv_ints : ∀ as bs : List Nat, PyData.eqvAll (as.map fun n : Nat => PyData.int (n : Int)) (bs.map fun n : Nat => PyData.int (n : Int)) = decide (as = bs)
  | [], [] => by simp [PyData.eqvAll]
  | [], b :: bs => by simp [PyData.eqvAll]
  | a :: as, [] => by simp [PyData.eqvAll]
  | a :: as, b :: bs => by
    have ih := eqv_ints as bs
    simp only [List.map_cons, PyData.eqvAll, PyData.eqv, ih]
    by_cases h : a = b
    · subst h
      simp
    · have : ¬ ((a : Int) = (b : Int)) := by omega
      simp [h, this]
theorem eqv_row (as bs : List Nat) : PyData.eqv (rowD as) (rowD bs) = decide (as = bs) := by
  unfold rowD
  rw [eqv_tup, eqv_ints]
theorem eqv_rowsAll : ∀ as bs : List (List Nat), PyData.eqvAll (as.map rowD) (bs.map rowD) = decide (as = bs)
  | [], [] => by simp [PyData.eqvAll]
  | [], b :: bs => by simp [PyData.eqvAll]
  | a :: as, [] => by simp [PyData.eqvAll]
  | a :: as, b :: bs => by
    have ih := eqv_rowsAll as bs
    simp only [List.map_cons, PyData.eqvAll, eqv_row, ih]
    by_cases h : a = b
    · subst h
      simp
    · simp [h]
theorem eqv_rows (as bs : List (List Nat)) : PyData.eqv (rowsD as) (rowsD bs) = decide (as = bs) := by
  unfold rowsD
  rw [eqv_tup, eqv_rowsAll]
theorem eqv_gr (L R L' R' : List (List Nat)) : PyData.eqv (grD L R) (grD L' R') = decide (L = L' ∧ R = R') := by
  unfold grD
  rw [eqv_tup]
  simp only [PyData.eqvAll, eqv_rows, Bool.and_true]
  by_cases h : L = L' <;> by_cases h2 : R = R' <;> simp [h, h2]
theorem lay_all : ∀ ds : List PyData, (∀ d ∈ ds, PyData.canLay0 d = true) → PyData.canLayAll0 ds = true
  | [], _ => by rw [PyData.canLayAll0]
  | d :: ds, h => by rw [PyData.canLayAll0, h d List.mem_cons_self, lay_all ds fun x hx => h x (List.mem_cons_of_mem _ hx)]; rfl
theorem depth_all {m : Nat} : ∀ ds : List PyData, (∀ d ∈ ds, PyData.depth d ≤ m) → PyData.depthAll ds ≤ m
  | [], _ => by rw [PyData.depthAll]; exact Nat.zero_le _
  | d :: ds, h => by
    rw [PyData.depthAll]
    exact Nat.max_le.mpr ⟨h d List.mem_cons_self, depth_all ds fun x hx => h x (List.mem_cons_of_mem _ hx)⟩
def Small (m : Nat) (d : PyData) : Prop := PyData.canLay0 d = true ∧ PyData.depth d ≤ m
theorem Small.tuple {m : Nat} {ds : List PyData} (h : ∀ d ∈ ds, Small m d) : Small (m + 1) (.tuple ds) := by
  refine ⟨?_, ?_⟩
  · rw [PyData.canLay0]
    exact lay_all ds fun d hd => (h d hd).1
  · rw [PyData.depth]
    have := depth_all (m := m) ds fun d hd => (h d hd).2
    omega
theorem Small.list {m : Nat} {ds : List PyData} (h : ∀ d ∈ ds, Small m d) : Small (m + 1) (.list ds) := by
  refine ⟨?_, ?_⟩
  · rw [PyData.canLay0]
    exact lay_all ds fun d hd => (h d hd).1
  · rw [PyData.depth]
    have := depth_all (m := m) ds fun d hd => (h d hd).2
    omega
theorem Small.int {m : Nat} (i : Int) : Small m (.int i) := ⟨by rw [PyData.canLay0], by rw [PyData.depth]; exact Nat.zero_le _⟩
theorem Small.ok {m : Nat} {d : PyData} (h : Small m d) (hm : m ≤ 64) : SeqAt.shaped d = true := by
  unfold SeqAt.shaped
  rw [h.1, decide_eq_true (Nat.le_trans h.2 hm)]
  rfl
theorem small_row (ds : List Nat) : Small 1 (rowD ds) := Small.tuple fun d hd => by
  obtain ⟨n, _, rfl⟩ := List.mem_map.mp hd
  exact .int _
theorem small_rows (rs : List (List Nat)) : Small 2 (rowsD rs) := Small.tuple fun d hd => by
  obtain ⟨n, _, rfl⟩ := List.mem_map.mp hd
  exact small_row n
theorem small_gr (L R : List (List Nat)) : Small 3 (grD L R) := Small.tuple fun d hd => by
  simp only [List.mem_cons, List.not_mem_nil, or_false] at hd
  rcases hd with rfl | rfl
  · exact small_rows _
  · exact small_rows _
end TG


set_option Elab.async false
set_option linter.all false
set_option maxRecDepth 100000
set_option maxHeartbeats 4000000
/-! A lambda handed to a def: without parameters, or with parameters that all have a number as default; what the making changes in memory is told exactly. -/
namespace LamY
open PySem PySem.Spec PyProof.Rows L2 LamX
/-- the heap behind the making: as it was, or the table is longer and a code object is new -/
def LamTo (P : Addr) (q : Str) (H H1 : Hp) : Prop := TabS H1 P q ∧ (H1 = H ∨ ∃ (ps qs : Array Value) (d : Addr), H P = some (.tbl ps) ∧ H d = none ∧ d ≠ P ∧ H1 = upd (upd H P (.tbl qs)) d (CodeO d q) ∧ TriplesOk qs.toList ∧ ∀ pos cv, codeAmong pos qs.toList = some cv → codeAmong pos ps.toList = some cv ∨ cv = .ref d)
/-- the made function: f with its code d and defaults dV -/
abbrev lamOb (q : Str) (params : Arguments) (body : Expr) (scope : Scope) (cl : List (Str × Addr)) (dV doc pm : Value) (d : Addr) (ct : Value) : Obj := PySem.W.kdv_obj "<lambda>" q params (.expr body) scope cl dV doc pm d ct
section
variable {X : Cx} {pins : List (Addr × Obj)} {σ : L2.St} {H : Hp} {s : Shared}
theorem stk_new (J : Inv X pins σ H s) {f : Addr} (hf : s.heap.objs.size ≤ f) : f ∉ frs X.stack := fun z => by
  cases List.mem_cons.mp (J.stkSub _ z) with
  | inl e =>
    have h1 : X.env.locals < s.heap.objs.size := J.lt
    rw [← e] at h1
    exact Nat.not_lt.mpr hf h1
  | inr e => exact absurd e (J.nofs hf)
theorem lam_tail {c P : Addr} {params : Arguments} {body : Expr} {scope : Scope} {pos : Pos} {q : Str} {dV : Value} {E : Value → Shared → Prop} {Q : Value → Shared → Prop}
    (J : Inv X pins σ H s) (B : TabB X.base X.mg c P) (hcd : X.env.code = .ref c) (hT : TabS H P q) (hfr : ∀ y ∈ scope.names, y.2 = .free → ∃ a, X.env.cells.lookup y.1 = some a)
    (k : ∀ (f d : Addr) (doc pm ct : Value) (H1 : Hp) (z : Shared), Inv X pins σ H1 z → LamTo P q H H1 → (∀ b o, b ≠ P → s.heap.get? b = some o → z.heap.get? b = some o) → (∀ b, b < s.heap.objs.size → b ≠ P → H1 b = H b) →
      z.heap.get? f = some (lamOb q params body scope (cloFrom X.env.cells scope.names []) dV doc pm d ct) → H1 f = none → f ∉ frs X.stack → H1 d = some (CodeO d q) → Q (.ref f) z) :
    wpAny (model X.prog X.w) X.A (makeTail "<lambda>" q params (.expr body) scope X.env dV .none none pos pos.line) Q E s := by
  obtain ⟨qs, hP, htr, hall⟩ := hT
  have hb : s.heap.BuiltinsAt X.mg P := B.bm.keeps J.bk
  have hPo : s.heap.get? P = some { cls := .none, data := .fields qs } := J.hok P _ hP
  have hPs : P < s.heap.objs.size := Heap.lt_size hPo
  cases hc : codeAmong pos qs.toList with
  | some cv =>
    obtain ⟨d, rfl, hd⟩ := hall pos cv hc
    refine PySem.W.kdv_makeTailHit (mg := X.mg) (c := c) (P := P) (ps := qs) (closure_ok hfr) J.ok.glob (J.mod.glob.keeps J.bk) hcd (B.code.keeps J.bk) hPo htr hc hb fun ct doc h' tk old hsz => ?_
    have J1 : Inv X pins σ H { s with heap := h'.push (lamOb q params body scope (cloFrom X.env.cells scope.names []) dV doc ((X.mg "__name__").getD .none) d ct), toks := tk } := J.kept fun b o e => Heap.get?_push_of_some _ (old b o e)
    exact k _ d doc _ ct H _ J1 ⟨⟨qs, hP, htr, hall⟩, .inl rfl⟩ (fun b o _ e => Heap.get?_push_of_some _ (old b o e)) (fun _ _ _ => rfl) (Heap.get?_push_size _ rfl) (J.hok.fresh hsz) (stk_new J hsz) hd
  | none =>
    refine PySem.W.kdv_makeTail (mg := X.mg) (c := c) (P := P) (ps := qs) (closure_ok hfr) J.ok.glob (J.mod.glob.keeps J.bk) hcd (B.code.keeps J.bk) hPo htr hc B.gP hb fun d ct doc h' tk hx hge hlt hrec htb => ?_
    obtain ⟨d', oc, us, t, ed, hoc, hdat, hu⟩ := hrec
    cases ed
    have hd : H d = none := J.hok.fresh hge
    have hdP : d ≠ P := Nat.ne_of_gt (Nat.lt_of_lt_of_le hPs hge)
    have J1 := inv_table (t' := tk) (more := #[rawInt pos.line, rawInt pos.col, .ref d]) (h' := h'.push (lamOb q params body scope (cloFrom X.env.cells scope.names []) dV doc ((X.mg "__name__").getD .none) d ct)) J hP
      (fun b o hn e => Heap.get?_push_of_some _ (hx b o hn e)) (Heap.get?_push_of_some _ htb) hge ⟨oc, us, t, Heap.get?_push_of_some _ hoc, hdat, hu⟩
    have hsz : s.heap.objs.size ≤ h'.objs.size := by omega
    have eT : (qs ++ #[rawInt pos.line, rawInt pos.col, Value.ref d]).toList = qs.toList ++ [rawInt pos.line, rawInt pos.col, .ref d] := by simp
    have keep : ∀ b, b ≠ P → H b ≠ none → upd (upd H P (.tbl (qs ++ #[rawInt pos.line, rawInt pos.col, .ref d]))) d (CodeO d q) b = H b := fun b h1 h2 => by
      have h3 : b ≠ d := fun z => h2 (z ▸ hd)
      rw [upd_ne h3, upd_ne h1]
    have new : ∀ b, s.heap.objs.size ≤ b → b ≠ d → upd (upd H P (.tbl (qs ++ #[rawInt pos.line, rawInt pos.col, .ref d]))) d (CodeO d q) b = none := fun b h1 h2 => by
      have h3 : b ≠ P := Nat.ne_of_gt (Nat.lt_of_lt_of_le hPs h1)
      rw [upd_ne h2, upd_ne h3]
      exact J.hok.fresh h1
    have old : ∀ b, b < s.heap.objs.size → b ≠ P → upd (upd H P (.tbl (qs ++ #[rawInt pos.line, rawInt pos.col, .ref d]))) d (CodeO d q) b = H b := fun b h1 h2 => by
      have h3 : b ≠ d := Nat.ne_of_lt (Nat.lt_of_lt_of_le h1 hge)
      rw [upd_ne h3, upd_ne h2]
    refine k h'.objs.size d doc _ ct _ _ J1 ⟨⟨_, by rw [upd_ne (Ne.symm hdP), upd_same], by rw [eT]; exact PySem.TriplesOk_snoc _ _ _ _ htr, fun p' cv hcv => ?_⟩, .inr ⟨_, _, d, hP, hd, hdP, rfl, by rw [eT]; exact PySem.TriplesOk_snoc _ _ _ _ htr, fun p' cv hcv => among_app _ htr (by rw [← eT]; exact hcv)⟩⟩ (fun b o hn e => Heap.get?_push_of_some _ (hx b o hn e)) old
      (Heap.get?_push_size _ rfl) (new _ hsz (Nat.ne_of_gt hlt)) (stk_new J hsz) upd_same
    rw [eT] at hcv
    rcases among_app _ htr hcv with z | z
    · obtain ⟨a, e1, e2⟩ := hall p' cv z
      refine ⟨a, e1, ?_⟩
      have hn : a ≠ P := fun w => by
        rw [w, hP] at e2
        exact absurd (Option.some.inj e2).symm (codeO_ne qs)
      rw [keep a hn (by rw [e2]; exact Option.some_ne_none _)]
      exact e2
    · exact ⟨d, z, upd_same⟩
/-- the defaults of a made function: none, or a tuple of numbers that nobody sees -/
def DvAt (l : List Env) (H1 : Hp) (h : Heap) (dV : Value) (is : List Int) : Prop :=
  (is = [] ∧ dV = .none) ∨ is ≠ [] ∧ ∃ (t : Addr) (us : List Value), dV = .ref t ∧ h.get? t = some (PySem.W.kdv_tup us) ∧ Vals (is.map V.int) us ∧ H1 t = none ∧ t ∉ frs l
/-- the defaults as written: none, or one number -/
inductive DefW : Arguments → List Int → Prop
  | no {ps : Arguments} : ps.defaults = [] → ps.kw_defaults = [] → DefW ps []
  | one {ps : Arguments} {z : Int} {j : Nat} {p : Pos} : ps.defaults = [.Constant (.int z) j p] → ps.kw_defaults = [] → DefW ps [z]
theorem lam_make {c P : Addr} {params : Arguments} {body : Expr} {scope : Scope} {pos : Pos} {q : Str} {is : List Int} {E : Value → Shared → Prop} {Q : Value → Shared → Prop}
    (J : Inv X pins σ H s) (B : TabB X.base X.mg c P) (hcd : X.env.code = .ref c) (hq : q = X.env.qual ++ "<lambda>") (hT : TabS H P q) (hw : DefW params is) (hfr : ∀ y ∈ scope.names, y.2 = .free → ∃ a, X.env.cells.lookup y.1 = some a)
    (k : ∀ (f d : Addr) (dV doc pm ct : Value) (H1 : Hp) (z : Shared), Inv X pins σ H1 z → LamTo P q H H1 → DvAt X.stack H1 z.heap dV is →
      z.heap.get? f = some (lamOb q params body scope (cloFrom X.env.cells scope.names []) dV doc pm d ct) → H1 f = none → f ∉ frs X.stack → H1 d = some (CodeO d q) → Q (.ref f) z) :
    wpAny (model X.prog X.w) X.A (eval (.Lambda params body scope pos) X.env) Q E s := by
  subst hq
  cases hw with
  | no h1 h2 =>
    have hd : defaultsOf params X.env = ([], []) := by
      obtain ⟨a1, a2, a3, a4, a5, a6, a7⟩ := params
      cases h1
      cases h2
      rfl
    refine PySem.W.kla_eval hd ?_
    rw [makeFunction_eq]
    simp only [List.zip_nil_right, List.filterMap_nil, List.isEmpty_nil, if_true, pure_bind]
    exact lam_tail J B hcd hT hfr fun f d doc pm ct H1 z a1 a2 _ _ a4 a5 a6 a7 => k f d _ doc pm ct H1 z a1 a2 (.inl ⟨rfl, rfl⟩) a4 a5 a6 a7
  | @one z j p h1 h2 =>
    refine PySem.W.kdv_lam (by rw [h1]; rfl) h2 ?_
    rw [h1]
    refine PySem.W.kdv_all1 (wpAny_Constant_int (PySem.W.kdv_all0 ?_))
    rw [makeFunction_eq]
    simp only [List.zip_nil_right, List.filterMap_nil, List.isEmpty_nil, if_true, pure_bind, List.isEmpty_cons, Bool.false_eq_true, if_false]
    refine wpAny_bind (wpAny_newTextTuple ?_)
    have J1 : Inv X pins σ H { s with heap := s.heap.push (PySem.W.kdv_tup [.int z s.toks]), toks := s.toks + 1 } := J.kept fun b o e => Heap.get?_push_of_some _ e
    refine lam_tail J1 B hcd hT hfr fun f d doc pm ct H1 z1 a1 a2 a3 an a4 a5 a6 a7 => ?_
    obtain ⟨qs, hP, _, _⟩ := hT
    have hPs : P < s.heap.objs.size := Heap.lt_size (J.hok P _ hP)
    have tn : s.heap.objs.size ≠ P := Nat.ne_of_gt hPs
    have tH : H s.heap.objs.size = none := J.hok.fresh (Nat.le_refl _)
    have g0 : (s.heap.push (PySem.W.kdv_tup [.int z s.toks])).get? s.heap.objs.size = some (PySem.W.kdv_tup [.int z s.toks]) := Heap.get?_push_size _ rfl
    have tH1 : H1 s.heap.objs.size = none := (an _ (by rw [Heap.size_push]; exact Nat.lt_succ_self _) tn).trans tH
    exact k f d (.ref s.heap.objs.size) doc pm ct H1 z1 a1 a2 (.inr ⟨by simp, _, _, rfl, a3 _ _ tn g0, .cons ⟨_, rfl⟩ .nil, tH1, stk_new J (Nat.le_refl _)⟩) a4 a5 a6 a7
end
/-! ### the body -/
/-- the lambda's own names are parameters, none of them a name of the maker; what it captures, the maker has -/
structure LamN (sc scope : Scope) (N : List Str) : Prop where
  kind : scope.kind = .function
  co : scope.isCoroutine = false
  gen : scope.isGenerator = false
  cell : ∀ y ∈ scope.names, y.2 ≠ .cell
  own : ∀ y ∈ scope.names, y.2 = .local → y.1 ∉ N
  free : ∀ y ∈ scope.names, y.2 = .free → sc.names.lookup y.1 = some .cell ∨ sc.names.lookup y.1 = some .free
def lamNB (sc scope : Scope) (N : List Str) : Bool :=
  decide (scope.kind = .function) && !scope.isCoroutine && !scope.isGenerator && scope.names.all fun y => !decide (y.2 = .cell) && (!decide (y.2 = .local) || !decide (y.1 ∈ N)) && (!decide (y.2 = .free) || (decide (sc.names.lookup y.1 = some .cell) || decide (sc.names.lookup y.1 = some .free)))
theorem lamN_by {sc scope : Scope} {N : List Str} (h : lamNB sc scope N = true) : LamN sc scope N := by
  unfold lamNB at h
  rw [Bool.and_eq_true, Bool.and_eq_true, Bool.and_eq_true] at h
  obtain ⟨⟨⟨h1, h2⟩, h3⟩, h4⟩ := h
  have ha : ∀ y ∈ scope.names, (y.2 ≠ .cell ∧ (y.2 ≠ .local ∨ y.1 ∉ N)) ∧ (y.2 ≠ .free ∨ (sc.names.lookup y.1 = some .cell ∨ sc.names.lookup y.1 = some .free)) := fun y hy => by
    have := List.all_eq_true.mp h4 y hy
    simpa using this
  exact { kind := of_decide_eq_true h1, co := by simpa using h2, gen := by simpa using h3, cell := fun y hy => (ha y hy).1.1, own := fun y hy e => (ha y hy).1.2.resolve_left fun n => n e, free := fun y hy e => (ha y hy).2.resolve_left fun n => n e }
section
variable {X : Cx} {pins : List (Addr × Obj)} {σ : L2.St} {H HZ : Hp} {s z : Shared}
theorem LamN.has {scope : Scope} {N : List Str} (L : LamN X.env.scope scope N) (ok : X.Ok) (y : Str × NameKind) (hy : y ∈ scope.names) (e : y.2 = .free) : ∃ c, X.env.cells.lookup y.1 = some c :=
  (L.free y hy e).elim (fun k => ok.has _ (.inl k)) fun k => ok.has _ (.inr k)
theorem lam_start {A : Around} {outer : List Env} {E : XK} {scope : Scope} {f d : Addr} {h₁ : Heap} {tk : Nat} {m : Str → Option Value} (J : Inv X pins σ H s) (L : LamN X.env.scope scope X.N) (e0 : Env0 X.prog X.w X.K X.mg X.base A outer z HZ) (hd : A.handled = none)
    (un : Un (frs X.stack) [] H HZ s.heap z.heap) (hns : h₁.Ns z.heap.objs.size m) (kp : ∀ b o, z.heap.get? b = some o → h₁.get? b = some o) : Inv (lamCx X A outer z HZ E scope f d) [] σ HZ { z with heap := h₁, toks := tk } := by
  have down : ∀ {y c}, (cloFrom X.env.cells scope.names []).lookup y = some c → X.env.cells.lookup y = some c := fun {y c} e => by
    cases cloFrom_mem (PySem.mem_of_lookup e) with
    | inl hm => cases hm
    | inr hm =>
      obtain ⟨h1, h2⟩ := hm
      obtain ⟨c1, hc⟩ := L.has J.ok _ h1 rfl
      have hc' : X.env.cells.lookup y = some c1 := hc
      rw [hc'] at h2
      rw [hc', h2]
      rfl
  have up : ∀ {y}, scope.names.lookup y = some .free → ∃ c, (cloFrom X.env.cells scope.names []).lookup y = some c := fun {y} hl =>
    mem_lookup (cloFrom_has (cells := X.env.cells) (acc := []) (PySem.mem_of_lookup hl))
  have cellK : ∀ {c : Addr} {v : Option Value}, H c = none → s.heap.IsCell c v → h₁.IsCell c v := fun {c v} n w => by
    obtain ⟨o, ho, hdt⟩ := w
    obtain ⟨sl, q⟩ := un.any ho n (fun y => nomatch y)
    exact ⟨_, kp _ _ q, hdt⟩
  have ok : (lamCx X A outer z HZ E scope f d).Ok :=
    { mod := e0.mod, kind := L.kind, glob := rfl, blt := rfl, above := Nat.le_refl _, inj := fun y w c e1 e2 => J.ok.inj y w c (down e1) (down e2)
      has := fun y hy => by
        have hy' : scope.names.lookup y = some .cell ∨ scope.names.lookup y = some .free := hy
        cases hy' with
        | inl k => exact absurd rfl (L.cell _ (PySem.mem_of_lookup k))
        | inr k => exact up k
      cab := fun y c w _ => absurd (show false = true from w) Bool.false_ne_true
      hd := fun _ => hd, frames := Around.frames_deeper e0.frames, stk := .inr ⟨rfl, rfl⟩, exf := fun b w => absurd (show b ∈ ([] : List Addr) from w) List.not_mem_nil, bs := e0.bs, bsz := e0.bsz
      noex := fun b _ _ w => absurd (show b ∈ ([] : List Addr) from w) List.not_mem_nil, exfs := fun b w => absurd (show b ∈ ([] : List Addr) from w) List.not_mem_nil, funs := e0.funs, frf := e0.frf }
  have notLocal : ∀ {i : Nat} {y : Str}, X.N[i]? = some y → scope.names.lookup y ≠ some .local := fun {i y} e1 k => L.own _ (PySem.mem_of_lookup k) rfl (List.mem_of_getElem? e1)
  exact
    { ok := ok, os := rfl, bare := e0.bare, base := Un.kept kp
      loc := ⟨m, hns, fun i y v e1 e2 e3 => by
        have e3' : Vis scope y := e3
        rcases e3' with k | k | k
        · exact absurd k (notLocal e1)
        · exact absurd rfl (L.cell _ (PySem.mem_of_lookup k))
        · obtain ⟨mm, _, hl⟩ := J.loc
          have capt := L.free _ (PySem.mem_of_lookup k) rfl
          obtain ⟨u, r, lk⟩ := hl i y v e1 e2 (capt.elim (fun w => .inr (.inl w)) fun w => .inr (.inr w))
          obtain ⟨c2, h2⟩ := up k
          refine ⟨u, r, .inr ⟨.inr k, c2, h2, ?_⟩⟩
          rcases lk with ⟨kk, _⟩ | ⟨_, c3, ec, isc⟩
          · have kk' : X.env.scope.names.lookup y = some .local := kk
            cases capt with
            | inl w => rw [show X.env.scope.names.lookup y = some .cell from w] at kk'; cases kk'
            | inr w => rw [show X.env.scope.names.lookup y = some .free from w] at kk'; cases kk'
          · have e4 := down h2
            rw [e4] at ec
            cases ec
            exact cellK (J.freeC y _ e4) isc⟩
      cell := fun y c e => (J.cell y c (down e)).elim fun v w => ⟨v, cellK (J.freeC y c (down e)) w⟩
      free := e0.hok.fresh (Nat.le_refl _)
      freeC := fun y c e => by
        obtain ⟨v, o, ho, _⟩ := J.cell y c (down e)
        exact un.free c o ho (J.freeC y c (down e)) (fun w => nomatch w)
      pin := fun q hq => absurd (show q ∈ ([] : List (Addr × Obj)) ++ [] from hq) List.not_mem_nil
      hok := e0.hok.kept kp, len := J.len }
/-- the defaults are bound: nothing is given -/
def BindsD (params : Arguments) (body : Expr) (scope : Scope) (is : List Int) : Prop :=
  ∀ (q : Str) (cl : List (Str × Addr)) (doc pm ct dV : Value) (d : Addr) (z : Shared), ((is = [] ∧ dV = .none) ∨ is ≠ [] ∧ ∃ (t : Addr) (us : List Value), dV = .ref t ∧ z.heap.get? t = some (PySem.W.kdv_tup us) ∧ Vals (is.map V.int) us) →
    ∃ bs : List (Str × Value), BindsTo z (PySem.W.kdv_fn "<lambda>" q params (.expr body) scope cl dV doc pm (.ref d) ct) ⟨[], []⟩ bs ∧ ∀ y ∈ bs, scope.names.lookup y.1 = some .local
theorem lam_act {CXg : CXT} {Eg : XK} {Ng : List Str} {qg : Str} {sg : Scope} {g f d : Addr} {cdg dV doc pm ct : Value} {params : Arguments} {body : Expr} {scope : Scope} {k i : Nat} {a q : Str} {is : List Int} {pn : List (Addr × Obj)} {xe : Value → Shared → Prop} {W : WX} {tb : XK → TE} {p1 p2 : Pos}
    (J : Inv X pins σ H s) (L : LamN X.env.scope scope X.N) (hq : q = X.env.qual ++ "<lambda>") (hf : s.heap.get? f = some (lamOb q params body scope (cloFrom X.env.cells scope.names []) dV doc pm d ct)) (hfn : H f = none) (hfr : f ∉ frs X.stack) (hdv : DvAt X.stack H s.heap dV is) (hbind : BindsD params body scope is)
    (tk : Takes ((cxOf CXg X.prog X.w X.K X.mg X.base Ng qg sg g cdg X.A X.stack s H Eg).tr pn xe) W) (hr : Room (k + 1) (X.A.deeper (envOfC qg sg s.heap.objs.size g cdg)))
    (hbody : ∀ (A : Around) (outer : List Env) (s : Shared) (H : Hp) (E : XK), Room k (A.deeper (lamEnv X scope s.heap.objs.size f d)) → PE (lamCx X A outer s H E scope f d) body (tb E))
    (hN : Ng[i]? = some a) (hv : Vis sg a) (hd : (a == ("__debug__" : Str)) = false) (hcd : (a == ("__classdict__" : Str)) = false) :
    PE ((cxOf CXg X.prog X.w X.K X.mg X.base Ng qg sg g cdg X.A X.stack s H Eg).tr pn xe) (.Call (.Name a p1) [] [] p2) (fun σZ HZ Q => σZ[i]? = some (some (.ref f)) ∧ HZ d = some (CodeO d q) ∧ ∃ E : XK, (∀ cls x H', E cls x H' → W cls x σZ H') ∧ tb E σ HZ Q) := by
  subst hq
  refine ⟨fun pinsZ sZ σZ HZ Q IZ hall => ?_⟩
  have hs := hall.1
  have hco := hall.2.1
  obtain ⟨E, hW, htb⟩ := hall.2.2
  refine wpAny_Call_Name_kw (thn ((pe_var (pos := p1) (i := i) hN hv hd hcd).run pinsZ sZ σZ HZ (fun v H1 => v = .ref f ∧ H1 = HZ) IZ ⟨.ref f, hs, rfl, rfl⟩) fun u s1 hu => ?_)
  obtain ⟨v, H1, I1, r1, ev, eH⟩ := hu
  subst ev
  subst eH
  have eu : u = Value.ref f := r1
  subst eu
  have noX : ∀ b : Addr, b ∉ ((cxOf CXg X.prog X.w X.K X.mg X.base Ng qg sg g cdg X.A X.stack s H Eg).tr pn xe).ex := fun b w => absurd (show b ∈ ([] : List Addr) from w) List.not_mem_nil
  have of1 := I1.base.keep f _ hf hfn hfr (noX f)
  have dv1 : (is = [] ∧ dV = .none) ∨ is ≠ [] ∧ ∃ (t : Addr) (us : List Value), dV = .ref t ∧ s1.heap.get? t = some (PySem.W.kdv_tup us) ∧ Vals (is.map V.int) us := by
    rcases hdv with h1 | ⟨h0, t, us, h1, h2, h3, h4, h5⟩
    · exact .inl h1
    · exact .inr ⟨h0, t, us, h1, I1.base.keep t _ h2 h4 h5 (noX t), h3⟩
  obtain ⟨bs, hb1, hb2⟩ := hbind (X.env.qual ++ "<lambda>") (cloFrom X.env.cells scope.names []) doc pm ct dV d s1 dv1
  refine PySem.W.callWith_F0 ⟨_, _, _, _, of1⟩ ?_
  have un : Un (frs X.stack) [] H H1 s.heap s1.heap := I1.base
  obtain ⟨⟨oc, vs, t, hoc, hdc, hvc⟩, _, _⟩ := I1.hok d _ hco
  have rc : codeAny (model X.prog X.w) (X.A.deeper (envOfC qg sg s.heap.objs.size g cdg)) (.call (.ref f) ⟨[], []⟩) (CR (L2.CX X.prog X.w) (envOfC qg sg s.heap.objs.size g cdg :: X.stack) X.prog X.w H1 s1 Q E) s1 := by
    refine PySem.W.kla_callFunE hr.depth of1 rfl L.co L.gen rfl ⟨d, oc, vs, t, rfl, hoc, hdc, hvc⟩ (hb1 _ _ _ _ ?_)
    refine wpAny_newFunctionEnv L.cell hb2 (fun h₁ hns hsb => ⟨I1.nolimit.fresh _ hsb, ?_⟩) L.kind
    have kp : ∀ b o, s1.heap.get? b = some o → h₁.get? b = some o := fun b o e => hsb.extBut b o (Nat.ne_of_lt (Heap.lt_size e)) (Heap.get?_push_of_some _ e)
    have JB := lam_start (tk := s1.toks + bs.length) (E := E) (f := f) (d := d) J L I1.env0 hr.hd un hns kp
    refine PySem.W.kla_codeExpr (wpAny_mono ((hbody _ _ s1 H1 _ (hr.deeper _)).run [] _ _ H1 Q JB htb) (fun v s' hv' => ?_) fun e s' hv' => hv')
    obtain ⟨w', H', J', rv, qq⟩ := hv'
    exact ⟨w', H', J'.os, J'.bare, J'.base, J'.hok, rv, qq⟩
  refine wpAny_call (codeAny_mono rc fun r s' hr' => ?_)
  match r, hr' with
  | .error e, hr' => exact tk e s' (XE.of_call I1 hW hr')
  | .ok (.ret u), hr' => exact I1.after hr'
/-- the def that calls what it got; what is raised is met at the slots as they stand -/
def GivesD (X : Cx) (Ng : List Str) (x : Str) (sg : Scope) (g : Addr) (cdg : Value) (bg : List Stmt) (a : Str) (q : Str) (TT : (XK → Hp → VK → Prop) → Hp → VK → Prop) : Prop :=
  ∀ (f d : Addr) (s : Shared) (H : Hp) (Q : VK) (tl : XK → Hp → VK → Prop),
    (∀ (W : WX) (pn : List (Addr × Obj)) (xe : Value → Shared → Prop) (p1 p2 : Pos), Takes ((cxOf C8.CX0 X.prog X.w X.K X.mg X.base Ng x sg g cdg X.A X.stack s H C8.E0).tr pn xe) W →
      PE ((cxOf C8.CX0 X.prog X.w X.K X.mg X.base Ng x sg g cdg X.A X.stack s H C8.E0).tr pn xe) (.Call (.Name a p1) [] [] p2) (fun σZ HZ Q => σZ[0]? = some (some (.ref f)) ∧ HZ d = some (CodeO d q) ∧ ∃ E : XK, (∀ cls x H', E cls x H' → W cls x σZ H') ∧ tl E HZ Q)) →
    H d = some (CodeO d q) → TT tl H Q → ∃ t, PSs (cxOf C8.CX0 X.prog X.w X.K X.mg X.base Ng x sg g cdg X.A X.stack s H C8.E0).nox bg t ∧ t { nx := fun _ H' => Q .non H', rt := Q } (L2.start Ng [.ref f]) H
/-- x(lambda ..: body) -/
def tLamD (P : Addr) (q : Str) (TT : (XK → Hp → VK → Prop) → Hp → VK → Prop) (t : XK → TE) : TE := fun σ H Q => TabS H P q ∧ ∀ H1, LamTo P q H H1 → TT (fun E H' Q' => t E σ H' Q') H1 Q
end
section
variable {X : Cx}
theorem pe_lamD {P c g : Addr} {q x a : Str} {TT : (XK → Hp → VK → Prop) → Hp → VK → Prop} {k : Nat} {pg : Arguments} {bg : List Stmt} {sg : Scope} {gV kV doc pm cdv ct oc : Value} {an od : Option Addr} {osl : Array (Option Value)} {Ng : List Str}
    {params : Arguments} {body : Expr} {scope : Scope} {is : List Int} {t : XK → TE} {p lpos pos : Pos} (hg : Gl X x) (hm : X.mg x = some (.ref g)) (hk : PySem.W.keepIn X.K (.ref g) = true)
    (lk : X.K.lookup g = some ⟨oc, od, .func (PySem.W.fnOf x x pg bg sg gV kV doc pm an cdv ct), osl⟩) (hcg : PySem.W.codeIn X.K cdv x = true) (hb : L2.Binds X.K (PySem.W.fnOf x x pg bg sg gV kV doc pm an cdv ct) [a] []) (Sg : FnScope Ng [a] sg) (hNg : Ng[0]? = some a) (hva : Vis sg a)
    (hG : GivesD X Ng x sg g cdv bg a q TT) (B : TabB X.base X.mg c P) (hcode : X.env.code = .ref c) (hq : q = X.env.qual ++ "<lambda>") (hr : Room (k + 2) X.A) (L : LamN X.env.scope scope X.N) (hw : DefW params is) (hbind : BindsD params body scope is)
    (hbody : ∀ (A : Around) (outer : List Env) (s : Shared) (H : Hp) (E : XK) (f d : Addr), Room k (A.deeper (lamEnv X scope s.heap.objs.size f d)) → PE (lamCx X A outer s H E scope f d) body (t E))
    (hdb : (x == ("__debug__" : Str)) = false := by decide) (hd : (a == ("__debug__" : Str)) = false := by decide) (hcd : (a == ("__classdict__" : Str)) = false := by decide) :
    PE X (.Call (.Name x p) [.Lambda params body scope lpos] [] pos) (tLamD P q TT t) := by
  refine ⟨fun pins s σ H Q J hall => ?_⟩
  have hT := hall.1
  have hrest := hall.2
  refine wpAny_Call_Name_kw (ld_glob J hg hm ?_ hdb)
  refine PySem.W.callWith_K (h₀ := X.base) J.ok.mod.kin hk ?_ (by rfl) (by rfl)
  refine Calls.spliced_cons (lam_make J B hcode hq hT hw (L.has J.ok) fun f d dV doc' pm' ct' H1 z J1 hto hdv hf hfn hfr hco => ?_)
  refine Calls.spliced_nil ⟨J1.kIn, ?_⟩
  have rc : codeAny (model X.prog X.w) X.A (.call (.ref g) ⟨[.ref f], []⟩) (CR C8.CX0 X.stack X.prog X.w H1 z Q C8.E0) z := by
    refine run_ofS (N := Ng) (ps := [a]) (us := [.ref f]) (vs := [.ref f]) lk hcg Sg hr J1.env0 (hb z [.ref f] J1.kIn rfl) (.cons rfl .nil) rfl fun hr1 => ?_
    obtain ⟨t', ht', hq'⟩ := hG f d z H1 Q (fun E H' Q' => t E σ H' Q') (fun W pn xe p1 p2 tk => lam_act (tb := t) (i := 0) J1 L hq hf hfn hfr hdv hbind tk hr1 (fun A outer s H E hr2 => hbody A outer s H E f d hr2) hNg hva hd hcd) hco (hrest H1 hto)
    exact ⟨t', ht'.nox, hq'⟩
  refine wpAny_call (codeAny_mono rc fun r s2 hr' => ?_)
  match r, hr' with
  | .error e, hr' => exact (show False from hr').elim
  | .ok (.ret u), hr' => exact J1.after hr'
/-- no parameter -/
theorem binds_none {body : Expr} {scope : Scope} : BindsD ⟨[], [], none, [], [], none, []⟩ body scope [] := fun q cl doc pm ct dV d z h => by
  rcases h with ⟨_, rfl⟩ | ⟨h0, _⟩
  · exact ⟨[], BindsTo.of_eq rfl, fun y hy => by cases hy⟩
  · exact absurd rfl h0
/-- one parameter with a number -/
theorem binds_one {body : Expr} {scope : Scope} {p p2 : Pos} {i : Int} {j : Nat} (ha : scope.names.lookup ("_law_a" : Str) = some .local) : BindsD ⟨[], [⟨"_law_a", none, p⟩], none, [], [], none, [.Constant (.int i) j p2]⟩ body scope [i] := fun q cl doc pm ct dV d z h => by
  rcases h with ⟨h, _⟩ | ⟨_, t, us, rfl, h2, h3⟩
  · cases h
  · cases h3 with
    | cons hu hn =>
      cases hn
      refine ⟨[("_law_a", _)], BindsTo.of_defaults rfl h2 rfl rfl (by with_unfolding_all rfl), fun y hy => ?_⟩
      rw [List.mem_singleton] at hy
      rw [hy]
      exact ha
end
end LamY


set_option Elab.async false
set_option linter.all false
set_option maxRecDepth 100000
set_option maxHeartbeats 4000000
/-! Errors without arguments raised; isinstance of a caught error of any own class; xs.count(y); a def called that a name of the caller holds. -/
namespace LamY
open PySem PySem.Spec PyProof.Rows L2 LamX
section
variable {X : Cx} {C : Addr} {bmB : List Value} {B newId initId : String}
/-- X() -/
theorem pmk_ownN {x : Str} {p pos : Pos} (F : ExcBaseFacts B newId initId bmB) (q : PySem.W.excIn X.K C bmB newId = true) (gC : X.mg x = some (.ref C)) (kC : PySem.W.keepIn X.K (.ref C) = true) (r : Raises X (.ref C)) (hg : Gl X x)
    (hdb : (x == ("__debug__" : Str)) = false := by decide) : PMk X (.Call (.Name x p) [] [] pos) (fun _ H Q => Q (.ref C) none H) := fun pins s σ H Q J h => by
  refine wpAny_Call_Name_kw (ld_glob J hg gC (PySem.W.callWith_K0 J.kIn kC ?_) hdb)
  have hx := exc_obj J.kIn q
  obtain ⟨bm, N, nm, qn, bs, hdct, sn, sub, ab, col, dd, z0, z1, z2, z3, z5, mN, hC, hN, hni, T⟩ := hx
  exact wpAny_call_exc_subT F T hC hN hni (fun h' e hm => mk_of J hm r h (J.hok.gone hm.new)) (Nat.zero_le _)
end
/-! ### list.count of flat items -/
section
variable {X : Cx}
def rCountF (K : PySem.W.Frag) : V → List V → Hp → VK → Prop := fun x xs H Q => ∃ (a : Addr) (ys : List V) (y : V), x = V.ref a ∧ xs = [y] ∧ SqL K H a ys ∧ flatV y = true ∧ ys.all flatV = true ∧ Q (.int ((ys.countP fun z => eqV z y : Nat) : Int)) H
theorem count_flat {y : V} : ∀ {ys : List V} {us : List Value}, Vals ys us → ys.all flatV = true → us.countP (eqU y) = ys.countP fun z => eqV z y
  | _, _, .nil, _ => rfl
  | z :: ys, u :: us, .cons r t, f => by
    rw [List.all_cons, Bool.and_eq_true] at f
    have ih := count_flat (y := y) t f.2
    rw [List.countP_cons, List.countP_cons, ih, eqU_of r f.1]
theorem mt_countF : MtR X "list.count" (rCountF X.K) := by
  intro pins s σ H x xs v us Q J rx rxs h
  obtain ⟨a, ys, y, rfl, rfl, hs, fy, fys, q⟩ := h
  cases rx
  match us, rxs with
  | [uy], .cons ry .nil =>
    obtain ⟨its, rv, ⟨⟨cls, dd, data, sl⟩, n, ho, hc, hdn, hd⟩, hlen⟩ := J.list hs
    dsimp only at hc hd
    subst hc hd
    refine call_meets PySem.F.slot_list_count ⟨_, ho, rfl⟩ PySem.F.entry_list_count (PySem.F.args_list_count_2 _ _) (SeqAt.list_countAt a its.toArray n dd sl uy (eqU y)) ⟨ho, fun u hu => mem_eqAt ry fy rv fys u (by simpa using hu), ?_⟩
    have ec : its.toArray.toList.countP (eqU y) = ys.countP fun z => eqV z y := count_flat rv fys
    exact ⟨.int ((ys.countP fun z => eqV z y : Nat) : Int), H, J.tok _, ⟨s.toks, congrArg (fun m : Nat => Value.int (m : Int) s.toks) ec⟩, q⟩
end
theorem mt_countK {X : Cx} {K : PySem.W.Frag} (h : X.K = K) : MtR X "list.count" (rCountF K) := by
  subst h
  exact mt_countF
theorem mt_indexK {X : Cx} {K : PySem.W.Frag} (h : X.K = K) : MtR X "list.index" (rIndex K) := by
  subst h
  exact mt_index
/-! ### isinstance(e, c), e the error that the suite holds, whatever its class -/
section
variable {X : Cx}
def rIsEA (K : PySem.W.Frag) (a : Addr) (cls : Value) (d : Option Addr) : List V → Hp → VK → Prop := fun xs H Q => ∃ D : Addr, cls = .ref D ∧ d = none ∧ ExcC K D ∧ rIsE K D a xs H Q
theorem call_isEA {a : Addr} {oe : Obj} {cls : Value} {d : Option Addr} {pn : List (Addr × Obj)} (hz : Zc cls d oe) (hf : ∃ vs, oe.data = .fields vs) : CallR (X.suite a ((a, oe) :: pn)) (.builtin "isinstance") (rIsEA X.K a cls d) := fun pins s σ H xs us Q J r h => by
  obtain ⟨D, rfl, rfl, hE, hq⟩ := h
  exact call_isE (X := X) hE hz hf pins s σ H xs us Q J r hq
end
theorem call_isEK {X : Cx} {K : PySem.W.Frag} (h : X.K = K) {a : Addr} {oe : Obj} {cls : Value} {d : Option Addr} {pn : List (Addr × Obj)} (hz : Zc cls d oe) (hf : ∃ vs, oe.data = .fields vs) : CallR (X.suite a ((a, oe) :: pn)) (.builtin "isinstance") (rIsEA K a cls d) := by
  subst h
  exact call_isEA hz hf
/-- new lists -/
inductive NewLs (H : Hp) : Hp → Prop
  | refl : NewLs H H
  | step {H1 : Hp} {p : Addr} {xs : List V} : NewLs H H1 → H1 p = none → NewLs H (upd H1 p (.lst xs))
/-! ### f(e, ..), f a name of the caller -/
def tCallV (Cs : List (Addr × Sp)) (i : Nat) (E : XK) (t : TA) : TE := fun σ H Q => ∃ c ∈ Cs, σ[i]? = some (some (.ref c.1)) ∧ t σ H fun vs H1 => c.2 vs H1 Q E
section
variable {X : Cx} {CX : CXT} {k : Nat} {Cs : List (Addr × Sp)} {E : XK} {x : Str} {i : Nat} {p pos : Pos} {e : Expr} {es : List Expr} {t : TA}
/-- what is known of the defs that the name may hold -/
def FnTab (X : Cx) (CX : CXT) (k : Nat) (Cs : List (Addr × Sp)) : Prop := ∀ c ∈ Cs, ∃ (fd : FuncData) (ps : List Str), FnOk X.prog X.w X.K X.mg X.base CX k c.1 fd ps c.2 ∧ PySem.W.keepIn X.K (.ref c.1) = true ∧ Binds X.K fd ps []
theorem pe_callV (hC : FnTab X CX k Cs) (hr : Room k X.A) (hN : X.N[i]? = some x) (hv : Vis X.env.scope x) (hx : Passes CX X E) (ha : PA X (e :: es) t) (hdb : (x == ("__debug__" : Str)) = false := by decide) (hcd : (x == ("__classdict__" : Str)) = false := by decide)
    (he : starEach (e :: es) X.env = (false, eval e X.env) :: starEach es X.env := by rfl) (hpl : (backTo pos (starEach es X.env)).any (·.1) = false := by rfl) : PE X (.Call (.Name x p) (e :: es) [] pos) (tCallV Cs i E t) := ⟨fun pins s σ H Q J h => by
  obtain ⟨c, hc, hs, ht⟩ := h
  obtain ⟨fd, ps, F, hk, hb⟩ := hC c hc
  refine wpAny_Call_Name_kw (thn ((pe_var (pos := p) (i := i) hN hv hdb hcd).run pins s σ H (fun v H1 => v = .ref c.1 ∧ H1 = H) J ⟨.ref c.1, hs, rfl, rfl⟩) fun u s1 hu => ?_)
  obtain ⟨v, H1, J1, r1, ev, eH⟩ := hu
  subst ev
  subst eH
  have eu : u = Value.ref c.1 := r1
  subst eu
  refine PySem.W.callWith_K (h₀ := X.base) J1.ok.mod.kin hk (thn (ha.run pos pins s1 σ H1 _ J1 ht) fun us s2 hu2 => ?_) he hpl
  obtain ⟨vs, H2, J2, r2, q2⟩ := hu2
  exact ⟨J2.kIn, run_fn F hr hb .nil hx J2 r2 (by rw [List.append_nil]; exact q2)⟩⟩
end
/-! ### the lambda's call by what the top tells -/
theorem pe_lamF {X : Cx} {P c g : Addr} {q x a : Str} {TT : (XK → Hp → VK → Prop) → Hp → VK → Prop} {k : Nat} {st : Stmt} {fd : FuncData} {Ng : List Str} {params : Arguments} {body : Expr} {scope : Scope} {is : List Int} {t : XK → TE} {p lpos pos : Pos}
    (hg : Gl X x) (hm : X.mg x = some (.ref g)) (F : Fun X.K x x st g fd) (b : Binds X.K fd [a] []) (Sg : FnScope Ng [a] (defScope st)) (hNg : Ng[0]? = some a) (hva : Vis (defScope st) a) (hG : ∀ cdv, GivesD X Ng x (defScope st) g cdv (defBody st) a q TT)
    (B : TabB X.base X.mg c P) (hcode : X.env.code = .ref c) (hq : q = X.env.qual ++ "<lambda>") (hr : Room (k + 2) X.A) (L : LamN X.env.scope scope X.N) (hw : DefW params is) (hbind : BindsD params body scope is)
    (hbody : ∀ (A : Around) (outer : List Env) (s : Shared) (H : Hp) (E : XK) (f d : Addr), Room k (A.deeper (lamEnv X scope s.heap.objs.size f d)) → PE (lamCx X A outer s H E scope f d) body (t E))
    (hdb : (x == ("__debug__" : Str)) = false := by decide) (hd : (a == ("__debug__" : Str)) = false := by decide) (hcd : (a == ("__classdict__" : Str)) = false := by decide) :
    PE X (.Call (.Name x p) [.Lambda params body scope lpos] [] pos) (tLamD P q TT t) := by
  obtain ⟨oc, od, kV, doc, pm, an, cdv, ct, osl, rfl, lk, hcd'⟩ := F.ex
  exact pe_lamD hg hm F.kp lk hcd' b Sg hNg hva (hG cdv) B hcode hq hr L hw hbind hbody hdb hd hcd
/-- the law's table is one of those that stand empty -/
theorem tab_mem {K : PySem.W.Frag} {h : Heap} {ts : List Addr} (e : ((PySem.W.tabIn K "law").any fun p => ts.contains p.2) = true) (ht : ∀ P ∈ ts, h.get? P = some (PySem.W.tabObj #[])) (c P : Addr) (ep : PySem.W.tabIn K "law" = some (c, P)) : h.get? P = some { cls := .none, data := .fields #[] } := by
  rw [ep] at e
  have hm : ts.contains P = true := e
  exact ht P (by simpa using hm)
end LamY
namespace TG
open PySem PySem.Spec PyProof.Rows L2
/-- a def with its code object at c -/
structure FunC (K : PySem.W.Frag) (x qual : Str) (st : Stmt) (f : Addr) (fd : FuncData) (c : Addr) : Prop where
  ex : ∃ (oc : Value) (od : Option Addr) (kV doc pm : Value) (an : Option Addr) (ct : Value) (osl : Array (Option Value)),
    fd = PySem.W.fnOf x qual (defArgs st) (defBody st) (defScope st) .none kV doc pm an (.ref c) ct ∧ K.lookup f = some ⟨oc, od, .func fd, osl⟩ ∧ PySem.W.codeIn K (.ref c) qual = true
/-- as Fun.ok, the code object told -/
theorem FunC.ok {K : PySem.W.Frag} {mg : Str → Option Value} {base : Heap} {P : Program} {w : World} {x qual : Str} {st : Stmt} {f c : Addr} {fd : FuncData} {N ps : List Str} {k : Nat} {sp : Sp} (F : FunC K x qual st f fd c) (S : FnScope N ps (defScope st)) (len : ∀ vs H Q E, sp vs H Q E → vs.length = ps.length)
    (hbody : ∀ (A : Around) (outer : List Env) (s : Shared) (H : Hp) (vs : List V) (Q : VK) (E : XK), Room k (A.deeper (envOfC qual (defScope st) s.heap.objs.size f (.ref c))) → sp vs H Q E →
      ∃ t, PSs (cxOf CX0 P w K mg base N qual (defScope st) f (.ref c) A outer s H E).nox (defBody st) t ∧ t { nx := fun _ H' => Q .non H', rt := Q } (start N vs) H) : FnOk P w K mg base CX0 (k + 1) f fd ps sp := by
  obtain ⟨oc, od, kV, doc, pm, an, ct, osl, rfl, lk, hcd⟩ := F.ex
  refine fn_of lk hcd S len fun A outer s H vs Q E hr hsp => ?_
  obtain ⟨t, h, q⟩ := hbody A outer s H vs Q E hr hsp
  exact ⟨t, h.nox, q⟩
end TG
namespace L2
open PySem PySem.Spec PyProof.Rows
/-- a def that errors may leave -/
theorem Fun.okE {P : Program} {w : World} {K : PySem.W.Frag} {mg : Str → Option Value} {base : Heap} {x qual : Str} {st : Stmt} {f : Addr} {fd : FuncData} {N ps : List Str} {k : Nat} {sp : Sp} (F : Fun K x qual st f fd) (S : FnScope N ps (defScope st)) (hl : ∀ vs H Q E, sp vs H Q E → vs.length = ps.length)
    (body : ∀ (cdv : Value) (A : Around) (outer : List Env) (s : Shared) (H : Hp) (vs : List V) (Q : VK) (E : XK), Room k (A.deeper (envOfC qual (defScope st) s.heap.objs.size f cdv)) → sp vs H Q E → ∃ t, PSs (cxOf (L2.CX P w) P w K mg base N qual (defScope st) f cdv A outer s H E) (defBody st) t ∧ t { nx := fun _ H' => Q .non H', rt := Q } (start N vs) H) :
    FnOk P w K mg base (L2.CX P w) (k + 1) f fd ps sp := by
  have h := F.ex
  obtain ⟨oc, od, kV, doc, pm, an, cdv, ct, osl, rfl, lk, hcd⟩ := h
  exact fn_of lk hcd S hl fun A outer s H vs Q E hr => body cdv A outer s H vs Q E hr
end L2


set_option Elab.async false
set_option linter.all false
set_option maxRecDepth 100000
set_option maxHeartbeats 4000000
namespace K58
open PySem L2 TG
def top (i : Nat) : Stmt := PySem.Challenge.pw_thermogames_k58_heaps_refused.main.body.getD i (.Pass ⟨0, 0, 0, 0⟩)
abbrev s_is_int : Stmt := top 7
abbrev s_is_in : Stmt := top 8
abbrev s_need_number : Stmt := top 9
abbrev s_least_missing : Stmt := top 11
abbrev s_need_rule : Stmt := top 19
abbrev s_value_after : Stmt := top 20
abbrev s_values_to : Stmt := top 21
abbrev s_heap_values : Stmt := top 22
abbrev s_heap_options : Stmt := top 23
abbrev s_wins_heaps : Stmt := top 24
abbrev s_end_of : Stmt := top 25
abbrev s_shows_period : Stmt := top 26
abbrev s_period_of : Stmt := top 27
abbrev s_least_start : Stmt := top 28
abbrev s_product_of : Stmt := top 31
abbrev s_nim_times : Stmt := top 32
abbrev s_nim_inverse : Stmt := top 33
abbrev s_law_taken : Stmt := top 35
abbrev s_law_pick : Stmt := top 36
abbrev s_law_word : Stmt := top 37
abbrev s_law : Stmt := top 38
theorem sc_is_int : FnScope ["value"] ["value"] (defScope s_is_int) := ⟨rfl, rfl, rfl, by decide +kernel, rfl, by decide +kernel, by decide +kernel⟩
theorem sc_is_in : FnScope ["value", "least", "most"] ["value", "least", "most"] (defScope s_is_in) := ⟨rfl, rfl, rfl, by decide +kernel, rfl, by decide +kernel, by decide +kernel⟩
theorem sc_need_number : FnScope ["value", "least", "most"] ["value", "least", "most"] (defScope s_need_number) := ⟨rfl, rfl, rfl, by decide +kernel, rfl, by decide +kernel, by decide +kernel⟩
theorem sc_least_missing : FnScope ["numbers", "found"] ["numbers"] (defScope s_least_missing) := ⟨rfl, rfl, rfl, by decide +kernel, rfl, by decide +kernel, by decide +kernel⟩
theorem sc_need_rule : FnScope ["value", "digit"] ["value"] (defScope s_need_rule) := ⟨rfl, rfl, rfl, by decide +kernel, rfl, by decide +kernel, by decide +kernel⟩
theorem sc_value_after : FnScope ["rule", "found", "size", "told", "at", "digit", "rest", "part"] ["rule", "found"] (defScope s_value_after) := ⟨rfl, rfl, rfl, by decide +kernel, rfl, by decide +kernel, by decide +kernel⟩
theorem sc_values_to : FnScope ["rule", "count", "found"] ["rule", "count"] (defScope s_values_to) := ⟨rfl, rfl, rfl, by decide +kernel, rfl, by decide +kernel, by decide +kernel⟩
theorem sc_heap_values : FnScope ["rule", "count"] ["rule", "count"] (defScope s_heap_values) := ⟨rfl, rfl, rfl, by decide +kernel, rfl, by decide +kernel, by decide +kernel⟩
theorem sc_heap_options : FnScope ["rule", "size", "found", "at", "digit", "rest", "part"] ["rule", "size"] (defScope s_heap_options) := ⟨rfl, rfl, rfl, by decide +kernel, rfl, by decide +kernel, by decide +kernel⟩
theorem sc_wins_heaps : FnScope ["rule", "heaps", "values", "total", "size"] ["rule", "heaps"] (defScope s_wins_heaps) := ⟨rfl, rfl, rfl, by decide +kernel, rfl, by decide +kernel, by decide +kernel⟩
theorem sc_end_of : FnScope ["rule", "start", "length"] ["rule", "start", "length"] (defScope s_end_of) := ⟨rfl, rfl, rfl, by decide +kernel, rfl, by decide +kernel, by decide +kernel⟩
theorem sc_shows_period : FnScope ["rule", "period", "start", "length", "last", "values", "size"] ["rule", "period"] (defScope s_shows_period) := ⟨rfl, rfl, rfl, by decide +kernel, rfl, by decide +kernel, by decide +kernel⟩
theorem sc_period_of : FnScope ["rule", "values", "length", "found"] ["rule"] (defScope s_period_of) := ⟨rfl, rfl, rfl, by decide +kernel, rfl, by decide +kernel, by decide +kernel⟩
theorem sc_least_start : FnScope ["rule", "values", "length", "start", "size"] ["rule", "values", "length"] (defScope s_least_start) := ⟨rfl, rfl, rfl, by decide +kernel, rfl, by decide +kernel, by decide +kernel⟩
theorem sc_product_of : FnScope ["one", "other", "half", "scale", "high", "low", "more", "less", "below", "upper", "lower", "middle"] ["one", "other", "half"] (defScope s_product_of) := ⟨rfl, rfl, rfl, by decide +kernel, rfl, by decide +kernel, by decide +kernel⟩
theorem sc_nim_times : FnScope ["one", "other"] ["one", "other"] (defScope s_nim_times) := ⟨rfl, rfl, rfl, by decide +kernel, rfl, by decide +kernel, by decide +kernel⟩
theorem sc_nim_inverse : FnScope ["number", "found", "power", "turn"] ["number"] (defScope s_nim_inverse) := ⟨rfl, rfl, rfl, by decide +kernel, rfl, by decide +kernel, by decide +kernel⟩
theorem sc_law_taken : FnScope ["_law_row", "_law_many", "_law_found", "_law_cell"] ["_law_row", "_law_many"] (defScope s_law_taken) := ⟨rfl, rfl, rfl, by decide +kernel, rfl, by decide +kernel, by decide +kernel⟩
theorem sc_law_pick : FnScope ["_law_row", "_law_things"] ["_law_row", "_law_things"] (defScope s_law_pick) := ⟨rfl, rfl, rfl, by decide +kernel, rfl, by decide +kernel, by decide +kernel⟩
theorem sc_law_word : FnScope ["_law_work", "_law_found", "e", "_law_known"] ["_law_work"] (defScope s_law_word) := ⟨rfl, rfl, rfl, by decide +kernel, rfl, by decide +kernel, by decide +kernel⟩
theorem sc_law : FnScope ["_law_script", "_law_row", "_law_bad", "_law_work", "_law_wrong", "_law_words"] ["_law_script"] (defScope s_law) := ⟨rfl, rfl, rfl, by decide +kernel, rfl, by decide +kernel, by decide +kernel⟩
structure Txt (K : PySem.W.Frag) (mg : Str → Option Value) where
  a_is_int : Addr
  d_is_int : FuncData
  F_is_int : Fun K "is_int" "is_int" s_is_int a_is_int d_is_int
  b_is_int : Binds K d_is_int ["value"] []
  g_is_int : mg "is_int" = some (.ref a_is_int)
  a_is_in : Addr
  d_is_in : FuncData
  F_is_in : Fun K "is_in" "is_in" s_is_in a_is_in d_is_in
  b_is_in : Binds K d_is_in ["value", "least", "most"] []
  g_is_in : mg "is_in" = some (.ref a_is_in)
  a_need_number : Addr
  d_need_number : FuncData
  F_need_number : Fun K "need_number" "need_number" s_need_number a_need_number d_need_number
  b_need_number : Binds K d_need_number ["value", "least", "most"] []
  g_need_number : mg "need_number" = some (.ref a_need_number)
  a_least_missing : Addr
  d_least_missing : FuncData
  F_least_missing : Fun K "least_missing" "least_missing" s_least_missing a_least_missing d_least_missing
  b_least_missing : Binds K d_least_missing ["numbers"] []
  g_least_missing : mg "least_missing" = some (.ref a_least_missing)
  a_need_rule : Addr
  d_need_rule : FuncData
  F_need_rule : Fun K "need_rule" "need_rule" s_need_rule a_need_rule d_need_rule
  b_need_rule : Binds K d_need_rule ["value"] []
  g_need_rule : mg "need_rule" = some (.ref a_need_rule)
  a_value_after : Addr
  d_value_after : FuncData
  F_value_after : Fun K "value_after" "value_after" s_value_after a_value_after d_value_after
  b_value_after : Binds K d_value_after ["rule", "found"] []
  g_value_after : mg "value_after" = some (.ref a_value_after)
  a_values_to : Addr
  d_values_to : FuncData
  F_values_to : Fun K "values_to" "values_to" s_values_to a_values_to d_values_to
  b_values_to : Binds K d_values_to ["rule", "count"] []
  g_values_to : mg "values_to" = some (.ref a_values_to)
  a_heap_values : Addr
  d_heap_values : FuncData
  F_heap_values : Fun K "heap_values" "heap_values" s_heap_values a_heap_values d_heap_values
  b_heap_values : Binds K d_heap_values ["rule", "count"] []
  g_heap_values : mg "heap_values" = some (.ref a_heap_values)
  a_heap_options : Addr
  d_heap_options : FuncData
  F_heap_options : Fun K "heap_options" "heap_options" s_heap_options a_heap_options d_heap_options
  b_heap_options : Binds K d_heap_options ["rule", "size"] []
  g_heap_options : mg "heap_options" = some (.ref a_heap_options)
  a_wins_heaps : Addr
  d_wins_heaps : FuncData
  F_wins_heaps : Fun K "wins_heaps" "wins_heaps" s_wins_heaps a_wins_heaps d_wins_heaps
  b_wins_heaps : Binds K d_wins_heaps ["rule", "heaps"] []
  g_wins_heaps : mg "wins_heaps" = some (.ref a_wins_heaps)
  a_end_of : Addr
  d_end_of : FuncData
  F_end_of : Fun K "end_of" "end_of" s_end_of a_end_of d_end_of
  b_end_of : Binds K d_end_of ["rule", "start", "length"] []
  g_end_of : mg "end_of" = some (.ref a_end_of)
  a_shows_period : Addr
  d_shows_period : FuncData
  F_shows_period : Fun K "shows_period" "shows_period" s_shows_period a_shows_period d_shows_period
  b_shows_period : Binds K d_shows_period ["rule", "period"] []
  g_shows_period : mg "shows_period" = some (.ref a_shows_period)
  a_period_of : Addr
  d_period_of : FuncData
  F_period_of : Fun K "period_of" "period_of" s_period_of a_period_of d_period_of
  b_period_of : Binds K d_period_of ["rule"] []
  g_period_of : mg "period_of" = some (.ref a_period_of)
  a_least_start : Addr
  d_least_start : FuncData
  F_least_start : Fun K "least_start" "least_start" s_least_start a_least_start d_least_start
  b_least_start : Binds K d_least_start ["rule", "values", "length"] []
  g_least_start : mg "least_start" = some (.ref a_least_start)
  a_product_of : Addr
  d_product_of : FuncData
  F_product_of : Fun K "product_of" "product_of" s_product_of a_product_of d_product_of
  b_product_of : Binds K d_product_of ["one", "other", "half"] []
  g_product_of : mg "product_of" = some (.ref a_product_of)
  a_nim_times : Addr
  d_nim_times : FuncData
  F_nim_times : Fun K "nim_times" "nim_times" s_nim_times a_nim_times d_nim_times
  b_nim_times : Binds K d_nim_times ["one", "other"] []
  g_nim_times : mg "nim_times" = some (.ref a_nim_times)
  a_nim_inverse : Addr
  d_nim_inverse : FuncData
  F_nim_inverse : Fun K "nim_inverse" "nim_inverse" s_nim_inverse a_nim_inverse d_nim_inverse
  b_nim_inverse : Binds K d_nim_inverse ["number"] []
  g_nim_inverse : mg "nim_inverse" = some (.ref a_nim_inverse)
  a_law_taken : Addr
  d_law_taken : FuncData
  F_law_taken : Fun K "_law_taken" "_law_taken" s_law_taken a_law_taken d_law_taken
  b_law_taken : Binds K d_law_taken ["_law_row", "_law_many"] []
  g_law_taken : mg "_law_taken" = some (.ref a_law_taken)
  a_law_pick : Addr
  d_law_pick : FuncData
  F_law_pick : Fun K "_law_pick" "_law_pick" s_law_pick a_law_pick d_law_pick
  b_law_pick : Binds K d_law_pick ["_law_row", "_law_things"] []
  g_law_pick : mg "_law_pick" = some (.ref a_law_pick)
  a_law_word : Addr
  d_law_word : FuncData
  F_law_word : Fun K "_law_word" "_law_word" s_law_word a_law_word d_law_word
  b_law_word : Binds K d_law_word ["_law_work"] []
  g_law_word : mg "_law_word" = some (.ref a_law_word)
  a_law : Addr
  d_law : FuncData
  F_law : Fun K "law" "law" s_law a_law d_law
  b_law : Binds K d_law ["_law_script"] []
  g_law : mg "law" = some (.ref a_law)
  C_PlayError : Addr
  gx_PlayError : mg "PlayError" = some (.ref C_PlayError)
  xi_PlayError : PySem.W.excIn K C_PlayError [.type "ValueError", .type "Exception", .type "BaseException", .type "object"] "ValueError.__new__" = true
  kx_PlayError : PySem.W.keepIn K (.ref C_PlayError) = true
  bx_PlayError : PySem.W.subIn K (.ref C_PlayError) (.type "BaseException") = some true
  tx_PlayError : PySem.W.typeIn K (.ref C_PlayError) = some (.type "type")
  ec_PlayError : L2.ExcC K C_PlayError
  C_BadNumber : Addr
  gx_BadNumber : mg "BadNumber" = some (.ref C_BadNumber)
  xi_BadNumber : PySem.W.excIn K C_BadNumber [.type "ValueError", .type "Exception", .type "BaseException", .type "object"] "ValueError.__new__" = true
  kx_BadNumber : PySem.W.keepIn K (.ref C_BadNumber) = true
  bx_BadNumber : PySem.W.subIn K (.ref C_BadNumber) (.type "BaseException") = some true
  tx_BadNumber : PySem.W.typeIn K (.ref C_BadNumber) = some (.type "type")
  ec_BadNumber : L2.ExcC K C_BadNumber
  C_BadNumbers : Addr
  gx_BadNumbers : mg "BadNumbers" = some (.ref C_BadNumbers)
  xi_BadNumbers : PySem.W.excIn K C_BadNumbers [.type "ValueError", .type "Exception", .type "BaseException", .type "object"] "ValueError.__new__" = true
  kx_BadNumbers : PySem.W.keepIn K (.ref C_BadNumbers) = true
  bx_BadNumbers : PySem.W.subIn K (.ref C_BadNumbers) (.type "BaseException") = some true
  tx_BadNumbers : PySem.W.typeIn K (.ref C_BadNumbers) = some (.type "type")
  ec_BadNumbers : L2.ExcC K C_BadNumbers
  C_BadRule : Addr
  gx_BadRule : mg "BadRule" = some (.ref C_BadRule)
  xi_BadRule : PySem.W.excIn K C_BadRule [.type "ValueError", .type "Exception", .type "BaseException", .type "object"] "ValueError.__new__" = true
  kx_BadRule : PySem.W.keepIn K (.ref C_BadRule) = true
  bx_BadRule : PySem.W.subIn K (.ref C_BadRule) (.type "BaseException") = some true
  tx_BadRule : PySem.W.typeIn K (.ref C_BadRule) = some (.type "type")
  ec_BadRule : L2.ExcC K C_BadRule
  C_BadPeriod : Addr
  gx_BadPeriod : mg "BadPeriod" = some (.ref C_BadPeriod)
  xi_BadPeriod : PySem.W.excIn K C_BadPeriod [.type "ValueError", .type "Exception", .type "BaseException", .type "object"] "ValueError.__new__" = true
  kx_BadPeriod : PySem.W.keepIn K (.ref C_BadPeriod) = true
  bx_BadPeriod : PySem.W.subIn K (.ref C_BadPeriod) (.type "BaseException") = some true
  tx_BadPeriod : PySem.W.typeIn K (.ref C_BadPeriod) = some (.type "type")
  ec_BadPeriod : L2.ExcC K C_BadPeriod
  ki_PlayError_PlayError : PySem.W.kitOne K (.ref C_PlayError) (.ref C_PlayError) = some true
  ki_PlayError_BadNumber : PySem.W.kitOne K (.ref C_PlayError) (.ref C_BadNumber) = some false
  ki_PlayError_BadNumbers : PySem.W.kitOne K (.ref C_PlayError) (.ref C_BadNumbers) = some false
  ki_PlayError_BadRule : PySem.W.kitOne K (.ref C_PlayError) (.ref C_BadRule) = some false
  ki_PlayError_BadPeriod : PySem.W.kitOne K (.ref C_PlayError) (.ref C_BadPeriod) = some false
  em_PlayError : PySem.W.exmOne K (.ref C_PlayError) (.ref C_PlayError) = some true
  ki_BadNumber_PlayError : PySem.W.kitOne K (.ref C_BadNumber) (.ref C_PlayError) = some true
  ki_BadNumber_BadNumber : PySem.W.kitOne K (.ref C_BadNumber) (.ref C_BadNumber) = some true
  ki_BadNumber_BadNumbers : PySem.W.kitOne K (.ref C_BadNumber) (.ref C_BadNumbers) = some false
  ki_BadNumber_BadRule : PySem.W.kitOne K (.ref C_BadNumber) (.ref C_BadRule) = some false
  ki_BadNumber_BadPeriod : PySem.W.kitOne K (.ref C_BadNumber) (.ref C_BadPeriod) = some false
  em_BadNumber : PySem.W.exmOne K (.ref C_BadNumber) (.ref C_PlayError) = some true
  ki_BadNumbers_PlayError : PySem.W.kitOne K (.ref C_BadNumbers) (.ref C_PlayError) = some true
  ki_BadNumbers_BadNumber : PySem.W.kitOne K (.ref C_BadNumbers) (.ref C_BadNumber) = some false
  ki_BadNumbers_BadNumbers : PySem.W.kitOne K (.ref C_BadNumbers) (.ref C_BadNumbers) = some true
  ki_BadNumbers_BadRule : PySem.W.kitOne K (.ref C_BadNumbers) (.ref C_BadRule) = some false
  ki_BadNumbers_BadPeriod : PySem.W.kitOne K (.ref C_BadNumbers) (.ref C_BadPeriod) = some false
  em_BadNumbers : PySem.W.exmOne K (.ref C_BadNumbers) (.ref C_PlayError) = some true
  ki_BadRule_PlayError : PySem.W.kitOne K (.ref C_BadRule) (.ref C_PlayError) = some true
  ki_BadRule_BadNumber : PySem.W.kitOne K (.ref C_BadRule) (.ref C_BadNumber) = some false
  ki_BadRule_BadNumbers : PySem.W.kitOne K (.ref C_BadRule) (.ref C_BadNumbers) = some false
  ki_BadRule_BadRule : PySem.W.kitOne K (.ref C_BadRule) (.ref C_BadRule) = some true
  ki_BadRule_BadPeriod : PySem.W.kitOne K (.ref C_BadRule) (.ref C_BadPeriod) = some false
  em_BadRule : PySem.W.exmOne K (.ref C_BadRule) (.ref C_PlayError) = some true
  ki_BadPeriod_PlayError : PySem.W.kitOne K (.ref C_BadPeriod) (.ref C_PlayError) = some true
  ki_BadPeriod_BadNumber : PySem.W.kitOne K (.ref C_BadPeriod) (.ref C_BadNumber) = some false
  ki_BadPeriod_BadNumbers : PySem.W.kitOne K (.ref C_BadPeriod) (.ref C_BadNumbers) = some false
  ki_BadPeriod_BadRule : PySem.W.kitOne K (.ref C_BadPeriod) (.ref C_BadRule) = some false
  ki_BadPeriod_BadPeriod : PySem.W.kitOne K (.ref C_BadPeriod) (.ref C_BadPeriod) = some true
  em_BadPeriod : PySem.W.exmOne K (.ref C_BadPeriod) (.ref C_PlayError) = some true
  cc_law : Addr
  cP_law : Addr
  fc_law : TG.FunC K "law" "law" s_law a_law d_law cc_law
  tb_law : PySem.W.tabIn K "law" = some (cc_law, cP_law)
  ch_law : PySem.W.codeHdIn K cc_law cP_law = true
  nP_law : K.lookup cP_law = none
  B_law : ∀ (s : Shared) (v : Value), BindsTo s d_law ⟨[v], []⟩ [("_law_script", v)]
  t_MOST_DIGITS : Tok
  c_MOST_DIGITS : mg "MOST_DIGITS" = some (Value.int 6 t_MOST_DIGITS)
  t_MOST_COUNT : Tok
  c_MOST_COUNT : mg "MOST_COUNT" = some (Value.int 400 t_MOST_COUNT)
  t_MOST_OPTIONS : Tok
  c_MOST_OPTIONS : mg "MOST_OPTIONS" = some (Value.int 60 t_MOST_OPTIONS)
  t_MOST_HEAPS : Tok
  c_MOST_HEAPS : mg "MOST_HEAPS" = some (Value.int 8 t_MOST_HEAPS)
  t_MOST_START : Tok
  c_MOST_START : mg "MOST_START" = some (Value.int 200 t_MOST_START)
  t_MOST_LENGTH : Tok
  c_MOST_LENGTH : mg "MOST_LENGTH" = some (Value.int 100 t_MOST_LENGTH)
  t_MOST_NUMBER : Tok
  c_MOST_NUMBER : mg "MOST_NUMBER" = some (Value.int 65535 t_MOST_NUMBER)
  m_len : mg "len" = none
  m_range : mg "range" = none
  m_int : mg "int" = none
  m_bool : mg "bool" = none
  m_tuple : mg "tuple" = none
  m_isinstance : mg "isinstance" = none
  m_enumerate : mg "enumerate" = none
  m_max : mg "max" = none
  m_all : mg "all" = none
  m_sorted : mg "sorted" = none
theorem txt_mk {K : PySem.W.Frag} {h : Heap} {mg : Str → Option Value} (X : K.In h) (G : h.Ns mainGlobals mg)
    {f0 : Addr} {od0 an0 : Option Addr} {sl0 : Array (Option Value)} {oc0 kV0 dc0 pm0 cd0 ct0 : Value}
    {f1 : Addr} {od1 an1 : Option Addr} {sl1 : Array (Option Value)} {oc1 kV1 dc1 pm1 cd1 ct1 : Value}
    {f2 : Addr} {od2 an2 : Option Addr} {sl2 : Array (Option Value)} {oc2 kV2 dc2 pm2 cd2 ct2 : Value}
    {f3 : Addr} {od3 an3 : Option Addr} {sl3 : Array (Option Value)} {oc3 kV3 dc3 pm3 cd3 ct3 : Value}
    {f4 : Addr} {od4 an4 : Option Addr} {sl4 : Array (Option Value)} {oc4 kV4 dc4 pm4 cd4 ct4 : Value}
    {f5 : Addr} {od5 an5 : Option Addr} {sl5 : Array (Option Value)} {oc5 kV5 dc5 pm5 cd5 ct5 : Value}
    {f6 : Addr} {od6 an6 : Option Addr} {sl6 : Array (Option Value)} {oc6 kV6 dc6 pm6 cd6 ct6 : Value}
    {f7 : Addr} {od7 an7 : Option Addr} {sl7 : Array (Option Value)} {oc7 kV7 dc7 pm7 cd7 ct7 : Value}
    {f8 : Addr} {od8 an8 : Option Addr} {sl8 : Array (Option Value)} {oc8 kV8 dc8 pm8 cd8 ct8 : Value}
    {f9 : Addr} {od9 an9 : Option Addr} {sl9 : Array (Option Value)} {oc9 kV9 dc9 pm9 cd9 ct9 : Value}
    {f10 : Addr} {od10 an10 : Option Addr} {sl10 : Array (Option Value)} {oc10 kV10 dc10 pm10 cd10 ct10 : Value}
    {f11 : Addr} {od11 an11 : Option Addr} {sl11 : Array (Option Value)} {oc11 kV11 dc11 pm11 cd11 ct11 : Value}
    {f12 : Addr} {od12 an12 : Option Addr} {sl12 : Array (Option Value)} {oc12 kV12 dc12 pm12 cd12 ct12 : Value}
    {f13 : Addr} {od13 an13 : Option Addr} {sl13 : Array (Option Value)} {oc13 kV13 dc13 pm13 cd13 ct13 : Value}
    {f14 : Addr} {od14 an14 : Option Addr} {sl14 : Array (Option Value)} {oc14 kV14 dc14 pm14 cd14 ct14 : Value}
    {f15 : Addr} {od15 an15 : Option Addr} {sl15 : Array (Option Value)} {oc15 kV15 dc15 pm15 cd15 ct15 : Value}
    {f16 : Addr} {od16 an16 : Option Addr} {sl16 : Array (Option Value)} {oc16 kV16 dc16 pm16 cd16 ct16 : Value}
    {f17 : Addr} {od17 an17 : Option Addr} {sl17 : Array (Option Value)} {oc17 kV17 dc17 pm17 cd17 ct17 : Value}
    {f18 : Addr} {od18 an18 : Option Addr} {sl18 : Array (Option Value)} {oc18 kV18 dc18 pm18 cd18 ct18 : Value}
    {f19 : Addr} {od19 an19 : Option Addr} {sl19 : Array (Option Value)} {oc19 kV19 dc19 pm19 cd19 ct19 : Value}
    {ccL cPL : Addr}
    {f20 : Addr} {od20 an20 : Option Addr} {sl20 : Array (Option Value)} {oc20 kV20 dc20 pm20 ct20 : Value}
    {E0 : Addr}
    {E1 : Addr}
    {E2 : Addr}
    {E3 : Addr}
    {E4 : Addr}
    {tk0 : Tok}
    {tk1 : Tok}
    {tk2 : Tok}
    {tk3 : Tok}
    {tk4 : Tok}
    {tk5 : Tok}
    {tk6 : Tok}
    (a0 : PySem.W.nsIn K mainGlobals "is_int" = some (some (.ref f0))) (l0 : K.lookup f0 = some ⟨oc0, od0, .func (PySem.W.fnOf "is_int" "is_int" (defArgs s_is_int) (defBody s_is_int) (defScope s_is_int) .none kV0 dc0 pm0 an0 cd0 ct0), sl0⟩) (c0 : PySem.W.codeIn K cd0 "is_int" = true) (k0 : PySem.W.keepIn K (.ref f0) = true)
    (a1 : PySem.W.nsIn K mainGlobals "is_in" = some (some (.ref f1))) (l1 : K.lookup f1 = some ⟨oc1, od1, .func (PySem.W.fnOf "is_in" "is_in" (defArgs s_is_in) (defBody s_is_in) (defScope s_is_in) .none kV1 dc1 pm1 an1 cd1 ct1), sl1⟩) (c1 : PySem.W.codeIn K cd1 "is_in" = true) (k1 : PySem.W.keepIn K (.ref f1) = true)
    (a2 : PySem.W.nsIn K mainGlobals "need_number" = some (some (.ref f2))) (l2 : K.lookup f2 = some ⟨oc2, od2, .func (PySem.W.fnOf "need_number" "need_number" (defArgs s_need_number) (defBody s_need_number) (defScope s_need_number) .none kV2 dc2 pm2 an2 cd2 ct2), sl2⟩) (c2 : PySem.W.codeIn K cd2 "need_number" = true) (k2 : PySem.W.keepIn K (.ref f2) = true)
    (a3 : PySem.W.nsIn K mainGlobals "least_missing" = some (some (.ref f3))) (l3 : K.lookup f3 = some ⟨oc3, od3, .func (PySem.W.fnOf "least_missing" "least_missing" (defArgs s_least_missing) (defBody s_least_missing) (defScope s_least_missing) .none kV3 dc3 pm3 an3 cd3 ct3), sl3⟩) (c3 : PySem.W.codeIn K cd3 "least_missing" = true) (k3 : PySem.W.keepIn K (.ref f3) = true)
    (a4 : PySem.W.nsIn K mainGlobals "need_rule" = some (some (.ref f4))) (l4 : K.lookup f4 = some ⟨oc4, od4, .func (PySem.W.fnOf "need_rule" "need_rule" (defArgs s_need_rule) (defBody s_need_rule) (defScope s_need_rule) .none kV4 dc4 pm4 an4 cd4 ct4), sl4⟩) (c4 : PySem.W.codeIn K cd4 "need_rule" = true) (k4 : PySem.W.keepIn K (.ref f4) = true)
    (a5 : PySem.W.nsIn K mainGlobals "value_after" = some (some (.ref f5))) (l5 : K.lookup f5 = some ⟨oc5, od5, .func (PySem.W.fnOf "value_after" "value_after" (defArgs s_value_after) (defBody s_value_after) (defScope s_value_after) .none kV5 dc5 pm5 an5 cd5 ct5), sl5⟩) (c5 : PySem.W.codeIn K cd5 "value_after" = true) (k5 : PySem.W.keepIn K (.ref f5) = true)
    (a6 : PySem.W.nsIn K mainGlobals "values_to" = some (some (.ref f6))) (l6 : K.lookup f6 = some ⟨oc6, od6, .func (PySem.W.fnOf "values_to" "values_to" (defArgs s_values_to) (defBody s_values_to) (defScope s_values_to) .none kV6 dc6 pm6 an6 cd6 ct6), sl6⟩) (c6 : PySem.W.codeIn K cd6 "values_to" = true) (k6 : PySem.W.keepIn K (.ref f6) = true)
    (a7 : PySem.W.nsIn K mainGlobals "heap_values" = some (some (.ref f7))) (l7 : K.lookup f7 = some ⟨oc7, od7, .func (PySem.W.fnOf "heap_values" "heap_values" (defArgs s_heap_values) (defBody s_heap_values) (defScope s_heap_values) .none kV7 dc7 pm7 an7 cd7 ct7), sl7⟩) (c7 : PySem.W.codeIn K cd7 "heap_values" = true) (k7 : PySem.W.keepIn K (.ref f7) = true)
    (a8 : PySem.W.nsIn K mainGlobals "heap_options" = some (some (.ref f8))) (l8 : K.lookup f8 = some ⟨oc8, od8, .func (PySem.W.fnOf "heap_options" "heap_options" (defArgs s_heap_options) (defBody s_heap_options) (defScope s_heap_options) .none kV8 dc8 pm8 an8 cd8 ct8), sl8⟩) (c8 : PySem.W.codeIn K cd8 "heap_options" = true) (k8 : PySem.W.keepIn K (.ref f8) = true)
    (a9 : PySem.W.nsIn K mainGlobals "wins_heaps" = some (some (.ref f9))) (l9 : K.lookup f9 = some ⟨oc9, od9, .func (PySem.W.fnOf "wins_heaps" "wins_heaps" (defArgs s_wins_heaps) (defBody s_wins_heaps) (defScope s_wins_heaps) .none kV9 dc9 pm9 an9 cd9 ct9), sl9⟩) (c9 : PySem.W.codeIn K cd9 "wins_heaps" = true) (k9 : PySem.W.keepIn K (.ref f9) = true)
    (a10 : PySem.W.nsIn K mainGlobals "end_of" = some (some (.ref f10))) (l10 : K.lookup f10 = some ⟨oc10, od10, .func (PySem.W.fnOf "end_of" "end_of" (defArgs s_end_of) (defBody s_end_of) (defScope s_end_of) .none kV10 dc10 pm10 an10 cd10 ct10), sl10⟩) (c10 : PySem.W.codeIn K cd10 "end_of" = true) (k10 : PySem.W.keepIn K (.ref f10) = true)
    (a11 : PySem.W.nsIn K mainGlobals "shows_period" = some (some (.ref f11))) (l11 : K.lookup f11 = some ⟨oc11, od11, .func (PySem.W.fnOf "shows_period" "shows_period" (defArgs s_shows_period) (defBody s_shows_period) (defScope s_shows_period) .none kV11 dc11 pm11 an11 cd11 ct11), sl11⟩) (c11 : PySem.W.codeIn K cd11 "shows_period" = true) (k11 : PySem.W.keepIn K (.ref f11) = true)
    (a12 : PySem.W.nsIn K mainGlobals "period_of" = some (some (.ref f12))) (l12 : K.lookup f12 = some ⟨oc12, od12, .func (PySem.W.fnOf "period_of" "period_of" (defArgs s_period_of) (defBody s_period_of) (defScope s_period_of) .none kV12 dc12 pm12 an12 cd12 ct12), sl12⟩) (c12 : PySem.W.codeIn K cd12 "period_of" = true) (k12 : PySem.W.keepIn K (.ref f12) = true)
    (a13 : PySem.W.nsIn K mainGlobals "least_start" = some (some (.ref f13))) (l13 : K.lookup f13 = some ⟨oc13, od13, .func (PySem.W.fnOf "least_start" "least_start" (defArgs s_least_start) (defBody s_least_start) (defScope s_least_start) .none kV13 dc13 pm13 an13 cd13 ct13), sl13⟩) (c13 : PySem.W.codeIn K cd13 "least_start" = true) (k13 : PySem.W.keepIn K (.ref f13) = true)
    (a14 : PySem.W.nsIn K mainGlobals "product_of" = some (some (.ref f14))) (l14 : K.lookup f14 = some ⟨oc14, od14, .func (PySem.W.fnOf "product_of" "product_of" (defArgs s_product_of) (defBody s_product_of) (defScope s_product_of) .none kV14 dc14 pm14 an14 cd14 ct14), sl14⟩) (c14 : PySem.W.codeIn K cd14 "product_of" = true) (k14 : PySem.W.keepIn K (.ref f14) = true)
    (a15 : PySem.W.nsIn K mainGlobals "nim_times" = some (some (.ref f15))) (l15 : K.lookup f15 = some ⟨oc15, od15, .func (PySem.W.fnOf "nim_times" "nim_times" (defArgs s_nim_times) (defBody s_nim_times) (defScope s_nim_times) .none kV15 dc15 pm15 an15 cd15 ct15), sl15⟩) (c15 : PySem.W.codeIn K cd15 "nim_times" = true) (k15 : PySem.W.keepIn K (.ref f15) = true)
    (a16 : PySem.W.nsIn K mainGlobals "nim_inverse" = some (some (.ref f16))) (l16 : K.lookup f16 = some ⟨oc16, od16, .func (PySem.W.fnOf "nim_inverse" "nim_inverse" (defArgs s_nim_inverse) (defBody s_nim_inverse) (defScope s_nim_inverse) .none kV16 dc16 pm16 an16 cd16 ct16), sl16⟩) (c16 : PySem.W.codeIn K cd16 "nim_inverse" = true) (k16 : PySem.W.keepIn K (.ref f16) = true)
    (a17 : PySem.W.nsIn K mainGlobals "_law_taken" = some (some (.ref f17))) (l17 : K.lookup f17 = some ⟨oc17, od17, .func (PySem.W.fnOf "_law_taken" "_law_taken" (defArgs s_law_taken) (defBody s_law_taken) (defScope s_law_taken) .none kV17 dc17 pm17 an17 cd17 ct17), sl17⟩) (c17 : PySem.W.codeIn K cd17 "_law_taken" = true) (k17 : PySem.W.keepIn K (.ref f17) = true)
    (a18 : PySem.W.nsIn K mainGlobals "_law_pick" = some (some (.ref f18))) (l18 : K.lookup f18 = some ⟨oc18, od18, .func (PySem.W.fnOf "_law_pick" "_law_pick" (defArgs s_law_pick) (defBody s_law_pick) (defScope s_law_pick) .none kV18 dc18 pm18 an18 cd18 ct18), sl18⟩) (c18 : PySem.W.codeIn K cd18 "_law_pick" = true) (k18 : PySem.W.keepIn K (.ref f18) = true)
    (a19 : PySem.W.nsIn K mainGlobals "_law_word" = some (some (.ref f19))) (l19 : K.lookup f19 = some ⟨oc19, od19, .func (PySem.W.fnOf "_law_word" "_law_word" (defArgs s_law_word) (defBody s_law_word) (defScope s_law_word) .none kV19 dc19 pm19 an19 cd19 ct19), sl19⟩) (c19 : PySem.W.codeIn K cd19 "_law_word" = true) (k19 : PySem.W.keepIn K (.ref f19) = true)
    (a20 : PySem.W.nsIn K mainGlobals "law" = some (some (.ref f20))) (l20 : K.lookup f20 = some ⟨oc20, od20, .func (PySem.W.fnOf "law" "law" (defArgs s_law) (defBody s_law) (defScope s_law) .none kV20 dc20 pm20 an20 (Value.ref ccL) ct20), sl20⟩) (c20 : PySem.W.codeIn K (Value.ref ccL) "law" = true) (k20 : PySem.W.keepIn K (.ref f20) = true)
    (xe0a : PySem.W.nsIn K mainGlobals "PlayError" = some (some (.ref E0)))
    (xe0b : PySem.W.excIn K E0 [.type "ValueError", .type "Exception", .type "BaseException", .type "object"] "ValueError.__new__" = true)
    (xe0c : PySem.W.keepIn K (.ref E0) = true)
    (xe0d : PySem.W.subIn K (.ref E0) (.type "BaseException") = some true)
    (xe0e : PySem.W.typeIn K (.ref E0) = some (.type "type"))
    (xe0f : PySem.W.findIn K (.ref E0) "__getattribute__" = some (some (.builtin "BaseException.__getattribute__")))
    (xe0g : PySem.W.findIn K (.ref E0) "__getattr__" = some none)
    (xe0h : PySem.W.hasDictIn K E0 = true)
    (xe0i : PySem.W.findIn K (.ref E0) "__class__" = some (some (.builtin "object.__class__")))
    (xe0j : PySem.W.specialIn K (.builtin "object.__class__") "__get__" = some (some (.builtin "getset_descriptor.__get__")))
    (xe0k : PySem.W.takesIn K (.builtin "object.__class__") = some true)
    (xe0l : PySem.W.mroIn K E0 (.type "object") = some true)
    (xe1a : PySem.W.nsIn K mainGlobals "BadNumber" = some (some (.ref E1)))
    (xe1b : PySem.W.excIn K E1 [.type "ValueError", .type "Exception", .type "BaseException", .type "object"] "ValueError.__new__" = true)
    (xe1c : PySem.W.keepIn K (.ref E1) = true)
    (xe1d : PySem.W.subIn K (.ref E1) (.type "BaseException") = some true)
    (xe1e : PySem.W.typeIn K (.ref E1) = some (.type "type"))
    (xe1f : PySem.W.findIn K (.ref E1) "__getattribute__" = some (some (.builtin "BaseException.__getattribute__")))
    (xe1g : PySem.W.findIn K (.ref E1) "__getattr__" = some none)
    (xe1h : PySem.W.hasDictIn K E1 = true)
    (xe1i : PySem.W.findIn K (.ref E1) "__class__" = some (some (.builtin "object.__class__")))
    (xe1j : PySem.W.specialIn K (.builtin "object.__class__") "__get__" = some (some (.builtin "getset_descriptor.__get__")))
    (xe1k : PySem.W.takesIn K (.builtin "object.__class__") = some true)
    (xe1l : PySem.W.mroIn K E1 (.type "object") = some true)
    (xe2a : PySem.W.nsIn K mainGlobals "BadNumbers" = some (some (.ref E2)))
    (xe2b : PySem.W.excIn K E2 [.type "ValueError", .type "Exception", .type "BaseException", .type "object"] "ValueError.__new__" = true)
    (xe2c : PySem.W.keepIn K (.ref E2) = true)
    (xe2d : PySem.W.subIn K (.ref E2) (.type "BaseException") = some true)
    (xe2e : PySem.W.typeIn K (.ref E2) = some (.type "type"))
    (xe2f : PySem.W.findIn K (.ref E2) "__getattribute__" = some (some (.builtin "BaseException.__getattribute__")))
    (xe2g : PySem.W.findIn K (.ref E2) "__getattr__" = some none)
    (xe2h : PySem.W.hasDictIn K E2 = true)
    (xe2i : PySem.W.findIn K (.ref E2) "__class__" = some (some (.builtin "object.__class__")))
    (xe2j : PySem.W.specialIn K (.builtin "object.__class__") "__get__" = some (some (.builtin "getset_descriptor.__get__")))
    (xe2k : PySem.W.takesIn K (.builtin "object.__class__") = some true)
    (xe2l : PySem.W.mroIn K E2 (.type "object") = some true)
    (xe3a : PySem.W.nsIn K mainGlobals "BadRule" = some (some (.ref E3)))
    (xe3b : PySem.W.excIn K E3 [.type "ValueError", .type "Exception", .type "BaseException", .type "object"] "ValueError.__new__" = true)
    (xe3c : PySem.W.keepIn K (.ref E3) = true)
    (xe3d : PySem.W.subIn K (.ref E3) (.type "BaseException") = some true)
    (xe3e : PySem.W.typeIn K (.ref E3) = some (.type "type"))
    (xe3f : PySem.W.findIn K (.ref E3) "__getattribute__" = some (some (.builtin "BaseException.__getattribute__")))
    (xe3g : PySem.W.findIn K (.ref E3) "__getattr__" = some none)
    (xe3h : PySem.W.hasDictIn K E3 = true)
    (xe3i : PySem.W.findIn K (.ref E3) "__class__" = some (some (.builtin "object.__class__")))
    (xe3j : PySem.W.specialIn K (.builtin "object.__class__") "__get__" = some (some (.builtin "getset_descriptor.__get__")))
    (xe3k : PySem.W.takesIn K (.builtin "object.__class__") = some true)
    (xe3l : PySem.W.mroIn K E3 (.type "object") = some true)
    (xe4a : PySem.W.nsIn K mainGlobals "BadPeriod" = some (some (.ref E4)))
    (xe4b : PySem.W.excIn K E4 [.type "ValueError", .type "Exception", .type "BaseException", .type "object"] "ValueError.__new__" = true)
    (xe4c : PySem.W.keepIn K (.ref E4) = true)
    (xe4d : PySem.W.subIn K (.ref E4) (.type "BaseException") = some true)
    (xe4e : PySem.W.typeIn K (.ref E4) = some (.type "type"))
    (xe4f : PySem.W.findIn K (.ref E4) "__getattribute__" = some (some (.builtin "BaseException.__getattribute__")))
    (xe4g : PySem.W.findIn K (.ref E4) "__getattr__" = some none)
    (xe4h : PySem.W.hasDictIn K E4 = true)
    (xe4i : PySem.W.findIn K (.ref E4) "__class__" = some (some (.builtin "object.__class__")))
    (xe4j : PySem.W.specialIn K (.builtin "object.__class__") "__get__" = some (some (.builtin "getset_descriptor.__get__")))
    (xe4k : PySem.W.takesIn K (.builtin "object.__class__") = some true)
    (xe4l : PySem.W.mroIn K E4 (.type "object") = some true)
    (xk0_0 : PySem.W.kitOne K (.ref E0) (.ref E0) = some true)
    (xk0_1 : PySem.W.kitOne K (.ref E0) (.ref E1) = some false)
    (xk0_2 : PySem.W.kitOne K (.ref E0) (.ref E2) = some false)
    (xk0_3 : PySem.W.kitOne K (.ref E0) (.ref E3) = some false)
    (xk0_4 : PySem.W.kitOne K (.ref E0) (.ref E4) = some false)
    (xm0 : PySem.W.exmOne K (.ref E0) (.ref E0) = some true)
    (xk1_0 : PySem.W.kitOne K (.ref E1) (.ref E0) = some true)
    (xk1_1 : PySem.W.kitOne K (.ref E1) (.ref E1) = some true)
    (xk1_2 : PySem.W.kitOne K (.ref E1) (.ref E2) = some false)
    (xk1_3 : PySem.W.kitOne K (.ref E1) (.ref E3) = some false)
    (xk1_4 : PySem.W.kitOne K (.ref E1) (.ref E4) = some false)
    (xm1 : PySem.W.exmOne K (.ref E1) (.ref E0) = some true)
    (xk2_0 : PySem.W.kitOne K (.ref E2) (.ref E0) = some true)
    (xk2_1 : PySem.W.kitOne K (.ref E2) (.ref E1) = some false)
    (xk2_2 : PySem.W.kitOne K (.ref E2) (.ref E2) = some true)
    (xk2_3 : PySem.W.kitOne K (.ref E2) (.ref E3) = some false)
    (xk2_4 : PySem.W.kitOne K (.ref E2) (.ref E4) = some false)
    (xm2 : PySem.W.exmOne K (.ref E2) (.ref E0) = some true)
    (xk3_0 : PySem.W.kitOne K (.ref E3) (.ref E0) = some true)
    (xk3_1 : PySem.W.kitOne K (.ref E3) (.ref E1) = some false)
    (xk3_2 : PySem.W.kitOne K (.ref E3) (.ref E2) = some false)
    (xk3_3 : PySem.W.kitOne K (.ref E3) (.ref E3) = some true)
    (xk3_4 : PySem.W.kitOne K (.ref E3) (.ref E4) = some false)
    (xm3 : PySem.W.exmOne K (.ref E3) (.ref E0) = some true)
    (xk4_0 : PySem.W.kitOne K (.ref E4) (.ref E0) = some true)
    (xk4_1 : PySem.W.kitOne K (.ref E4) (.ref E1) = some false)
    (xk4_2 : PySem.W.kitOne K (.ref E4) (.ref E2) = some false)
    (xk4_3 : PySem.W.kitOne K (.ref E4) (.ref E3) = some false)
    (xk4_4 : PySem.W.kitOne K (.ref E4) (.ref E4) = some true)
    (xm4 : PySem.W.exmOne K (.ref E4) (.ref E0) = some true)
    (tbL : PySem.W.tabIn K "law" = some (ccL, cPL)) (chL : PySem.W.codeHdIn K ccL cPL = true) (nPL : K.lookup cPL = none)
    (v0 : PySem.W.nsIn K mainGlobals "MOST_DIGITS" = some (some (Value.int 6 tk0)))
    (v1 : PySem.W.nsIn K mainGlobals "MOST_COUNT" = some (some (Value.int 400 tk1)))
    (v2 : PySem.W.nsIn K mainGlobals "MOST_OPTIONS" = some (some (Value.int 60 tk2)))
    (v3 : PySem.W.nsIn K mainGlobals "MOST_HEAPS" = some (some (Value.int 8 tk3)))
    (v4 : PySem.W.nsIn K mainGlobals "MOST_START" = some (some (Value.int 200 tk4)))
    (v5 : PySem.W.nsIn K mainGlobals "MOST_LENGTH" = some (some (Value.int 100 tk5)))
    (v6 : PySem.W.nsIn K mainGlobals "MOST_NUMBER" = some (some (Value.int 65535 tk6)))
    (z0 : PySem.W.nsIn K mainGlobals "len" = some none)
    (z1 : PySem.W.nsIn K mainGlobals "range" = some none)
    (z2 : PySem.W.nsIn K mainGlobals "int" = some none)
    (z3 : PySem.W.nsIn K mainGlobals "bool" = some none)
    (z4 : PySem.W.nsIn K mainGlobals "tuple" = some none)
    (z5 : PySem.W.nsIn K mainGlobals "isinstance" = some none)
    (z6 : PySem.W.nsIn K mainGlobals "enumerate" = some none)
    (z7 : PySem.W.nsIn K mainGlobals "max" = some none)
    (z8 : PySem.W.nsIn K mainGlobals "all" = some none)
    (z9 : PySem.W.nsIn K mainGlobals "sorted" = some none) :
    Nonempty (Txt K mg) :=
  ⟨{ a_is_int := f0, d_is_int := _, F_is_int := fun_mk (st := s_is_int) l0 c0 k0, b_is_int := (fun_mk (st := s_is_int) l0 c0 k0).binds (ps := ["value"]) (fun _ _ _ _ _ _ us hl => match us, hl with | [_], _ => rfl), g_is_int := PySem.W.mg_of X G a0,
     a_is_in := f1, d_is_in := _, F_is_in := fun_mk (st := s_is_in) l1 c1 k1, b_is_in := (fun_mk (st := s_is_in) l1 c1 k1).binds (ps := ["value", "least", "most"]) (fun _ _ _ _ _ _ us hl => match us, hl with | [_, _, _], _ => rfl), g_is_in := PySem.W.mg_of X G a1,
     a_need_number := f2, d_need_number := _, F_need_number := fun_mk (st := s_need_number) l2 c2 k2, b_need_number := (fun_mk (st := s_need_number) l2 c2 k2).binds (ps := ["value", "least", "most"]) (fun _ _ _ _ _ _ us hl => match us, hl with | [_, _, _], _ => rfl), g_need_number := PySem.W.mg_of X G a2,
     a_least_missing := f3, d_least_missing := _, F_least_missing := fun_mk (st := s_least_missing) l3 c3 k3, b_least_missing := (fun_mk (st := s_least_missing) l3 c3 k3).binds (ps := ["numbers"]) (fun _ _ _ _ _ _ us hl => match us, hl with | [_], _ => rfl), g_least_missing := PySem.W.mg_of X G a3,
     a_need_rule := f4, d_need_rule := _, F_need_rule := fun_mk (st := s_need_rule) l4 c4 k4, b_need_rule := (fun_mk (st := s_need_rule) l4 c4 k4).binds (ps := ["value"]) (fun _ _ _ _ _ _ us hl => match us, hl with | [_], _ => rfl), g_need_rule := PySem.W.mg_of X G a4,
     a_value_after := f5, d_value_after := _, F_value_after := fun_mk (st := s_value_after) l5 c5 k5, b_value_after := (fun_mk (st := s_value_after) l5 c5 k5).binds (ps := ["rule", "found"]) (fun _ _ _ _ _ _ us hl => match us, hl with | [_, _], _ => rfl), g_value_after := PySem.W.mg_of X G a5,
     a_values_to := f6, d_values_to := _, F_values_to := fun_mk (st := s_values_to) l6 c6 k6, b_values_to := (fun_mk (st := s_values_to) l6 c6 k6).binds (ps := ["rule", "count"]) (fun _ _ _ _ _ _ us hl => match us, hl with | [_, _], _ => rfl), g_values_to := PySem.W.mg_of X G a6,
     a_heap_values := f7, d_heap_values := _, F_heap_values := fun_mk (st := s_heap_values) l7 c7 k7, b_heap_values := (fun_mk (st := s_heap_values) l7 c7 k7).binds (ps := ["rule", "count"]) (fun _ _ _ _ _ _ us hl => match us, hl with | [_, _], _ => rfl), g_heap_values := PySem.W.mg_of X G a7,
     a_heap_options := f8, d_heap_options := _, F_heap_options := fun_mk (st := s_heap_options) l8 c8 k8, b_heap_options := (fun_mk (st := s_heap_options) l8 c8 k8).binds (ps := ["rule", "size"]) (fun _ _ _ _ _ _ us hl => match us, hl with | [_, _], _ => rfl), g_heap_options := PySem.W.mg_of X G a8,
     a_wins_heaps := f9, d_wins_heaps := _, F_wins_heaps := fun_mk (st := s_wins_heaps) l9 c9 k9, b_wins_heaps := (fun_mk (st := s_wins_heaps) l9 c9 k9).binds (ps := ["rule", "heaps"]) (fun _ _ _ _ _ _ us hl => match us, hl with | [_, _], _ => rfl), g_wins_heaps := PySem.W.mg_of X G a9,
     a_end_of := f10, d_end_of := _, F_end_of := fun_mk (st := s_end_of) l10 c10 k10, b_end_of := (fun_mk (st := s_end_of) l10 c10 k10).binds (ps := ["rule", "start", "length"]) (fun _ _ _ _ _ _ us hl => match us, hl with | [_, _, _], _ => rfl), g_end_of := PySem.W.mg_of X G a10,
     a_shows_period := f11, d_shows_period := _, F_shows_period := fun_mk (st := s_shows_period) l11 c11 k11, b_shows_period := (fun_mk (st := s_shows_period) l11 c11 k11).binds (ps := ["rule", "period"]) (fun _ _ _ _ _ _ us hl => match us, hl with | [_, _], _ => rfl), g_shows_period := PySem.W.mg_of X G a11,
     a_period_of := f12, d_period_of := _, F_period_of := fun_mk (st := s_period_of) l12 c12 k12, b_period_of := (fun_mk (st := s_period_of) l12 c12 k12).binds (ps := ["rule"]) (fun _ _ _ _ _ _ us hl => match us, hl with | [_], _ => rfl), g_period_of := PySem.W.mg_of X G a12,
     a_least_start := f13, d_least_start := _, F_least_start := fun_mk (st := s_least_start) l13 c13 k13, b_least_start := (fun_mk (st := s_least_start) l13 c13 k13).binds (ps := ["rule", "values", "length"]) (fun _ _ _ _ _ _ us hl => match us, hl with | [_, _, _], _ => rfl), g_least_start := PySem.W.mg_of X G a13,
     a_product_of := f14, d_product_of := _, F_product_of := fun_mk (st := s_product_of) l14 c14 k14, b_product_of := (fun_mk (st := s_product_of) l14 c14 k14).binds (ps := ["one", "other", "half"]) (fun _ _ _ _ _ _ us hl => match us, hl with | [_, _, _], _ => rfl), g_product_of := PySem.W.mg_of X G a14,
     a_nim_times := f15, d_nim_times := _, F_nim_times := fun_mk (st := s_nim_times) l15 c15 k15, b_nim_times := (fun_mk (st := s_nim_times) l15 c15 k15).binds (ps := ["one", "other"]) (fun _ _ _ _ _ _ us hl => match us, hl with | [_, _], _ => rfl), g_nim_times := PySem.W.mg_of X G a15,
     a_nim_inverse := f16, d_nim_inverse := _, F_nim_inverse := fun_mk (st := s_nim_inverse) l16 c16 k16, b_nim_inverse := (fun_mk (st := s_nim_inverse) l16 c16 k16).binds (ps := ["number"]) (fun _ _ _ _ _ _ us hl => match us, hl with | [_], _ => rfl), g_nim_inverse := PySem.W.mg_of X G a16,
     a_law_taken := f17, d_law_taken := _, F_law_taken := fun_mk (st := s_law_taken) l17 c17 k17, b_law_taken := (fun_mk (st := s_law_taken) l17 c17 k17).binds (ps := ["_law_row", "_law_many"]) (fun _ _ _ _ _ _ us hl => match us, hl with | [_, _], _ => rfl), g_law_taken := PySem.W.mg_of X G a17,
     a_law_pick := f18, d_law_pick := _, F_law_pick := fun_mk (st := s_law_pick) l18 c18 k18, b_law_pick := (fun_mk (st := s_law_pick) l18 c18 k18).binds (ps := ["_law_row", "_law_things"]) (fun _ _ _ _ _ _ us hl => match us, hl with | [_, _], _ => rfl), g_law_pick := PySem.W.mg_of X G a18,
     a_law_word := f19, d_law_word := _, F_law_word := fun_mk (st := s_law_word) l19 c19 k19, b_law_word := (fun_mk (st := s_law_word) l19 c19 k19).binds (ps := ["_law_work"]) (fun _ _ _ _ _ _ us hl => match us, hl with | [_], _ => rfl), g_law_word := PySem.W.mg_of X G a19,
     a_law := f20, d_law := _, F_law := fun_mk (st := s_law) l20 c20 k20, b_law := (fun_mk (st := s_law) l20 c20 k20).binds (ps := ["_law_script"]) (fun _ _ _ _ _ _ us hl => match us, hl with | [_], _ => rfl), g_law := PySem.W.mg_of X G a20,
     B_law := fun s v => .of_eq rfl,
     C_PlayError := E0, gx_PlayError := PySem.W.mg_of X G xe0a, xi_PlayError := xe0b, kx_PlayError := xe0c, bx_PlayError := xe0d, tx_PlayError := xe0e, ec_PlayError := ⟨xe0f, xe0g, xe0d, xe0h, xe0i, xe0j, xe0k, xe0l⟩,
     C_BadNumber := E1, gx_BadNumber := PySem.W.mg_of X G xe1a, xi_BadNumber := xe1b, kx_BadNumber := xe1c, bx_BadNumber := xe1d, tx_BadNumber := xe1e, ec_BadNumber := ⟨xe1f, xe1g, xe1d, xe1h, xe1i, xe1j, xe1k, xe1l⟩,
     C_BadNumbers := E2, gx_BadNumbers := PySem.W.mg_of X G xe2a, xi_BadNumbers := xe2b, kx_BadNumbers := xe2c, bx_BadNumbers := xe2d, tx_BadNumbers := xe2e, ec_BadNumbers := ⟨xe2f, xe2g, xe2d, xe2h, xe2i, xe2j, xe2k, xe2l⟩,
     C_BadRule := E3, gx_BadRule := PySem.W.mg_of X G xe3a, xi_BadRule := xe3b, kx_BadRule := xe3c, bx_BadRule := xe3d, tx_BadRule := xe3e, ec_BadRule := ⟨xe3f, xe3g, xe3d, xe3h, xe3i, xe3j, xe3k, xe3l⟩,
     C_BadPeriod := E4, gx_BadPeriod := PySem.W.mg_of X G xe4a, xi_BadPeriod := xe4b, kx_BadPeriod := xe4c, bx_BadPeriod := xe4d, tx_BadPeriod := xe4e, ec_BadPeriod := ⟨xe4f, xe4g, xe4d, xe4h, xe4i, xe4j, xe4k, xe4l⟩,
     ki_PlayError_PlayError := xk0_0,
     ki_PlayError_BadNumber := xk0_1,
     ki_PlayError_BadNumbers := xk0_2,
     ki_PlayError_BadRule := xk0_3,
     ki_PlayError_BadPeriod := xk0_4,
     em_PlayError := xm0,
     ki_BadNumber_PlayError := xk1_0,
     ki_BadNumber_BadNumber := xk1_1,
     ki_BadNumber_BadNumbers := xk1_2,
     ki_BadNumber_BadRule := xk1_3,
     ki_BadNumber_BadPeriod := xk1_4,
     em_BadNumber := xm1,
     ki_BadNumbers_PlayError := xk2_0,
     ki_BadNumbers_BadNumber := xk2_1,
     ki_BadNumbers_BadNumbers := xk2_2,
     ki_BadNumbers_BadRule := xk2_3,
     ki_BadNumbers_BadPeriod := xk2_4,
     em_BadNumbers := xm2,
     ki_BadRule_PlayError := xk3_0,
     ki_BadRule_BadNumber := xk3_1,
     ki_BadRule_BadNumbers := xk3_2,
     ki_BadRule_BadRule := xk3_3,
     ki_BadRule_BadPeriod := xk3_4,
     em_BadRule := xm3,
     ki_BadPeriod_PlayError := xk4_0,
     ki_BadPeriod_BadNumber := xk4_1,
     ki_BadPeriod_BadNumbers := xk4_2,
     ki_BadPeriod_BadRule := xk4_3,
     ki_BadPeriod_BadPeriod := xk4_4,
     em_BadPeriod := xm4,
     cc_law := ccL, cP_law := cPL, fc_law := ⟨⟨_, _, _, _, _, _, _, _, rfl, l20, c20⟩⟩, tb_law := tbL, ch_law := chL, nP_law := nPL,
     t_MOST_DIGITS := tk0, c_MOST_DIGITS := PySem.W.mg_of X G v0,
     t_MOST_COUNT := tk1, c_MOST_COUNT := PySem.W.mg_of X G v1,
     t_MOST_OPTIONS := tk2, c_MOST_OPTIONS := PySem.W.mg_of X G v2,
     t_MOST_HEAPS := tk3, c_MOST_HEAPS := PySem.W.mg_of X G v3,
     t_MOST_START := tk4, c_MOST_START := PySem.W.mg_of X G v4,
     t_MOST_LENGTH := tk5, c_MOST_LENGTH := PySem.W.mg_of X G v5,
     t_MOST_NUMBER := tk6, c_MOST_NUMBER := PySem.W.mg_of X G v6,
     m_len := PySem.W.mg_none_of X G z0,
     m_range := PySem.W.mg_none_of X G z1,
     m_int := PySem.W.mg_none_of X G z2,
     m_bool := PySem.W.mg_none_of X G z3,
     m_tuple := PySem.W.mg_none_of X G z4,
     m_isinstance := PySem.W.mg_none_of X G z5,
     m_enumerate := PySem.W.mg_none_of X G z6,
     m_max := PySem.W.mg_none_of X G z7,
     m_all := PySem.W.mg_none_of X G z8,
     m_sorted := PySem.W.mg_none_of X G z9 }⟩
end K58


set_option Elab.async false
set_option linter.all false
set_option maxRecDepth 100000
set_option maxHeartbeats 4000000
/-! Data of the layer: as the hand layer's, and pointers to objects (ptr a), and dicts that are only known to be dicts. -/
namespace DL
open PySem L2 TG
/-- a pointer to the object at a, as data -/
def ptr (a : Addr) : PyData := .dict [(.none, .int (a : Int))]
theorem ptr_inj {a b : Addr} (h : ptr a = ptr b) : a = b := by
  unfold ptr at h
  injection h with h
  injection h with h _
  injection h with _ h
  injection h with h
  exact Int.ofNat.inj h
mutual
inductive Dp (K : PySem.W.Frag) (H : Hp) : V → PyData → Prop
  | non : Dp K H .non .none
  | bl (b : Bool) : Dp K H (.bl b) (.bool b)
  | int (i : Int) : Dp K H (.int i) (.int i)
  | str (x : Str) : Dp K H (.str x) (.str x)
  | lst {a : Addr} {xs : List V} {ds : List PyData} : SqL K H a xs → DpAll K H xs ds → Dp K H (.ref a) (.list ds)
  | tup {a : Addr} {xs : List V} {ds : List PyData} : SqT K H a xs → DpAll K H xs ds → Dp K H (.ref a) (.tuple ds)
  | ptr (a : Addr) : Dp K H (.ref a) (ptr a)
  | dic {a : Addr} {kvs : List (Key × V)} : H a = some (.dK kvs) → Dp K H (.ref a) (.dict [])
inductive DpAll (K : PySem.W.Frag) (H : Hp) : List V → List PyData → Prop
  | nil : DpAll K H [] []
  | cons {v : V} {vs : List V} {d : PyData} {ds : List PyData} : Dp K H v d → DpAll K H vs ds → DpAll K H (v :: vs) (d :: ds)
end
section
variable {K : PySem.W.Frag} {H H' : Hp}
mutual
theorem dp_mono (k : Same H H') : ∀ (d : PyData) (v : V), Dp K H v d → Dp K H' v d
  | .none, _, h => by cases h; exact .non
  | .bool b, _, h => by cases h; exact .bl b
  | .int i, _, h => by cases h; exact .int i
  | .str x, _, h => by cases h; exact .str x
  | .list ds, _, h => by
    cases h with
    | lst hs ha => exact .lst (sqL k hs) (dps_mono k ds _ ha)
  | .dict kvs, _, h => by
    generalize e : PyData.dict kvs = d at h
    cases h with
    | ptr a => exact .ptr a
    | dic q => exact .dic (k _ _ q)
    | _ => cases e
  | .tuple ds, _, h => by
    cases h with
    | tup hs ha => exact .tup (sqT k hs) (dps_mono k ds _ ha)
theorem dps_mono (k : Same H H') : ∀ (ds : List PyData) (vs : List V), DpAll K H vs ds → DpAll K H' vs ds
  | [], _, h => by cases h; exact .nil
  | d :: ds, _, h => by
    cases h with
    | cons h1 h2 => exact .cons (dp_mono k d _ h1) (dps_mono k ds _ h2)
end
mutual
/-- the hand layer's data are such -/
theorem dp_of : ∀ (d : PyData) (v : V), L2.Dp K H v d → Dp K H v d
  | .none, _, h => by cases h; exact .non
  | .bool b, _, h => by cases h; exact .bl b
  | .int i, _, h => by cases h; exact .int i
  | .str x, _, h => by cases h; exact .str x
  | .list ds, _, h => by
    cases h with
    | lst hs ha => exact .lst hs (dps_of ds _ ha)
  | .dict kvs, _, h => by cases h
  | .tuple ds, _, h => by
    cases h with
    | tup hs ha => exact .tup hs (dps_of ds _ ha)
theorem dps_of : ∀ (ds : List PyData) (vs : List V), L2.DpAll K H vs ds → DpAll K H vs ds
  | [], _, h => by cases h; exact .nil
  | d :: ds, _, h => by
    cases h with
    | cons h1 h2 => exact .cons (dp_of d _ h1) (dps_of ds _ h2)
end
mutual
/-- such data without pointers are the hand layer's -/
theorem dp_to : ∀ (d : PyData) (v : V), d.canLay0 = true → Dp K H v d → L2.Dp K H v d
  | .none, _, _, h => by cases h; exact .non
  | .bool b, _, _, h => by cases h; exact .bl b
  | .int i, _, _, h => by cases h; exact .int i
  | .str x, _, _, h => by cases h; exact .str x
  | .list ds, _, p, h => by
    cases h with
    | lst hs ha => exact .lst hs (dps_to ds _ (by rw [PyData.canLay0] at p; exact p) ha)
  | .dict kvs, _, p, h => by rw [PyData.canLay0] at p; cases p
  | .tuple ds, _, p, h => by
    cases h with
    | tup hs ha => exact .tup hs (dps_to ds _ (by rw [PyData.canLay0] at p; exact p) ha)
theorem dps_to : ∀ (ds : List PyData) (vs : List V), PyData.canLayAll0 ds = true → DpAll K H vs ds → L2.DpAll K H vs ds
  | [], _, _, h => by cases h; exact .nil
  | d :: ds, _, p, h => by
    rw [PyData.canLayAll0, Bool.and_eq_true] at p
    cases h with
    | cons h1 h2 => exact .cons (dp_to d _ p.1 h1) (dps_to ds _ p.2 h2)
end
theorem dp_shaped {d : PyData} {v : V} (h : Dp K H v d) (s : SeqAt.shaped d = true) : L2.Dp K H v d := dp_to d v (SeqAt.canLay_of_shaped s) h
mutual
theorem dp_keep (k : KpT H H') : ∀ (d : PyData) (v : V), pT d = true → Dp K H v d → Dp K H' v d
  | .none, _, _, h => by cases h; exact .non
  | .bool b, _, _, h => by cases h; exact .bl b
  | .int i, _, _, h => by cases h; exact .int i
  | .str x, _, _, h => by cases h; exact .str x
  | .list _, _, p, _ => by unfold pT at p; cases p
  | .dict _, _, p, _ => by unfold pT at p; cases p
  | .tuple ds, _, p, h => by
    cases h with
    | tup hs ha =>
      unfold pT at p
      exact .tup (k K _ _ hs) (dps_keep k ds _ p ha)
theorem dps_keep (k : KpT H H') : ∀ (ds : List PyData) (vs : List V), pTs ds = true → DpAll K H vs ds → DpAll K H' vs ds
  | [], _, _, h => by cases h; exact .nil
  | d :: ds, _, p, h => by
    cases h with
    | cons h1 h2 =>
      unfold pTs at p
      have p' := Bool.and_eq_true_iff.mp p
      exact .cons (dp_keep k d _ p'.1 h1) (dps_keep k ds _ p'.2 h2)
end
theorem dp_tup {v : V} {ds : List PyData} (h : Dp K H v (.tuple ds)) : ∃ a xs, v = .ref a ∧ SqT K H a xs ∧ DpAll K H xs ds := by
  cases h with
  | tup hs ha => exact ⟨_, _, rfl, hs, ha⟩
theorem dps_len : ∀ {ds : List PyData} {xs : List V}, DpAll K H xs ds → xs.length = ds.length
  | [], _, h => by cases h; rfl
  | d :: ds, _, h => by
    cases h with
    | cons h1 h2 => simp [dps_len h2]
theorem dps_get : ∀ {ds : List PyData} {xs : List V}, DpAll K H xs ds → ∀ (i : Nat) (d : PyData), ds[i]? = some d → ∃ x, xs[i]? = some x ∧ Dp K H x d
  | [], _, _, i, d, h => by cases h
  | _ :: ds, _, .cons h1 h2, 0, d, h => by
    cases h
    exact ⟨_, rfl, h1⟩
  | _ :: ds, _, .cons h1 h2, i + 1, d, h => by
    obtain ⟨x, hx, h'⟩ := dps_get h2 i d (by simpa using h)
    exact ⟨x, by simpa using hx, h'⟩
theorem dps_at : ∀ {ds : List PyData} {xs : List V}, DpAll K H xs ds → ∀ (i : Nat) (x : V), xs[i]? = some x → ∃ d, ds[i]? = some d ∧ Dp K H x d
  | [], _, .nil, i, x, h => by cases h
  | _ :: ds, _, .cons h1 h2, 0, d, h => by
    cases h
    exact ⟨_, rfl, h1⟩
  | _ :: ds, _, .cons h1 h2, i + 1, x, h => by
    obtain ⟨d, hd, h'⟩ := dps_at h2 i x (by simpa using h)
    exact ⟨d, by simpa using hd, h'⟩
theorem dps_set : ∀ {ds : List PyData} {xs : List V} {d : PyData} {x : V} (i : Nat), DpAll K H xs ds → Dp K H x d → DpAll K H (xs.set i x) (ds.set i d)
  | [], _, d, x, i, .nil, h => .nil
  | _ :: ds, _, d, x, 0, .cons h1 h2, h => .cons h h2
  | _ :: ds, _, d, x, i + 1, .cons h1 h2, h => .cons h1 (dps_set i h2 h)
theorem dps_rep {d : PyData} {x : V} (h : Dp K H x d) : ∀ n : Nat, DpAll K H (List.replicate n x) (List.replicate n d)
  | 0 => .nil
  | n + 1 => .cons h (dps_rep h n)
theorem dps_app : ∀ {ds es : List PyData} {xs ys : List V}, DpAll K H xs ds → DpAll K H ys es → DpAll K H (xs ++ ys) (ds ++ es)
  | [], _, _, _, .nil, h => h
  | _ :: ds, _, _, _, .cons h1 h2, h => .cons h1 (dps_app h2 h)
theorem dps_take : ∀ {ds : List PyData} {xs : List V} (k : Nat), DpAll K H xs ds → DpAll K H (xs.take k) (ds.take k)
  | [], _, k, .nil => by simp; exact .nil
  | _ :: ds, _, 0, .cons h1 h2 => .nil
  | _ :: ds, _, k + 1, .cons h1 h2 => .cons h1 (dps_take k h2)
theorem dps_drop : ∀ {ds : List PyData} {xs : List V} (k : Nat), DpAll K H xs ds → DpAll K H (xs.drop k) (ds.drop k)
  | [], _, k, .nil => by simp; exact .nil
  | _ :: ds, _, 0, .cons h1 h2 => .cons h1 h2
  | _ :: ds, _, k + 1, .cons h1 h2 => dps_drop k h2
theorem dps_snoc : ∀ {ds : List PyData} {xs : List V} {d : PyData} {x : V}, DpAll K H xs ds → Dp K H x d → DpAll K H (xs ++ [x]) (ds ++ [d])
  | [], _, d, x, .nil, h => .cons h .nil
  | _ :: ds, _, d, x, .cons h1 h2, h => .cons h1 (dps_snoc h2 h)
end
end DL


set_option Elab.async false
set_option linter.all false
set_option maxRecDepth 100000
set_option maxHeartbeats 4000000
/-! Dicts whose keys are tuples (of ints, texts, None and such tuples, at most 8 deep): rules of the hand layer's form. -/
namespace DL
open PySem PySem.Spec PyProof.Rows L2 TG
abbrev NEs := List (NestedKey × Addr × V)
def NR (ks : NEs) (xs : List (NestedKey × Addr × Value)) : Prop := Paired (fun (p : NestedKey × Addr × V) (q : NestedKey × Addr × Value) => p.1 = q.1 ∧ p.2.1 = q.2.1 ∧ RelV p.2.2 q.2.2) ks xs
def dnφ (P : Program) (w : World) (a : Addr) (ks : NEs) : Heap → Prop := fun h => ks.length ≤ sizeLine ∧ (a == sysModules) = false ∧ ∃ xs, NR ks xs ∧
  ∃ o es ep, h.get? a = some o ∧ o.ExactDict ∧ o.data = .dict es ep ∧ es.toList = xs.map (entryOfKey (nestedKind P w)) ∧ (xs.map (·.1)).Nodup
def dnO (P : Program) (w : World) (a : Addr) (ks : NEs) : HO := .ext (dnφ P w a ks)
theorem dn_ok {P : Program} {w : World} {H : Hp} {h : Heap} {a : Addr} {ks : NEs} (x : dnφ P w a ks h) : ObjOk P w H h a (dnO P w a ks) := by
  refine ⟨x, ?_, fun h1 h2 y k => ?_⟩
  · obtain ⟨_, _, xs, _, o, es, ep, h1, _⟩ := x
    exact ⟨o, h1⟩
  · obtain ⟨z, y, xs, r, o, es, ep, h1, h2⟩ := y
    exact ⟨z, y, xs, r, o, es, ep, k o h1, h2⟩
mutual
/-- a key as data -/
def keyN : PyData → Option NestedKey
  | .none => some .none
  | .bool _ => none
  | .int i => some (.num i)
  | .str x => some (.text x)
  | .tuple ds => (keysN ds).map NestedKey.tup
  | .list _ => none
  | .dict _ => none
def keysN : List PyData → Option (List NestedKey)
  | [] => some []
  | d :: ds => match keyN d, keysN ds with
    | some k, some ks => some (k :: ks)
    | _, _ => none
end
section
variable {X : Cx} {pins : List (Addr × Obj)} {σ : L2.St} {H : Hp} {s : Shared}
mutual
theorem dp_nested (I : Inv X pins σ H s) : ∀ (d : PyData) (k : NestedKey) (v : V) (u : Value), keyN d = some k → Dp X.K H v d → RelV v u → NestedIs s.heap k u
  | .none, _, _, _, e, h, r => by
    unfold keyN at e
    cases e
    cases h
    cases r
    exact .none
  | .bool _, _, _, _, e, _, _ => by unfold keyN at e; cases e
  | .int i, _, _, _, e, h, r => by
    unfold keyN at e
    cases e
    cases h
    obtain ⟨t, rfl⟩ := r
    exact .int i t
  | .str x, _, _, _, e, h, r => by
    unfold keyN at e
    cases e
    cases h
    obtain ⟨t, rfl⟩ := r
    exact .text x t
  | .tuple ds, k, _, _, e, h, r => by
    unfold keyN at e
    cases c : keysN ds with
    | none => rw [c] at e; cases e
    | some ks =>
      rw [c] at e
      cases e
      cases h with
      | tup hs ha =>
        cases r
        obtain ⟨its, rv, ⟨o, ho, hc, n, hd⟩, _⟩ := I.tuple hs
        exact .tup ho hc hd (by simpa using dps_nested I ds ks _ its c ha rv)
  | .list _, _, _, _, e, _, _ => by unfold keyN at e; cases e
  | .dict _, _, _, _, e, _, _ => by unfold keyN at e; cases e
theorem dps_nested (I : Inv X pins σ H s) : ∀ (ds : List PyData) (ks : List NestedKey) (vs : List V) (us : List Value), keysN ds = some ks → DpAll X.K H vs ds → Vals vs us → NestedAll s.heap ks us
  | [], _, _, _, e, h, r => by
    unfold keysN at e
    cases e
    cases h
    cases r
    exact .nil
  | d :: ds, ks, _, _, e, h, r => by
    unfold keysN at e
    cases c : keyN d with
    | none => rw [c] at e; simp at e
    | some k =>
      cases c2 : keysN ds with
      | none => rw [c, c2] at e; simp at e
      | some ks' =>
        rw [c, c2] at e
        cases e
        cases h with
        | cons h1 h2 =>
          cases r with
          | cons r1 r2 => exact .cons (dp_nested I d k _ _ c h1 r1) (dps_nested I ds ks' _ _ c2 h2 r2)
end
/-- a key's tuple -/
def KeyAt (K : PySem.W.Frag) (H : Hp) (b : Addr) (k : NestedKey) : Prop := ∃ d, keyN d = some k ∧ Dp K H (.ref b) d ∧ k.depth ≤ 8
def KeysAt (K : PySem.W.Frag) (H : Hp) (ks : NEs) : Prop := ∀ e ∈ ks, KeyAt K H e.2.1 e.1
theorem KeyAt.is {b : Addr} {k : NestedKey} (I : Inv X pins σ H s) (h : KeyAt X.K H b k) : (nestedKind X.prog X.w).is s.heap k b := by
  obtain ⟨d, h1, h2, h3⟩ := h
  exact ⟨dp_nested I d k _ _ h1 h2 rfl, h3⟩
theorem KeyAt.mono {K : PySem.W.Frag} {H H' : Hp} {b : Addr} {k : NestedKey} (h : KeyAt K H b k) (s : Same H H') : KeyAt K H' b k := by
  obtain ⟨d, h1, h2, h3⟩ := h
  exact ⟨d, h1, dp_mono s _ _ h2, h3⟩
theorem nr_is {ks : NEs} {xs : List (NestedKey × Addr × Value)} (r : NR ks xs) (hk : ∀ e ∈ ks, (nestedKind X.prog X.w).is s.heap e.1 e.2.1) : ∀ x ∈ xs, (nestedKind X.prog X.w).is s.heap x.1 x.2.1 := by
  unfold NR at r
  induction r with
  | nil => intro x hx; cases hx
  | cons h t ih =>
    intro x hx
    rcases List.mem_cons.mp hx with rfl | hx
    · rw [← h.1, ← h.2.1]
      exact hk _ List.mem_cons_self
    · exact ih (fun e he => hk e (List.mem_cons_of_mem _ he)) x hx
theorem dn_at {a : Addr} {ks : NEs} (I : Inv X pins σ H s) (e : H a = some (dnO X.prog X.w a ks)) (hk : KeysAt X.K H ks) : ks.length ≤ sizeLine ∧ (a == sysModules) = false ∧ ∃ xs, NR ks xs ∧ s.heap.DictOfH (nestedKind X.prog X.w) a xs := by
  obtain ⟨⟨z, y, xs, r, o, es, ep, h1, h2, h3, h4, h5⟩, _⟩ := (show ObjOk X.prog X.w H s.heap a (dnO X.prog X.w a ks) from I.hok a _ e)
  exact ⟨z, y, xs, r, o, es, ep, h1, h2, h3, h4, nr_is r (fun e he => (hk e he).is I), h5⟩
def valN (ks : NEs) (k : NestedKey) : Option V := (ks.find? fun e => decide (e.1 = k)).map (·.2.2)
def putN (ks : NEs) (k : NestedKey) (b : Addr) (v : V) : NEs := if (ks.any fun e => decide (e.1 = k)) = true then ks.map (fun e => if e.1 = k then (e.1, e.2.1, v) else e) else ks ++ [(k, b, v)]
theorem NR.val {ks : NEs} {xs : List (NestedKey × Addr × Value)} (r : NR ks xs) (k : NestedKey) : (valN ks k = none ∧ atKey xs k = none) ∨ ∃ v p, valN ks k = some v ∧ atKey xs k = some p ∧ RelV v p.2 := by
  unfold NR at r
  induction r with
  | nil => exact .inl ⟨rfl, rfl⟩
  | @cons p q ps qs h t ih =>
    by_cases c : p.1 = k
    · refine .inr ⟨p.2.2, q.2, ?_, ?_, h.2.2⟩
      · unfold valN
        rw [List.find?_cons_of_pos (by simpa using c)]
        rfl
      · unfold atKey
        rw [List.find?_cons_of_pos (by simpa using (h.1 ▸ c))]
        rfl
    · have e1 : valN (p :: ps) k = valN ps k := by unfold valN; rw [List.find?_cons_of_neg (by simpa using c)]
      have e2 : atKey (q :: qs) k = atKey qs k := by unfold atKey; rw [List.find?_cons_of_neg (by simpa using (h.1 ▸ c))]
      rw [e1, e2]
      exact ih
theorem nr_any {ks : NEs} {xs : List (NestedKey × Addr × Value)} (r : NR ks xs) (k : NestedKey) : (ks.any fun e => decide (e.1 = k)) = (atKey xs k).isSome := by
  unfold NR at r
  induction r with
  | nil => rfl
  | @cons p q ps qs h t ih =>
    rw [List.any_cons, ih]
    by_cases c : p.1 = k
    · have : atKey (q :: qs) k = some q.2 := by
        unfold atKey
        rw [List.find?_cons_of_pos (by simpa using (h.1 ▸ c))]
        rfl
      rw [this, decide_eq_true c]
      rfl
    · have e2 : atKey (q :: qs) k = atKey qs k := by unfold atKey; rw [List.find?_cons_of_neg (by simpa using (h.1 ▸ c))]
      rw [e2, decide_eq_false c]
      rfl
theorem NR.put {ks : NEs} {xs : List (NestedKey × Addr × Value)} (r : NR ks xs) (k : NestedKey) (b : Addr) {v : V} {u : Value} (rv : RelV v u) : NR (putN ks k b v) (storedH xs k b u) := by
  unfold putN storedH
  rw [nr_any r k]
  split
  · rename_i hany
    clear hany
    unfold NR at r ⊢
    induction r with
    | nil => exact .nil
    | @cons p q ps qs h t ih =>
      rw [List.map_cons, List.map_cons]
      refine .cons ?_ ih
      unfold putAt
      by_cases c : p.1 = k
      · rw [if_pos c, if_pos (h.1 ▸ c)]
        exact ⟨h.1, h.2.1, rv⟩
      · rw [if_neg c, if_neg (h.1 ▸ c)]
        exact h
  · rename_i hany
    clear hany
    unfold NR at r ⊢
    induction r with
    | nil => exact .cons ⟨rfl, rfl, rv⟩ .nil
    | cons h t ih => exact .cons h ih
theorem putN_len (ks : NEs) (k : NestedKey) (b : Addr) (v : V) : (putN ks k b v).length ≤ ks.length + 1 := by
  unfold putN
  split
  · rw [List.length_map]; omega
  · rw [List.length_append, List.length_singleton]; omega
end
/-! ### readings and rules -/
def tNNew (P : Program) (w : World) : TE := fun _ H Q => ∀ p, H p = none → Q (.ref p) (upd H p (dnO P w p []))
def NAt (K : PySem.W.Frag) (P : Program) (w : World) (H : Hp) (a : Addr) (y : V) (ks : NEs) (b : Addr) (k : NestedKey) : Prop := y = .ref b ∧ H a = some (dnO P w a ks) ∧ KeysAt K H ks ∧ KeyAt K H b k
def tNGet (K : PySem.W.Frag) (P : Program) (w : World) (td ty : TE) : TE := fun σ H Q => td σ H fun x H1 => ty σ H1 fun y H2 => ∃ a ks b k v, x = .ref a ∧ NAt K P w H2 a y ks b k ∧ valN ks k = some v ∧ Q v H2
def tNIn (K : PySem.W.Frag) (P : Program) (w : World) (ty td : TE) : TE := fun σ H Q => ty σ H fun y H1 => td σ H1 fun x H2 => ∃ a ks b k, x = .ref a ∧ NAt K P w H2 a y ks b k ∧ Q (.bl (valN ks k).isSome) H2
def tNNotIn (K : PySem.W.Frag) (P : Program) (w : World) (ty td : TE) : TE := fun σ H Q => ty σ H fun y H1 => td σ H1 fun x H2 => ∃ a ks b k, x = .ref a ∧ NAt K P w H2 a y ks b k ∧ Q (.bl (!(valN ks k).isSome)) H2
def sNPut (K : PySem.W.Frag) (P : Program) (w : World) (td ty tv : TE) : TS := fun D σ H => tv σ H fun v H1 => td σ H1 fun x H2 => ty σ H2 fun y H3 => ∃ a ks b k, x = .ref a ∧ NAt K P w H3 a y ks b k ∧ ks.length < sizeLine ∧ D.nx σ (upd H3 a (dnO P w a (putN ks k b v)))
def tNGet2 (K : PySem.W.Frag) (P : Program) (w : World) (td ty tx : TE) : TE := fun σ H Q => td σ H fun x H1 => ∃ a ks0, x = .ref a ∧ (H1 a = some (dnO P w a ks0) ∧ KeysAt K H1 ks0) ∧ ty σ H1 fun y H2 => tx σ H2 fun z H3 => ∃ ks b k, NAt K P w H3 a y ks b k ∧ Q ((valN ks k).getD z) H3
section
variable {X : Cx} {K : PySem.W.Frag} {P : Program} {w : World} {o i e f value : Expr} {pos pos' tpos apos cpos : Pos} {td ty tv tx : TE}
theorem pe_nnew (hP : X.prog = P) (hw : X.w = w) : PE X (.Dict [] [] pos) (tNNew P w) := by
  subst hP hw
  exact ⟨fun pins s σ H Q I h => wpAny_Dict_empty ⟨.ref s.heap.objs.size, _, I.laid (a := s.heap.objs.size) (o := dnO X.prog X.w s.heap.objs.size []) (t' := s.toks) (fun _ _ q => Heap.get?_push_of_some _ q) (Nat.le_refl _)
    (dn_ok ⟨Nat.zero_le _, beq_eq_false_iff_ne.mpr (Ne.symm (Nat.ne_of_lt I.big)), [], .nil, _, #[], 0, Heap.get?_push_size _ rfl, ⟨rfl, rfl, rfl⟩, rfl, rfl, List.nodup_nil⟩), rfl, h _ (I.hok.fresh (Nat.le_refl _))⟩⟩
theorem room_n {A : Around} (hu : A.units + 64 < cLine) : (nestedKind X.prog X.w).room A.in1 := by
  show A.units + 1 + 8 < cLine
  omega
theorem pe_nget (hK : X.K = K) (hP : X.prog = P) (hw : X.w = w) (hu : X.A.units + 64 < cLine) (ho : PE X o td) (hi : PE X i ty) (hs : NoSl i) : PE X (.Subscript o i pos) (tNGet K P w td ty) := by
  subst hK hP hw
  refine ⟨fun pins s σ H Q I h => ?_⟩
  refine subD_of PySem.F.slot_dict_getitem.lookup hs (thn (ho.run pins s σ H _ I h) fun u s1 ⟨x, H1, I1, rx, q1⟩ => thn (hi.run pins s1 σ H1 _ I1 q1) fun iv s2 ⟨y, H2, I2, ry, a, ks, b, k, v, ex, ⟨ey, ha, hks, hk⟩, hv, q2⟩ => ?_)
  subst ex ey
  obtain rfl : u = Value.ref a := rx
  obtain rfl : iv = Value.ref b := ry
  obtain ⟨z, y, xs, r, dd⟩ := dn_at I2 ha hks
  refine ⟨dd.typeIs, ?_⟩
  rcases r.val k with ⟨q3, _⟩ | ⟨v', p, q3, q4, q5⟩
  · rw [q3] at hv; cases hv
  · rw [q3] at hv
    cases hv
    exact wpAny_getItem_heap (room_n hu) (hk.is I2) dd q4 ⟨v, H2, I2.tok _, q5, q2⟩
theorem pc_nin (hK : X.K = K) (hP : X.prog = P) (hw : X.w = w) (hu : X.A.units + 64 < cLine) (hi : PE X i ty) (ho : PE X o td) : PC X .In i o (tNIn K P w ty td) := by
  subst hK hP hw
  refine ⟨fun pins s σ H Q I h => ?_⟩
  refine thn (hi.run pins s σ H _ I h) fun iv s1 ⟨y, H1, I1, ry, q1⟩ => thn (ho.run pins s1 σ H1 _ I1 q1) fun u s2 ⟨x, H2, I2, rx, a, ks, b, k, ex, ⟨ey, ha, hks, hk⟩, q2⟩ => ?_
  subst ex ey
  obtain rfl : u = Value.ref a := rx
  obtain rfl : iv = Value.ref b := ry
  obtain ⟨z, y, xs, r, dd⟩ := dn_at I2 ha hks
  refine wpAny_in_heap (room_n hu) (hk.is I2) y dd ⟨.bl (atKey xs k).isSome, H2, I2.tok _, rfl, ?_⟩
  rcases r.val k with ⟨q3, q4⟩ | ⟨v', p, q3, q4, q5⟩
  · rw [q3] at q2; rw [q4]; exact q2
  · rw [q3] at q2; rw [q4]; exact q2
theorem pc_nnotin (hK : X.K = K) (hP : X.prog = P) (hw : X.w = w) (hu : X.A.units + 64 < cLine) (hi : PE X i ty) (ho : PE X o td) : PC X .NotIn i o (tNNotIn K P w ty td) := by
  subst hK hP hw
  refine ⟨fun pins s σ H Q I h => ?_⟩
  refine thn (hi.run pins s σ H _ I h) fun iv s1 ⟨y, H1, I1, ry, q1⟩ => thn (ho.run pins s1 σ H1 _ I1 q1) fun u s2 ⟨x, H2, I2, rx, a, ks, b, k, ex, ⟨ey, ha, hks, hk⟩, q2⟩ => ?_
  subst ex ey
  obtain rfl : u = Value.ref a := rx
  obtain rfl : iv = Value.ref b := ry
  obtain ⟨z, y, xs, r, dd⟩ := dn_at I2 ha hks
  refine wpAny_notIn_heap (room_n hu) (hk.is I2) y dd ⟨.bl (!(atKey xs k).isSome), H2, I2.tok _, rfl, ?_⟩
  rcases r.val k with ⟨q3, q4⟩ | ⟨v', p, q3, q4, q5⟩
  · rw [q3] at q2; rw [q4]; exact q2
  · rw [q3] at q2; rw [q4]; exact q2
theorem ps_nput (hK : X.K = K) (hP : X.prog = P) (hw : X.w = w) (hu : X.A.units + 64 < cLine) (ho : PE X o td) (hi : PE X i ty) (hv : PE X value tv) (hs : swapsWith value (some (.Subscript o i pos')) pos.line X.env = pure false) :
    PS X (.Assign [.Subscript o i pos'] value pos) (sNPut K P w td ty tv) := by
  subst hK hP hw
  refine ⟨fun pins s σ H D I h => ?_⟩
  refine wpAny_Assign_Subscript (thn (hv.run pins s σ H _ I h) fun r s1 ⟨v, H1, I1, rv, q1⟩ => thn (ho.run pins s1 σ H1 _ I1 q1) fun u s2 ⟨x, H2, I2, rx, q2⟩ => thn (hi.run pins s2 σ H2 _ I2 q2) fun iv s3 ⟨y, H3, I3, ry, a, ks, b, k, ex, ⟨ey, ha, hks, hk⟩, hl, q3⟩ => ?_) hs
  subst ex ey
  obtain rfl : u = Value.ref a := rx
  obtain rfl : iv = Value.ref b := ry
  obtain ⟨z, y, xs, rr, dd⟩ := dn_at I3 ha hks
  have hz : xs.length ≤ sizeLine := by rw [← Paired.length rr]; exact z
  refine wpAny_setItem_heap (hsz := hz) (room_n hu) (hk.is I3) dd fun h' dd' hs' => ⟨σ, _, ?_, q3⟩
  obtain ⟨q, es, ep, hq, h2, h3, h4, _, h5⟩ := dd'
  have hn := putN_len ks k b v
  exact d_write I3 (by rw [ha]; exact True.intro) hs' ⟨q, hq⟩ (dn_ok ⟨by omega, y, _, rr.put k b rv, q, es, ep, hq, h2, h3, h4, h5⟩)
theorem pe_nget2 (hK : X.K = K) (hP : X.prog = P) (hw : X.w = w) (hu : X.A.units + 64 < cLine) (ho : PE X o td) (he : PE X e ty) (hf : PE X f tx) (m : M2 X o "get" apos e f cpos) : PE X (.Call (.Attribute o "get" apos) [e, f] [] cpos) (tNGet2 K P w td ty tx) := by
  subst hK hP hw
  refine ⟨fun pins s σ H Q I h => ?_⟩
  refine wpAny_Call_method m.base m.few m.line PySem.F.plainAttrs_dict PySem.F.slot_dict_get PySem.F.type_dict_get (thn (ho.run pins s σ H _ I h) fun u s1 ⟨x, H1, I1, rx, a, ks0, ex, ⟨d1, d2⟩, q1⟩ => ?_)
  subst ex
  obtain rfl : u = Value.ref a := rx
  obtain ⟨_, _, xs0, _, dd0⟩ := dn_at I1 d1 d2
  refine ⟨dd0.typeIs, fun b hb => ?_, ?_⟩
  · cases hb
    obtain ⟨o, es, ep, h1, h2, _⟩ := dd0
    exact ⟨o, h1, h2.2.1⟩
  rw [m.trees]
  refine Calls.callWith_builtin rfl (Calls.evalArgs_plain (Calls.spliced_cons (thn (he.run pins s1 σ H1 _ I1 q1) fun iv s2 ⟨y, H2, I2, ry, q2⟩ =>
    Calls.spliced_cons (thn (hf.run pins s2 σ H2 _ I2 q2) fun fv s3 ⟨z, H3, I3, rz, ks, b, k, ⟨ey, ha, hks, hk⟩, q3⟩ => Calls.spliced_nil ?_))))
  subst ey
  obtain rfl : iv = Value.ref b := ry
  obtain ⟨_, hd, xs, r, dd⟩ := dn_at I3 ha hks
  refine call_meetsIn PySem.F.slot_dict_get dd.typeIs PySem.F.entry_dict_get (PySem.F.args_dict_get_3 _ _ _) (meetsH_dict_get_default (nestedKind X.prog X.w) a b hd fv) ⟨room_n hu, k, xs, hk.is I3, dd, ?_⟩
  rcases r.val k with ⟨e3, e4⟩ | ⟨v', p, e3, e4, e5⟩
  · rw [e4]
    rw [e3] at q3
    exact ⟨z, H3, I3.tok _, rz, q3⟩
  · rw [e4]
    rw [e3] at q3
    exact ⟨v', H3, I3.tok _, e5, q3⟩
end
end DL


set_option Elab.async false
set_option linter.all false
set_option maxRecDepth 100000
set_option maxHeartbeats 4000000
/-! A layer of values over the hand layer: slots hold data or objects of their own; the heap is out of sight. -/
namespace DL
open PySem L2 TG
/-- a tuple's thing -/
def tupO : HO → Bool
  | .tup _ => true
  | .frz _ (.tup _) => true
  | _ => false
/-- an object of its own -/
inductive Ob where
  | lst (ds : List PyData)
  | dT (kvs : List (List Key × PyData))
  | dK (kvs : List (Key × PyData))
  | dN (P : Program) (w : World) (kvs : List (NestedKey × PyData))
  | ext (φ : PySem.W.Frag → Hp → Option HO → Prop)
/-- a shared object: one as above, or an instance with its attributes (data, pointers among them) -/
inductive Cell where
  | ob (o : Ob)
  | ins (C : Addr) (fs : List (String × PyData))
/-- the shared objects, by their places -/
abbrev Gh := Addr → Option Cell
def upG (G : Gh) (a : Addr) (c : Cell) : Gh := fun b => if b = a then some c else G b
theorem upG_same {G : Gh} {a : Addr} {c : Cell} : upG G a c a = some c := if_pos rfl
theorem upG_ne {G : Gh} {a b : Addr} {c : Cell} (h : b ≠ a) : upG G a c b = G b := if_neg h
theorem upG_at {G : Gh} {a b : Addr} {c : Cell} : upG G a c b = if b = a then some c else G b := rfl
theorem upG_upG {G : Gh} {a : Addr} {c c' : Cell} : upG (upG G a c) a c' = upG G a c' := by
  funext b
  unfold upG
  split <;> rfl
/-- what a slot holds; an object with the number of the argument that it is; behind the slots: the shared objects -/
inductive B where
  | dat (d : PyData)
  | ob (t : Option Nat) (o : Ob)
  | gs (G : Gh)
/-- what an expression gives: data, a new object, the object of slot i, the shared object at a (n: the slots' number) -/
inductive Vl where
  | dat (d : PyData)
  | ob (o : Ob)
  | own (i : Nat)
  | gob (n : Nat) (a : Addr)
abbrev En := List (Option B)
def KvR {κ : Type} (K : PySem.W.Frag) (Hz : Hp) (ks : List (κ × V)) (kvs : List (κ × PyData)) : Prop := ks.map (·.1) = kvs.map (·.1) ∧ DpAll K Hz (ks.map (·.2)) (kvs.map (·.2))
def OkOb (K : PySem.W.Frag) (Hz H : Hp) (a : Addr) : Ob → Prop
  | .lst ds => ∃ xs, H a = some (.lst xs) ∧ DpAll K Hz xs ds
  | .dT kvs => ∃ ks, H a = some (.dT ks) ∧ KvR K Hz ks kvs
  | .dK kvs => ∃ ks, H a = some (.dK ks) ∧ KvR K Hz ks kvs
  | .dN P w kvs => ∃ ks : NEs, H a = some (dnO P w a ks) ∧ KeysAt K Hz ks ∧ KvR K Hz (ks.map fun e => (e.1, e.2.2)) kvs
  | .ext φ => H a ≠ none ∧ (∀ u, H a = some u → tupO u = false) ∧ φ K Hz (H a) ∧ ∀ Hz', Same Hz Hz' → φ K Hz' (H a)
theorem OkOb.there {K : PySem.W.Frag} {Hz H : Hp} {a : Addr} {o : Ob} (h : OkOb K Hz H a o) : H a ≠ none := by
  cases o with
  | lst ds => obtain ⟨xs, e, _⟩ := h; rw [e]; exact Option.some_ne_none _
  | dT ds => obtain ⟨xs, e, _⟩ := h; rw [e]; exact Option.some_ne_none _
  | dK ds => obtain ⟨xs, e, _⟩ := h; rw [e]; exact Option.some_ne_none _
  | dN P w ds => obtain ⟨xs, e, _⟩ := h; rw [e]; exact Option.some_ne_none _
  | ext φ => exact h.1
theorem OkOb.ntup {K : PySem.W.Frag} {Hz H : Hp} {a : Addr} {o : Ob} (h : OkOb K Hz H a o) : ∀ u, H a = some u → tupO u = false := by
  cases o with
  | lst ds => obtain ⟨xs, e, _⟩ := h; intro u q; rw [e] at q; cases q; rfl
  | dT ds => obtain ⟨xs, e, _⟩ := h; intro u q; rw [e] at q; cases q; rfl
  | dK ds => obtain ⟨xs, e, _⟩ := h; intro u q; rw [e] at q; cases q; rfl
  | dN P w ds => obtain ⟨xs, e, _⟩ := h; intro u q; rw [e] at q; cases q; rfl
  | ext φ => exact h.2.1
theorem OkOb.keep {K : PySem.W.Frag} {Hz Hz' H H' : Hp} {a : Addr} {o : Ob} (h : OkOb K Hz H a o) (s : Same Hz Hz') (e : H' a = H a) : OkOb K Hz' H' a o := by
  cases o with
  | lst ds => obtain ⟨xs, q, d⟩ := h; exact ⟨xs, by rw [e]; exact q, dps_mono s _ _ d⟩
  | dT ds => obtain ⟨xs, q, d1, d2⟩ := h; exact ⟨xs, by rw [e]; exact q, d1, dps_mono s _ _ d2⟩
  | dK ds => obtain ⟨xs, q, d1, d2⟩ := h; exact ⟨xs, by rw [e]; exact q, d1, dps_mono s _ _ d2⟩
  | dN P w ds => obtain ⟨xs, q, d0, d1, d2⟩ := h; exact ⟨xs, by rw [e]; exact q, fun x hx => (d0 x hx).mono s, d1, dps_mono s _ _ d2⟩
  | ext φ =>
    obtain ⟨h1, h2, h3, h4⟩ := h
    refine ⟨by rw [e]; exact h1, by rw [e]; exact h2, by rw [e]; exact h4 _ s, fun Hz2 s2 => by rw [e]; exact h4 _ (fun b o q => s2 b o (s b o q))⟩
/-- a def's frame: the written part, the objects that it was given, the heap at its start (what is fixed of it, and all) -/
structure Fr where
  K : PySem.W.Frag
  A : List Addr
  Z0 : Hp
  H0 : Hp
  n : Nat
/-- an instance's attributes -/
inductive PF (K : PySem.W.Frag) (Hz : Hp) : List (String × PyData) → List (Str × V) → Prop
  | nil : PF K Hz [] []
  | cons {s : String} {v : V} {d : PyData} {fs : List (String × PyData)} {vs : List (Str × V)} : Dp K Hz v d → PF K Hz fs vs → PF K Hz ((s, d) :: fs) ((Str.ofString s, v) :: vs)
theorem PF.mono {K : PySem.W.Frag} {Hz Hz' : Hp} (s : Same Hz Hz') {fs : List (String × PyData)} {vs : List (Str × V)} (h : PF K Hz fs vs) : PF K Hz' fs vs := by
  induction h with
  | nil => exact .nil
  | cons d _ ih => exact .cons (dp_mono s _ _ d) ih
def OkC (K : PySem.W.Frag) (Hz H : Hp) (a : Addr) : Cell → Prop
  | .ob o => OkOb K Hz H a o
  | .ins C fs => ∃ dx vs, H a = some (.ins C dx vs) ∧ PF K Hz fs vs
theorem OkC.there {K : PySem.W.Frag} {Hz H : Hp} {a : Addr} {c : Cell} (h : OkC K Hz H a c) : H a ≠ none := by
  cases c with
  | ob o => exact OkOb.there h
  | ins C fs => obtain ⟨dx, vs, e, _⟩ := h; rw [e]; exact Option.some_ne_none _
theorem OkC.ntup {K : PySem.W.Frag} {Hz H : Hp} {a : Addr} {c : Cell} (h : OkC K Hz H a c) : ∀ u, H a = some u → tupO u = false := by
  cases c with
  | ob o => exact OkOb.ntup h
  | ins C fs => obtain ⟨dx, vs, e, _⟩ := h; intro u q; rw [e] at q; cases q; rfl
theorem OkC.keep {K : PySem.W.Frag} {Hz Hz' H H' : Hp} {a : Addr} {c : Cell} (h : OkC K Hz H a c) (s : Same Hz Hz') (e : H' a = H a) : OkC K Hz' H' a c := by
  cases c with
  | ob o => exact OkOb.keep h s e
  | ins C fs => obtain ⟨dx, vs, q, p⟩ := h; exact ⟨dx, vs, by rw [e]; exact q, p.mono s⟩
/-- the shared objects, told by a list -/
def lkp : List (Addr × Cell) → Gh
  | [] => fun _ => none
  | (a, c) :: l => fun b => if b = a then some c else lkp l b
structure PG (f : Fr) (Hz H : Hp) (l : List (Addr × Cell)) : Prop where
  ok : ∀ p ∈ l, OkC f.K Hz H p.1 p.2
  own : ∀ p ∈ l, p.1 ∈ f.A ∨ f.H0 p.1 = none
theorem lkp_mem : ∀ {l : List (Addr × Cell)} {a : Addr} {c : Cell}, lkp l a = some c → (a, c) ∈ l
  | [], _, _, h => by cases h
  | (b, d) :: l, a, c, h => by
    unfold lkp at h
    by_cases e : a = b
    · rw [if_pos e] at h
      cases h
      rw [e]
      exact List.mem_cons_self
    · rw [if_neg e] at h
      exact List.mem_cons_of_mem _ (lkp_mem h)
theorem lkp_some : ∀ {l : List (Addr × Cell)} {a : Addr}, a ∈ l.map (·.1) → ∃ c, lkp l a = some c
  | [], _, h => by cases h
  | (b, d) :: l, a, h => by
    unfold lkp
    by_cases e : a = b
    · exact ⟨d, if_pos e⟩
    · rw [if_neg e]
      rw [List.map_cons, List.mem_cons] at h
      exact lkp_some (h.resolve_left e)
/-- one of them changed -/
def setL (l : List (Addr × Cell)) (a : Addr) (c : Cell) : List (Addr × Cell) := l.map fun p => if p.1 = a then (a, c) else p
theorem setL_keys (l : List (Addr × Cell)) (a : Addr) (c : Cell) : (setL l a c).map (·.1) = l.map (·.1) := by
  unfold setL
  rw [List.map_map]
  apply List.map_congr_left
  intro p _
  simp only [Function.comp]
  split
  · rename_i e
    exact e.symm
  · rfl
theorem lkp_cons {b : Addr} {d : Cell} {l : List (Addr × Cell)} {x : Addr} : lkp ((b, d) :: l) x = if x = b then some d else lkp l x := rfl
theorem setL_cons {b : Addr} {d : Cell} {l : List (Addr × Cell)} {a : Addr} {c : Cell} : setL ((b, d) :: l) a c = (if b = a then (a, c) else (b, d)) :: setL l a c := rfl
theorem setL_not {l : List (Addr × Cell)} {a : Addr} {c : Cell} (h : a ∉ l.map (·.1)) : setL l a c = l := by
  unfold setL
  have : ∀ p ∈ l, (if p.1 = a then (a, c) else p) = p := fun p hp => if_neg fun z => h (List.mem_map.mpr ⟨p, hp, z⟩)
  rw [List.map_congr_left this, List.map_id']
theorem lkp_setL : ∀ {l : List (Addr × Cell)} {a : Addr} {c : Cell}, a ∈ l.map (·.1) → lkp (setL l a c) = upG (lkp l) a c
  | [], _, _, h => by cases h
  | (b, d) :: l, a, c, h => by
    funext x
    rw [List.map_cons, List.mem_cons] at h
    rw [setL_cons]
    by_cases e : b = a
    · subst e
      rw [if_pos rfl, lkp_cons]
      by_cases q : x = b
      · rw [if_pos q, q, upG_same]
      · rw [if_neg q, upG_ne q, lkp_cons, if_neg q]
        by_cases hm : b ∈ l.map (·.1)
        · rw [lkp_setL hm, upG_ne q]
        · rw [setL_not hm]
    · rw [if_neg e, lkp_cons]
      have hm : a ∈ l.map (·.1) := h.resolve_left fun z => e z.symm
      by_cases q : x = b
      · rw [if_pos q, upG_ne (by rw [q]; exact e), lkp_cons, if_pos q]
      · rw [if_neg q, lkp_setL hm]
        unfold upG
        rw [lkp_cons, if_neg q]
inductive Pr (f : Fr) (Hz H : Hp) : En → St → List Addr → Prop
  | nil : Pr f Hz H [] [] []
  | gs {G : Gh} (l : List (Addr × Cell)) : G = lkp l → PG f Hz H l → Pr f Hz H [some (.gs G)] [] (l.map (·.1))
  | skip {x : Option V} {L : En} {W : St} {O : List Addr} : Pr f Hz H L W O → Pr f Hz H (none :: L) (x :: W) O
  | dat {v : V} {d : PyData} {L : En} {W : St} {O : List Addr} : Dp f.K Hz v d → Pr f Hz H L W O → Pr f Hz H (some (.dat d) :: L) (some v :: W) O
  | ob {a : Addr} {t : Option Nat} {o : Ob} {L : En} {W : St} {O : List Addr} : OkOb f.K Hz H a o → (t = none → f.H0 a = none) → (∀ j, t = some j → f.A[j]? = some a) → Pr f Hz H L W O → Pr f Hz H (some (.ob t o) :: L) (some (.ref a) :: W) (a :: O)
section
variable {f : Fr} {Hz Hz' H H' : Hp} {L : En} {W : St} {O : List Addr}
theorem Pr.keep (h : Pr f Hz H L W O) (s : Same Hz Hz') (e : ∀ a ∈ O, H' a = H a) : Pr f Hz' H' L W O := by
  induction h with
  | nil => exact .nil
  | gs l hl g => exact .gs l hl ⟨fun p hp => (g.ok p hp).keep s (e _ (List.mem_map.mpr ⟨p, hp, rfl⟩)), g.own⟩
  | skip _ ih => exact .skip (ih e)
  | dat d _ ih => exact .dat (dp_mono s _ _ d) (ih e)
  | ob o h1 h2 _ ih => exact .ob (o.keep s (e _ List.mem_cons_self)) h1 h2 (ih fun a ha => e a (List.mem_cons_of_mem _ ha))
theorem Pr.le (h : Pr f Hz H L W O) : W.length ≤ L.length := by
  induction h with
  | nil => exact Nat.le_refl _
  | gs l _ _ => exact Nat.zero_le _
  | skip _ ih => exact Nat.succ_le_succ ih
  | dat d _ ih => exact Nat.succ_le_succ ih
  | ob o h1 h2 _ ih => exact Nat.succ_le_succ ih
theorem Pr.there (h : Pr f Hz H L W O) : ∀ a ∈ O, H a ≠ none := by
  induction h with
  | nil => intro a ha; cases ha
  | gs l _ g =>
    intro a ha
    obtain ⟨p, hp, rfl⟩ := List.mem_map.mp ha
    exact (g.ok p hp).there
  | skip _ ih => exact ih
  | dat d _ ih => exact ih
  | ob o h1 h2 _ ih =>
    intro a ha
    rcases List.mem_cons.mp ha with rfl | ha
    · exact o.there
    · exact ih a ha
theorem Pr.get (h : Pr f Hz H L W O) : ∀ {i : Nat} {d : PyData}, L[i]? = some (some (.dat d)) → ∃ v, W[i]? = some (some v) ∧ Dp f.K Hz v d := by
  induction h with
  | nil => intro i d e; cases e
  | gs l _ _ =>
    intro i d e
    cases i with
    | zero => cases e
    | succ i => cases e
  | skip _ ih =>
    intro i d e
    cases i with
    | zero => cases e
    | succ i => exact ih e
  | dat q _ ih =>
    intro i d e
    cases i with
    | zero => cases e; exact ⟨_, rfl, q⟩
    | succ i => exact ih e
  | ob o h1 h2 _ ih =>
    intro i d e
    cases i with
    | zero => cases e
    | succ i => exact ih e
/-- the object of a slot taken out -/
theorem Pr.take (h : Pr f Hz H L W O) : ∀ {i : Nat} {t : Option Nat} {o : Ob}, L[i]? = some (some (.ob t o)) →
    ∃ a O', W[i]? = some (some (.ref a)) ∧ OkOb f.K Hz H a o ∧ (t = none → f.H0 a = none) ∧ (∀ j, t = some j → f.A[j]? = some a) ∧ O.Perm (a :: O') ∧ Pr f Hz H (L.set i none) W O' := by
  induction h with
  | nil => intro i t o e; cases e
  | gs l _ _ =>
    intro i t o e
    cases i with
    | zero => cases e
    | succ i => cases e
  | skip _ ih =>
    intro i t o e
    cases i with
    | zero => cases e
    | succ i =>
      obtain ⟨a, O', h1, h2, h3, h4, h5, h6⟩ := ih e
      exact ⟨a, O', h1, h2, h3, h4, h5, .skip h6⟩
  | dat q _ ih =>
    intro i t o e
    cases i with
    | zero => cases e
    | succ i =>
      obtain ⟨a, O', h1, h2, h3, h4, h5, h6⟩ := ih e
      exact ⟨a, O', h1, h2, h3, h4, h5, .dat q h6⟩
  | @ob a0 t0 o0 L W O q h1 h2 r ih =>
    intro i t o e
    cases i with
    | zero =>
      cases e
      exact ⟨a0, O, rfl, q, h1, h2, List.Perm.refl _, .skip r⟩
    | succ i =>
      obtain ⟨a, O', g1, g2, g3, g4, g5, g6⟩ := ih e
      exact ⟨a, a0 :: O', g1, g2, g3, g4, (g5.cons a0).trans (List.Perm.swap _ _ _), .ob q h1 h2 g6⟩
/-- a slot forgotten -/
theorem Pr.wipe (h : Pr f Hz H L W O) : ∀ (i : Nat) (x : Option V), i < W.length → ∃ O', (∃ r, O.Perm (r ++ O')) ∧ Pr f Hz H (L.set i none) (W.set i x) O' := by
  induction h with
  | nil => intro i x hi; cases hi
  | gs l _ _ => intro i x hi; cases hi
  | @skip y L W O p ih =>
    intro i x hi
    cases i with
    | zero => exact ⟨O, ⟨[], List.Perm.refl _⟩, .skip p⟩
    | succ i =>
      obtain ⟨O', h1, h2⟩ := ih i x (Nat.lt_of_succ_lt_succ hi)
      exact ⟨O', h1, .skip h2⟩
  | @dat v d L W O q p ih =>
    intro i x hi
    cases i with
    | zero => exact ⟨O, ⟨[], List.Perm.refl _⟩, .skip p⟩
    | succ i =>
      obtain ⟨O', h1, h2⟩ := ih i x (Nat.lt_of_succ_lt_succ hi)
      exact ⟨O', h1, .dat q h2⟩
  | @ob a t o L W O q g1 g2 p ih =>
    intro i x hi
    cases i with
    | zero => exact ⟨O, ⟨[a], List.Perm.refl _⟩, .skip p⟩
    | succ i =>
      obtain ⟨O', ⟨r, h1⟩, h2⟩ := ih i x (Nat.lt_of_succ_lt_succ hi)
      exact ⟨a :: O', ⟨r, (h1.cons a).trans (List.perm_middle.symm)⟩, .ob q g1 g2 h2⟩
/-- data into a slot that holds nothing -/
theorem Pr.putD (h : Pr f Hz H L W O) : ∀ {i : Nat} {v : V} {d : PyData}, Dp f.K Hz v d → L[i]? = some none → Pr f Hz H (L.set i (some (.dat d))) (W.set i (some v)) O := by
  induction h with
  | nil => intro i v d q e; cases e
  | gs l _ _ =>
    intro i v d q e
    cases i with
    | zero => cases e
    | succ i => cases e
  | skip p ih =>
    intro i v d q e
    cases i with
    | zero => exact .dat q p
    | succ i => exact .skip (ih q e)
  | dat q p ih =>
    intro i v d q' e
    cases i with
    | zero => cases e
    | succ i => exact .dat q (ih q' e)
  | ob q g1 g2 p ih =>
    intro i v d q' e
    cases i with
    | zero => cases e
    | succ i => exact .ob q g1 g2 (ih q' e)
/-- an object into a slot that holds nothing -/
theorem Pr.putO (h : Pr f Hz H L W O) : ∀ {i : Nat} {a : Addr} {t : Option Nat} {o : Ob}, OkOb f.K Hz H a o → (t = none → f.H0 a = none) → (∀ j, t = some j → f.A[j]? = some a) → L[i]? = some none →
    ∃ O', O'.Perm (a :: O) ∧ Pr f Hz H (L.set i (some (.ob t o))) (W.set i (some (.ref a))) O' := by
  induction h with
  | nil => intro i a t o _ _ _ e; cases e
  | gs l _ _ =>
    intro i a t o _ _ _ e
    cases i with
    | zero => cases e
    | succ i => cases e
  | @skip y L W O p ih =>
    intro i a t o q1 q2 q3 e
    cases i with
    | zero => exact ⟨_, List.Perm.refl _, .ob q1 q2 q3 p⟩
    | succ i =>
      obtain ⟨O', h1, h2⟩ := ih q1 q2 q3 e
      exact ⟨O', h1, .skip h2⟩
  | dat q p ih =>
    intro i a t o q1 q2 q3 e
    cases i with
    | zero => cases e
    | succ i =>
      obtain ⟨O', h1, h2⟩ := ih q1 q2 q3 e
      exact ⟨O', h1, .dat q h2⟩
  | @ob a0 t0 o0 L W O q g1 g2 p ih =>
    intro i a t o q1 q2 q3 e
    cases i with
    | zero => cases e
    | succ i =>
      obtain ⟨O', h1, h2⟩ := ih q1 q2 q3 e
      exact ⟨a0 :: O', (h1.cons a0).trans (List.Perm.swap _ _ _), .ob q g1 g2 h2⟩
end
/-- the state: temporaries L, W; slots E, σ -/
structure Sy (f : Fr) (L : En) (W : St) (E : En) (σ : St) (Hz H : Hp) : Prop where
  ex : ∃ O1 O2, Pr f Hz H L W O1 ∧ Pr f Hz H E σ O2 ∧ (O1 ++ O2).Nodup ∧ ∀ a ∈ O1 ++ O2, Hz a = none
  sm : Same Hz H
  tz : Same f.Z0 Hz
  nw : ∀ b, Hz b ≠ none → f.Z0 b ≠ none ∨ f.H0 b = none
  kp : ∀ b u, b ∉ f.A → f.H0 b = some u → H b = some u
  ka : ∀ b, f.H0 b ≠ none → H b ≠ none
  az : ∀ a ∈ f.A, f.H0 a ≠ none ∧ Hz a = none
  tp : ∀ b u, H b = some u → tupO u = true → Hz b = some u
  ln : σ.length = f.n
section
variable {f : Fr} {Hz Hz' H H' : Hp} {L E : En} {W σ : St}
theorem same_up {p : Addr} {u : HO} (h : Hz p = none) : Same Hz (upd Hz p u) := same_new h u
/-- a fixed thing is laid -/
theorem Sy.newT {p : Addr} {u : HO} (y : Sy f L W E σ Hz H) (hp : H p = none) : Sy f L W E σ (upd Hz p u) (upd H p u) := by
  obtain ⟨⟨O1, O2, p1, p2, nd, fr⟩, sm, tz, nw, kp, ka, az, tp, ln⟩ := y
  have hz : Hz p = none := by
    cases e : Hz p with
    | none => rfl
    | some x => rw [sm _ _ e] at hp; cases hp
  have h0 : f.H0 p = none := by
    cases e : f.H0 p with
    | none => rfl
    | some x => exact absurd hp (ka p (by rw [e]; exact Option.some_ne_none _))
  have ne : ∀ a ∈ O1 ++ O2, a ≠ p := fun a ha c => by
    rcases List.mem_append.mp ha with ha | ha
    · exact p1.there a ha (by rw [c]; exact hp)
    · exact p2.there a ha (by rw [c]; exact hp)
  have s1 := same_up (u := u) hz
  refine ⟨⟨O1, O2, p1.keep s1 (fun a ha => upd_ne (ne a (List.mem_append_left _ ha))), p2.keep s1 (fun a ha => upd_ne (ne a (List.mem_append_right _ ha))), nd, fun a ha => ?_⟩, ?_, fun b o q => s1 b o (tz b o q), ?_, ?_, ?_, ?_, ?_, ln⟩
  · rw [upd_ne (ne a ha)]
    exact fr a ha
  · intro b o q
    by_cases c : b = p
    · subst c
      rw [upd_same] at q ⊢
      exact q
    · rw [upd_ne c] at q ⊢
      exact sm b o q
  · intro b q
    by_cases c : b = p
    · subst c
      exact .inr h0
    · rw [upd_ne c] at q
      exact nw b q
  · intro b w hb q
    rw [upd_ne (fun c => by rw [c, h0] at q; cases q)]
    exact kp b w hb q
  · intro b q
    rw [upd_ne (fun c => q (by rw [c]; exact h0))]
    exact ka b q
  · intro a ha
    obtain ⟨q1, q2⟩ := az a ha
    refine ⟨q1, ?_⟩
    rw [upd_ne (fun c => q1 (by rw [c]; exact h0))]
    exact q2
  · intro b w q c
    by_cases e : b = p
    · subst e
      rw [upd_same] at q ⊢
      exact q
    · rw [upd_ne e] at q ⊢
      exact tp b w q c
theorem Sy.hz {p : Addr} (y : Sy f L W E σ Hz H) (hp : H p = none) : Hz p = none := by
  cases e : Hz p with
  | none => rfl
  | some x => rw [y.sm _ _ e] at hp; cases hp
/-- an object of its own is laid, as a temporary -/
theorem Sy.newO {p : Addr} {u : HO} {o : Ob} (y : Sy f L W E σ Hz H) (hp : H p = none) (ho : OkOb f.K Hz (upd H p u) p o) : Sy f (some (.ob none o) :: L) (some (.ref p) :: W) E σ Hz (upd H p u) := by
  have hz := y.hz hp
  obtain ⟨⟨O1, O2, p1, p2, nd, fr⟩, sm, tz, nw, kp, ka, az, tp, ln⟩ := y
  have h0 : f.H0 p = none := by
    cases e : f.H0 p with
    | none => rfl
    | some x => exact absurd hp (ka p (by rw [e]; exact Option.some_ne_none _))
  have ne : ∀ a ∈ O1 ++ O2, a ≠ p := fun a ha c => by
    rcases List.mem_append.mp ha with ha | ha
    · exact p1.there a ha (by rw [c]; exact hp)
    · exact p2.there a ha (by rw [c]; exact hp)
  have s1 : Same Hz Hz := fun _ _ q => q
  refine ⟨⟨p :: O1, O2, .ob ho (fun _ => h0) (fun j e => by cases e) (p1.keep s1 (fun a ha => upd_ne (ne a (List.mem_append_left _ ha)))), p2.keep s1 (fun a ha => upd_ne (ne a (List.mem_append_right _ ha))), ?_, ?_⟩, ?_, tz, nw, ?_, ?_, az, ?_, ln⟩
  · exact List.nodup_cons.mpr ⟨fun h => ne p h rfl, nd⟩
  · intro a ha
    rcases List.mem_cons.mp ha with rfl | ha
    · exact hz
    · exact fr a ha
  · intro b o q
    rw [upd_ne (fun c => by rw [c, hz] at q; cases q)]
    exact sm b o q
  · intro b w hb q
    rw [upd_ne (fun c => by rw [c, h0] at q; cases q)]
    exact kp b w hb q
  · intro b q
    rw [upd_ne (fun c => q (by rw [c]; exact h0))]
    exact ka b q
  · intro b w q c
    by_cases e : b = p
    · subst e
      rw [ho.ntup w q] at c
      cases c
    · rw [upd_ne e] at q
      exact tp b w q c
theorem Sy.pop {x : Option B} {v : Option V} (y : Sy f (x :: L) (v :: W) E σ Hz H) : Sy f L W E σ Hz H := by
  obtain ⟨⟨O1, O2, p1, p2, nd, fr⟩, sm, tz, nw, kp, ka, az, tp, ln⟩ := y
  cases p1 with
  | skip p => exact ⟨⟨_, O2, p, p2, nd, fr⟩, sm, tz, nw, kp, ka, az, tp, ln⟩
  | dat _ p => exact ⟨⟨_, O2, p, p2, nd, fr⟩, sm, tz, nw, kp, ka, az, tp, ln⟩
  | ob _ _ _ p => exact ⟨⟨_, O2, p, p2, (List.nodup_cons.mp nd).2, fun a ha => fr a (List.mem_cons_of_mem _ ha)⟩, sm, tz, nw, kp, ka, az, tp, ln⟩
theorem Sy.get {i : Nat} {d : PyData} (y : Sy f L W E σ Hz H) (e : E[i]? = some (some (.dat d))) : ∃ v, σ[i]? = some (some v) ∧ Dp f.K Hz v d := by
  obtain ⟨O1, O2, p1, p2, nd, fr⟩ := y.ex
  exact p2.get e
theorem Sy.ob {i : Nat} {t : Option Nat} {o : Ob} (y : Sy f L W E σ Hz H) (e : E[i]? = some (some (.ob t o))) : ∃ a, σ[i]? = some (some (.ref a)) ∧ OkOb f.K Hz H a o ∧ Hz a = none := by
  obtain ⟨O1, O2, p1, p2, nd, fr⟩ := y.ex
  obtain ⟨a, O', h1, h2, h3, h4, h5, h6⟩ := p2.take e
  exact ⟨a, h1, h2, fr a (List.mem_append_right _ (h5.mem_iff.mpr List.mem_cons_self))⟩
theorem Sy.top {t : Option Nat} {o : Ob} {v : Option V} (y : Sy f (some (.ob t o) :: L) (v :: W) E σ Hz H) : ∃ a, v = some (.ref a) ∧ OkOb f.K Hz H a o ∧ Hz a = none := by
  obtain ⟨O1, O2, p1, p2, nd, fr⟩ := y.ex
  cases p1 with
  | ob h1 h2 h3 p => exact ⟨_, rfl, h1, fr _ (List.mem_append_left _ List.mem_cons_self)⟩
theorem Sy.le (y : Sy f L W E σ Hz H) : σ.length ≤ E.length := by
  obtain ⟨O1, O2, p1, p2, nd, fr⟩ := y.ex
  exact p2.le
end
theorem perm_nodup {α : Type} {a b c : List α} (h : (a ++ b).Nodup) (p : b.Perm c) : (a ++ c).Nodup := (p.append_left a).nodup_iff.mp h
section
variable {f : Fr} {Hz Hz' H H' : Hp} {L E : En} {W σ : St}
theorem set_set_none {α : Type} (l : List (Option α)) (i : Nat) (x : Option α) : (l.set i none).set i x = l.set i x := by rw [List.set_set]
/-- the object of a slot is changed -/
theorem Sy.wr {i : Nat} {t : Option Nat} {o o' : Ob} {a : Addr} {u : HO} (y : Sy f L W E σ Hz H) (e : E[i]? = some (some (.ob t o))) (ea : σ[i]? = some (some (.ref a))) (ho : OkOb f.K Hz (upd H a u) a o') :
    Sy f L W (E.set i (some (.ob t o'))) σ Hz (upd H a u) := by
  obtain ⟨⟨O1, O2, p1, p2, nd, fr⟩, sm, tz, nw, kp, ka, az, tp, ln⟩ := y
  obtain ⟨a', O', h1, h2, h3, h4, h5, h6⟩ := p2.take e
  rw [ea] at h1
  obtain rfl := V.ref.inj (Option.some.inj (Option.some.inj h1))
  have nd2 := perm_nodup nd h5
  have hz : Hz a = none := fr a (List.mem_append_right _ (h5.mem_iff.mpr List.mem_cons_self))
  have nd3 := List.nodup_append.mp nd2
  have n1 : ∀ b ∈ O1, b ≠ a := fun b hb c => nd3.2.2 b hb a List.mem_cons_self c
  have n2 : ∀ b ∈ O', b ≠ a := fun b hb c => (List.nodup_cons.mp nd3.2.1).1 (c ▸ hb)
  have s1 : Same Hz Hz := fun _ _ q => q
  have hi : i < E.length := (List.getElem?_eq_some_iff.mp e).1
  have e0 : (E.set i none)[i]? = some none := by rw [List.getElem?_set_self hi]
  obtain ⟨O3, g1, g2⟩ := (h6.keep s1 (fun b hb => upd_ne (n2 b hb)) : Pr f Hz (upd H a u) _ _ _).putO ho h3 h4 e0
  rw [set_set_none] at g2
  have eσ : σ.set i (some (V.ref a)) = σ := by
    apply List.ext_getElem?
    intro n
    by_cases hn : i = n
    · subst hn
      rw [ea, List.getElem?_set_self (List.getElem?_eq_some_iff.mp ea).1]
    · rw [List.getElem?_set_ne hn]
  rw [eσ] at g2
  refine ⟨⟨O1, O3, p1.keep s1 (fun b hb => upd_ne (n1 b hb)), g2, perm_nodup nd2 g1.symm, fun b hb => fr b ?_⟩, ?_, tz, nw, ?_, ?_, az, ?_, ln⟩
  · rcases List.mem_append.mp hb with hb | hb
    · exact List.mem_append_left _ hb
    · exact List.mem_append_right _ (h5.mem_iff.mpr (g1.mem_iff.mp hb))
  · intro b o q
    rw [upd_ne (fun c => by rw [c, hz] at q; cases q)]
    exact sm b o q
  · intro b w hb q
    by_cases c : b = a
    · subst c
      cases t with
      | none => rw [h3 rfl] at q; cases q
      | some j => exact absurd (List.mem_of_getElem? (h4 j rfl)) hb
    · rw [upd_ne c]
      exact kp b w hb q
  · intro b q
    by_cases c : b = a
    · subst c
      rw [upd_same]
      exact Option.some_ne_none _
    · rw [upd_ne c]
      exact ka b q
  · intro b w q c
    by_cases e : b = a
    · subst e
      rw [ho.ntup w q] at c
      cases c
    · rw [upd_ne e] at q
      exact tp b w q c
/-- the topmost temporary is changed -/
theorem Sy.wrT {t : Option Nat} {o o' : Ob} {a : Addr} {u : HO} (y : Sy f (some (.ob t o) :: L) (some (.ref a) :: W) E σ Hz H) (ho : OkOb f.K Hz (upd H a u) a o') :
    Sy f (some (.ob t o') :: L) (some (.ref a) :: W) E σ Hz (upd H a u) := by
  obtain ⟨⟨O1, O2, p1, p2, nd, fr⟩, sm, tz, nw, kp, ka, az, tp, ln⟩ := y
  cases p1 with
  | @ob _ _ _ _ _ O1 q1 q2 q3 p1 =>
    have n1 : ∀ b ∈ O1 ++ O2, b ≠ a := fun b hb c => (List.nodup_cons.mp nd).1 (c ▸ hb)
    have s1 : Same Hz Hz := fun _ _ q => q
    have hz : Hz a = none := fr a List.mem_cons_self
    refine ⟨⟨a :: O1, O2, .ob ho q2 q3 (p1.keep s1 (fun b hb => upd_ne (n1 b (List.mem_append_left _ hb)))), p2.keep s1 (fun b hb => upd_ne (n1 b (List.mem_append_right _ hb))), nd, fr⟩, ?_, tz, nw, ?_, ?_, az, ?_, ln⟩
    · intro b o q
      rw [upd_ne (fun c => by rw [c, hz] at q; cases q)]
      exact sm b o q
    · intro b w hb q
      by_cases c : b = a
      · subst c
        cases t with
        | none => rw [q2 rfl] at q; cases q
        | some j => exact absurd (List.mem_of_getElem? (q3 j rfl)) hb
      · rw [upd_ne c]
        exact kp b w hb q
    · intro b q
      by_cases c : b = a
      · subst c
        rw [upd_same]
        exact Option.some_ne_none _
      · rw [upd_ne c]
        exact ka b q
    · intro b w q c
      by_cases e : b = a
      · subst e
        rw [ho.ntup w q] at c
        cases c
      · rw [upd_ne e] at q
        exact tp b w q c
/-- data into a slot -/
theorem Sy.setD {i : Nat} {v : V} {d : PyData} (y : Sy f L W E σ Hz H) (hd : Dp f.K Hz v d) (hn : i < f.n) : Sy f L W (E.set i (some (.dat d))) (σ.set i (some v)) Hz H := by
  have hl := y.le
  obtain ⟨⟨O1, O2, p1, p2, nd, fr⟩, sm, tz, nw, kp, ka, az, tp, ln⟩ := y
  have hs : i < σ.length := by omega
  have hi : i < E.length := by omega
  obtain ⟨O', ⟨r, h1⟩, h2⟩ := p2.wipe i (some v) hs
  have h3 := h2.putD (i := i) hd (by rw [List.getElem?_set_self hi])
  rw [List.set_set, List.set_set] at h3
  have nd2 := perm_nodup nd h1
  have sub : (O1 ++ O').Sublist (O1 ++ (r ++ O')) := List.Sublist.append (List.Sublist.refl _) (List.sublist_append_right _ _)
  refine ⟨⟨O1, O', p1, h3, sub.nodup nd2, fun a ha => fr a ?_⟩, sm, tz, nw, kp, ka, az, tp, by rw [List.length_set]; exact ln⟩
  have := sub.subset ha
  rcases List.mem_append.mp this with q | q
  · exact List.mem_append_left _ q
  · exact List.mem_append_right _ (h1.mem_iff.mpr q)
/-- a slot forgotten -/
theorem Sy.forget {i : Nat} {x : Option V} (y : Sy f L W E σ Hz H) (hn : i < f.n) : Sy f L W (E.set i none) (σ.set i x) Hz H := by
  have hl := y.le
  obtain ⟨⟨O1, O2, p1, p2, nd, fr⟩, sm, tz, nw, kp, ka, az, tp, ln⟩ := y
  have hs : i < σ.length := by omega
  have hi : i < E.length := by omega
  obtain ⟨O', ⟨r, h1⟩, h2⟩ := p2.wipe i x hs
  have nd2 := perm_nodup nd h1
  have sub : (O1 ++ O').Sublist (O1 ++ (r ++ O')) := List.Sublist.append (List.Sublist.refl _) (List.sublist_append_right _ _)
  refine ⟨⟨O1, O', p1, h2, sub.nodup nd2, fun a ha => fr a ?_⟩, sm, tz, nw, kp, ka, az, tp, by rw [List.length_set]; exact ln⟩
  have := sub.subset ha
  rcases List.mem_append.mp this with q | q
  · exact List.mem_append_left _ q
  · exact List.mem_append_right _ (h1.mem_iff.mpr q)
/-- the topmost temporary into a slot -/
theorem Sy.setO {i : Nat} {v : V} {t : Option Nat} {o : Ob} (y : Sy f (some (.ob t o) :: L) (some v :: W) E σ Hz H) (hn : i < f.n) : Sy f L W (E.set i (some (.ob t o))) (σ.set i (some v)) Hz H := by
  have hl := y.le
  obtain ⟨⟨O1, O2, p1, p2, nd, fr⟩, sm, tz, nw, kp, ka, az, tp, ln⟩ := y
  have hs : i < σ.length := by omega
  have hi : i < E.length := by omega
  cases p1 with
  | @ob a _ _ _ _ O1 q1 q2 q3 p1 =>
    obtain ⟨O', ⟨r, h1⟩, h2⟩ := p2.wipe i (some (.ref a)) hs
    obtain ⟨O3, g1, h3⟩ := h2.putO (i := i) q1 q2 q3 (by rw [List.getElem?_set_self hi])
    rw [List.set_set, List.set_set] at h3
    have nd1 : ((a :: O1) ++ (r ++ O')).Nodup := perm_nodup nd h1
    have sub : ((a :: O1) ++ O').Sublist ((a :: O1) ++ (r ++ O')) := List.Sublist.append (List.Sublist.refl _) (List.sublist_append_right _ _)
    have nd2 : ((a :: O1) ++ O').Nodup := sub.nodup nd1
    have pm : (O1 ++ O3).Perm ((a :: O1) ++ O') := ((g1.append_left O1).trans List.perm_middle)
    refine ⟨⟨O1, O3, p1, h3, pm.nodup_iff.mpr nd2, fun b hb => fr b ?_⟩, sm, tz, nw, kp, ka, az, tp, by rw [List.length_set]; exact ln⟩
    have h4 := sub.subset (pm.mem_iff.mp hb)
    rcases List.mem_append.mp h4 with q | q
    · exact List.mem_append_left _ q
    · exact List.mem_append_right _ (h1.mem_iff.mpr q)
/-- the object of a slot becomes the topmost temporary -/
theorem Sy.mv {i : Nat} {v : V} {t : Option Nat} {o : Ob} (y : Sy f L W E σ Hz H) (e : E[i]? = some (some (.ob t o))) (ev : σ[i]? = some (some v)) : Sy f (some (.ob t o) :: L) (some v :: W) (E.set i none) σ Hz H := by
  obtain ⟨⟨O1, O2, p1, p2, nd, fr⟩, sm, tz, nw, kp, ka, az, tp, ln⟩ := y
  obtain ⟨a, O', h1, h2, h3, h4, h5, h6⟩ := p2.take e
  rw [ev] at h1
  obtain rfl := Option.some.inj (Option.some.inj h1)
  have pm : ((a :: O1) ++ O').Perm (O1 ++ O2) := (List.perm_middle.symm).trans (h5.symm.append_left O1)
  refine ⟨⟨a :: O1, O', .ob h2 h3 h4 p1, h6, pm.nodup_iff.mpr nd, fun b hb => fr b (pm.mem_iff.mp hb)⟩, sm, tz, nw, kp, ka, az, tp, ln⟩
/-- the topmost temporary, a list, is fixed -/
theorem Sy.frz {v : V} {ds : List PyData} (y : Sy f (some (.ob none (.lst ds)) :: L) (some v :: W) E σ Hz H) : ∃ Hz', Sy f L W E σ Hz' H ∧ Same Hz Hz' ∧ Dp f.K Hz' v (.list ds) := by
  obtain ⟨⟨O1, O2, p1, p2, nd, fr⟩, sm, tz, nw, kp, ka, az, tp, ln⟩ := y
  cases p1 with
  | @ob a _ _ _ _ O1 q1 q2 q3 p1 =>
    obtain ⟨xs, hx, hd⟩ := q1
    have hz : Hz a = none := fr a List.mem_cons_self
    have s1 : Same Hz (upd Hz a (.lst xs)) := same_new hz _
    have ne : ∀ b ∈ O1 ++ O2, b ≠ a := fun b hb c => (List.nodup_cons.mp nd).1 (c ▸ hb)
    refine ⟨upd Hz a (.lst xs), ⟨⟨O1, O2, p1.keep s1 (fun _ _ => rfl), p2.keep s1 (fun _ _ => rfl), (List.nodup_cons.mp nd).2, fun b hb => ?_⟩, ?_, fun b o q => s1 b o (tz b o q), ?_, kp, ka, ?_, fun b w q c => s1 b w (tp b w q c), ln⟩, s1, .lst (SqL.of upd_same) (dps_mono s1 _ _ hd)⟩
    · rw [upd_ne (ne b hb)]
      exact fr b (List.mem_cons_of_mem _ hb)
    · intro b o q
      by_cases c : b = a
      · subst c
        rw [upd_same] at q
        rw [hx]
        exact q
      · rw [upd_ne c] at q
        exact sm b o q
    · intro b q
      by_cases c : b = a
      · subst c
        exact .inr (q2 rfl)
      · rw [upd_ne c] at q
        exact nw b q
    · intro b hb
      obtain ⟨g1, g2⟩ := az b hb
      refine ⟨g1, ?_⟩
      rw [upd_ne (fun c => g1 (by rw [c]; exact q2 rfl))]
      exact g2
end
/-- tuples are fixed -/
theorem Sy.kpT {f : Fr} {L E : En} {W σ : St} {Hz H : Hp} (y : Sy f L W E σ Hz H) : KpT H Hz := fun K a xs h => by
  rcases h with (h | ⟨o, h⟩) | h
  · exact .inl (.inl (y.tp _ _ h rfl))
  · exact .inl (.inr ⟨o, y.tp _ _ h rfl⟩)
  · exact .inr h
theorem Sy.dpz {f : Fr} {L E : En} {W σ : St} {Hz H : Hp} {v : V} {d : PyData} (y : Sy f L W E σ Hz H) (p : pT d = true) (h : Dp f.K H v d) : Dp f.K Hz v d := dp_keep y.kpT d v p h
end DL


set_option Elab.async false
set_option linter.all false
set_option maxRecDepth 100000
set_option maxHeartbeats 4000000
/-! Shared objects: read, changed, new. -/
namespace DL
open PySem L2 TG
section
variable {f : Fr} {Hz Hz' H H' : Hp} {L E : En} {W σ : St} {O : List Addr}
theorem Pr.gtake (h : Pr f Hz H L W O) : ∀ {n : Nat} {G : Gh}, L[n]? = some (some (.gs G)) → ∃ l r, G = lkp l ∧ PG f Hz H l ∧ O.Perm (r ++ l.map (·.1)) ∧
    ∀ {Hz' H' : Hp} (l' : List (Addr × Cell)), Same Hz Hz' → (∀ a ∈ r, H' a = H a) → PG f Hz' H' l' → ∃ O', O'.Perm (r ++ l'.map (·.1)) ∧ Pr f Hz' H' (L.set n (some (.gs (lkp l')))) W O' := by
  induction h with
  | nil => intro n G e; cases e
  | gs l hl g =>
    intro n G e
    cases n with
    | zero =>
      cases e
      exact ⟨l, [], hl, g, List.Perm.refl _, fun l' s _ g' => ⟨_, List.Perm.refl _, .gs l' rfl g'⟩⟩
    | succ n => cases e
  | skip p ih =>
    intro n G e
    cases n with
    | zero => cases e
    | succ n =>
      obtain ⟨l, r, h1, h2, h3, h4⟩ := ih e
      exact ⟨l, r, h1, h2, h3, fun l' s k g' => by
        obtain ⟨O', q1, q2⟩ := h4 l' s k g'
        exact ⟨O', q1, .skip q2⟩⟩
  | dat q p ih =>
    intro n G e
    cases n with
    | zero => cases e
    | succ n =>
      obtain ⟨l, r, h1, h2, h3, h4⟩ := ih e
      exact ⟨l, r, h1, h2, h3, fun l' s k g' => by
        obtain ⟨O', q1, q2⟩ := h4 l' s k g'
        exact ⟨O', q1, .dat (dp_mono s _ _ q) q2⟩⟩
  | @ob a t o L W O q c1 c2 p ih =>
    intro n G e
    cases n with
    | zero => cases e
    | succ n =>
      obtain ⟨l, r, h1, h2, h3, h4⟩ := ih e
      exact ⟨l, a :: r, h1, h2, h3.cons a, fun l' s k g' => by
        obtain ⟨O', q1, q2⟩ := h4 l' s (fun b hb => k b (List.mem_cons_of_mem _ hb)) g'
        exact ⟨a :: O', q1.cons a, .ob (q.keep s (k a List.mem_cons_self)) c1 c2 q2⟩⟩
theorem same_self {H : Hp} : Same H H := fun _ _ q => q
theorem Sy.gget {n : Nat} {G : Gh} {a : Addr} {c : Cell} (y : Sy f L W E σ Hz H) (e : E[n]? = some (some (.gs G))) (h : G a = some c) : OkC f.K Hz H a c ∧ Hz a = none := by
  obtain ⟨O1, O2, p1, p2, nd, fr⟩ := y.ex
  obtain ⟨l, r, rfl, g, h3, _⟩ := p2.gtake e
  have hm := lkp_mem h
  refine ⟨g.ok _ hm, fr a (List.mem_append_right _ (h3.mem_iff.mpr (List.mem_append_right _ (List.mem_map.mpr ⟨_, hm, rfl⟩))))⟩
theorem Sy.gnone {n : Nat} {G : Gh} {a : Addr} (y : Sy f L W E σ Hz H) (e : E[n]? = some (some (.gs G))) (h : H a = none) : G a = none := by
  cases c : G a with
  | none => rfl
  | some c' => exact absurd h (y.gget e c).1.there
/-- a shared object is changed -/
theorem Sy.gset {n : Nat} {G : Gh} {a : Addr} {c c' : Cell} {u : HO} (y : Sy f L W E σ Hz H) (e : E[n]? = some (some (.gs G))) (h : G a = some c) (hc : OkC f.K Hz (upd H a u) a c') :
    Sy f L W (E.set n (some (.gs (upG G a c')))) σ Hz (upd H a u) := by
  have hH := (y.gget e h).1.there
  obtain ⟨⟨O1, O2, p1, p2, nd, fr⟩, sm, tz, nw, kp, ka, az, tp, ln⟩ := y
  obtain ⟨l, r, rfl, g, h3, h4⟩ := p2.gtake e
  have hm := lkp_mem h
  have hk : a ∈ l.map (·.1) := List.mem_map.mpr ⟨_, hm, rfl⟩
  have nd2 : (O1 ++ (r ++ l.map (·.1))).Nodup := perm_nodup nd h3
  have hz : Hz a = none := fr a (List.mem_append_right _ (h3.mem_iff.mpr (List.mem_append_right _ hk)))
  have nd3 := List.nodup_append.mp nd2
  have nd4 := List.nodup_append.mp nd3.2.1
  have n1 : ∀ b ∈ O1, b ≠ a := fun b hb z => nd3.2.2 b hb a (List.mem_append_right _ hk) z
  have n2 : ∀ b ∈ r, b ≠ a := fun b hb z => nd4.2.2 b hb a hk z
  have s1 : Same Hz Hz := same_self
  have own : a ∈ f.A ∨ f.H0 a = none := g.own _ hm
  have g' : PG f Hz (upd H a u) (setL l a c') := by
    refine ⟨fun p hp => ?_, fun p hp => ?_⟩
    · obtain ⟨q, hq, rfl⟩ := List.mem_map.mp hp
      by_cases z : q.1 = a
      · rw [if_pos z]
        exact hc
      · rw [if_neg z]
        exact (g.ok q hq).keep s1 (upd_ne z)
    · obtain ⟨q, hq, rfl⟩ := List.mem_map.mp hp
      by_cases z : q.1 = a
      · rw [if_pos z]
        exact own
      · rw [if_neg z]
        exact g.own q hq
  obtain ⟨O', q1, q2⟩ := h4 (setL l a c') s1 (fun b hb => upd_ne (n2 b hb)) g'
  rw [lkp_setL hk] at q2
  rw [setL_keys] at q1
  refine ⟨⟨O1, O', p1.keep s1 (fun b hb => upd_ne (n1 b hb)), q2, perm_nodup nd2 q1.symm, fun b hb => fr b ?_⟩, ?_, tz, nw, ?_, ?_, az, ?_, ln⟩
  · rcases List.mem_append.mp hb with hb | hb
    · exact List.mem_append_left _ hb
    · exact List.mem_append_right _ (h3.mem_iff.mpr (q1.mem_iff.mp hb))
  · intro b o q
    rw [upd_ne (fun c => by rw [c, hz] at q; cases q)]
    exact sm b o q
  · intro b w hb q
    by_cases z : b = a
    · subst z
      rcases own with z | z
      · exact absurd z hb
      · rw [z] at q; cases q
    · rw [upd_ne z]
      exact kp b w hb q
  · intro b q
    by_cases z : b = a
    · subst z
      rw [upd_same]
      exact Option.some_ne_none _
    · rw [upd_ne z]
      exact ka b q
  · intro b w q z
    by_cases e : b = a
    · subst e
      rw [hc.ntup w q] at z
      cases z
    · rw [upd_ne e] at q
      exact tp b w q z
/-- an untracked thing is laid -/
theorem Sy.newX {p : Addr} {u : HO} (y : Sy f L W E σ Hz H) (hp : H p = none) (hu : tupO u = false) : Sy f L W E σ Hz (upd H p u) := by
  have hz := y.hz hp
  obtain ⟨⟨O1, O2, p1, p2, nd, fr⟩, sm, tz, nw, kp, ka, az, tp, ln⟩ := y
  have h0 : f.H0 p = none := by
    cases e : f.H0 p with
    | none => rfl
    | some x => exact absurd hp (ka p (by rw [e]; exact Option.some_ne_none _))
  have ne : ∀ a ∈ O1 ++ O2, a ≠ p := fun a ha c => by
    rcases List.mem_append.mp ha with ha | ha
    · exact p1.there a ha (by rw [c]; exact hp)
    · exact p2.there a ha (by rw [c]; exact hp)
  have s1 : Same Hz Hz := same_self
  refine ⟨⟨O1, O2, p1.keep s1 (fun a ha => upd_ne (ne a (List.mem_append_left _ ha))), p2.keep s1 (fun a ha => upd_ne (ne a (List.mem_append_right _ ha))), nd, fr⟩, ?_, tz, nw, ?_, ?_, az, ?_, ln⟩
  · intro b o q
    rw [upd_ne (fun c => by rw [c, hz] at q; cases q)]
    exact sm b o q
  · intro b w hb q
    rw [upd_ne (fun c => by rw [c, h0] at q; cases q)]
    exact kp b w hb q
  · intro b q
    rw [upd_ne (fun c => q (by rw [c]; exact h0))]
    exact ka b q
  · intro b w q c
    by_cases e : b = p
    · subst e
      rw [upd_same] at q
      cases q
      rw [hu] at c
      cases c
    · rw [upd_ne e] at q
      exact tp b w q c
/-- a new thing becomes a shared object -/
theorem Sy.gnew {n : Nat} {G : Gh} {p : Addr} {u : HO} {c : Cell} (y : Sy f L W E σ Hz H) (e : E[n]? = some (some (.gs G))) (hp : H p = none) (hc : OkC f.K Hz (upd H p u) p c) :
    Sy f L W (E.set n (some (.gs (upG G p c)))) σ Hz (upd H p u) := by
  have hz := y.hz hp
  have hu : tupO u = false := hc.ntup u upd_same
  have y1 := y.newX hp hu
  obtain ⟨⟨O1, O2, p1, p2, nd, fr⟩, sm, tz, nw, kp, ka, az, tp, ln⟩ := y
  have h0 : f.H0 p = none := by
    cases e : f.H0 p with
    | none => rfl
    | some x => exact absurd hp (ka p (by rw [e]; exact Option.some_ne_none _))
  have ne : ∀ a ∈ O1 ++ O2, a ≠ p := fun a ha c => by
    rcases List.mem_append.mp ha with ha | ha
    · exact p1.there a ha (by rw [c]; exact hp)
    · exact p2.there a ha (by rw [c]; exact hp)
  obtain ⟨l, r, rfl, g, h3, h4⟩ := p2.gtake e
  have s1 : Same Hz Hz := same_self
  have nk : ∀ q ∈ l, q.1 ≠ p := fun q hq => ne q.1 (List.mem_append_right _ (h3.mem_iff.mpr (List.mem_append_right _ (List.mem_map.mpr ⟨q, hq, rfl⟩))))
  have g' : PG f Hz (upd H p u) ((p, c) :: l) := by
    refine ⟨fun q hq => ?_, fun q hq => ?_⟩
    · rcases List.mem_cons.mp hq with rfl | hq
      · exact hc
      · exact (g.ok q hq).keep s1 (upd_ne (nk q hq))
    · rcases List.mem_cons.mp hq with rfl | hq
      · exact .inr h0
      · exact g.own q hq
  obtain ⟨O', q1, q2⟩ := h4 ((p, c) :: l) s1 (fun b hb => upd_ne (ne b (List.mem_append_right _ (h3.mem_iff.mpr (List.mem_append_left _ hb))))) g'
  have el : lkp ((p, c) :: l) = upG (lkp l) p c := rfl
  rw [el] at q2
  have q3 : O'.Perm (p :: O2) := q1.trans (List.perm_middle.trans (h3.symm.cons p))
  have nd1 : (O1 ++ (p :: O2)).Nodup := List.perm_middle.nodup_iff.mpr (List.nodup_cons.mpr ⟨fun h => ne p h rfl, nd⟩)
  refine ⟨⟨O1, O', p1.keep s1 (fun a ha => upd_ne (ne a (List.mem_append_left _ ha))), q2, perm_nodup nd1 q3.symm, fun b hb => ?_⟩, y1.sm, y1.tz, y1.nw, y1.kp, y1.ka, y1.az, y1.tp, ln⟩
  rcases List.mem_append.mp hb with hb | hb
  · exact fr b (List.mem_append_left _ hb)
  · rcases List.mem_cons.mp (q3.mem_iff.mp hb) with rfl | hb
    · exact hz
    · exact fr b (List.mem_append_right _ hb)
/-- the topmost temporary becomes a shared object -/
theorem Sy.gmv {n : Nat} {G : Gh} {a : Addr} {o : Ob} (y : Sy f (some (.ob none o) :: L) (some (.ref a) :: W) E σ Hz H) (e : E[n]? = some (some (.gs G))) :
    Sy f L W (E.set n (some (.gs (upG G a (.ob o))))) σ Hz H ∧ G a = none := by
  obtain ⟨⟨O1, O2, p1, p2, nd, fr⟩, sm, tz, nw, kp, ka, az, tp, ln⟩ := y
  cases p1 with
  | @ob _ _ _ _ _ O1 q1 q2 q3 p1 =>
    obtain ⟨l, r, rfl, g, h3, h4⟩ := p2.gtake e
    have s1 : Same Hz Hz := same_self
    have g' : PG f Hz H ((a, .ob o) :: l) := by
      refine ⟨fun q hq => ?_, fun q hq => ?_⟩
      · rcases List.mem_cons.mp hq with rfl | hq
        · exact q1
        · exact g.ok q hq
      · rcases List.mem_cons.mp hq with rfl | hq
        · exact .inr (q2 rfl)
        · exact g.own q hq
    obtain ⟨O', c1, c2⟩ := h4 ((a, .ob o) :: l) s1 (fun _ _ => rfl) g'
    have c3 : O'.Perm (a :: O2) := c1.trans (List.perm_middle.trans (h3.symm.cons a))
    have na : ∀ q ∈ l, q.1 ≠ a := by
      intro q hq z
      have := (List.nodup_cons.mp nd).1
      exact this (List.mem_append_right _ (h3.mem_iff.mpr (List.mem_append_right _ (List.mem_map.mpr ⟨q, hq, z⟩))))
    have nd1 : (O1 ++ (a :: O2)).Nodup := List.perm_middle.nodup_iff.mpr nd
    refine ⟨⟨⟨O1, O', p1, c2, perm_nodup nd1 c3.symm, fun b hb => fr b ?_⟩, sm, tz, nw, kp, ka, az, tp, ln⟩, ?_⟩
    · rcases List.mem_append.mp hb with hb | hb
      · exact List.mem_cons_of_mem _ (List.mem_append_left _ hb)
      · rcases List.mem_cons.mp (c3.mem_iff.mp hb) with rfl | hb
        · exact List.mem_cons_self
        · exact List.mem_cons_of_mem _ (List.mem_append_right _ hb)
    · cases c : lkp l a with
      | none => rfl
      | some x => exact absurd rfl (na _ (lkp_mem c))
end
end DL


set_option Elab.async false
set_option linter.all false
set_option maxRecDepth 100000
set_option maxHeartbeats 4000000
/-! Expressions over the layer of values. -/
namespace DL
open PySem L2 TG
def tmp : Vl → En → En
  | .ob o, L => some (.ob none o) :: L
  | _, L => L
def tmv : Vl → V → St → St
  | .ob _, v, W => some v :: W
  | _, _, W => W
def Val (f : Fr) (b : Vl) (v : V) (σ : St) (Hz : Hp) : Prop := match b with
  | .dat d => Dp f.K Hz v d
  | .ob _ => True
  | .own i => σ[i]? = some (some v)
  | .gob _ a => v = .ref a
abbrev WE := En → (Vl → En → Prop) → Prop
abbrev WT := En → (Bool → En → Prop) → Prop
abbrev WM := En → (List Vl → En → Prop) → Prop
abbrev WA := En → (List PyData → En → Prop) → Prop
abbrev WO := En → (Option Int → En → Prop) → Prop
/-- o's value -/
def ob1 {α : Type} : Option α → (α → Prop) → Prop
  | some a, P => P a
  | none, _ => False
theorem ob1_some {α : Type} {a : α} {P : α → Prop} : ob1 (some a) P = P a := rfl
theorem ob1_none {α : Type} {P : α → Prop} : ob1 none P = False := rfl
theorem ob1_ex {α : Type} {o : Option α} {P : α → Prop} (h : ob1 o P) : ∃ a, o = some a ∧ P a := by
  cases o with
  | none => exact h.elim
  | some a => exact ⟨a, rfl, h⟩
/-- an expression's reading te answers by E -/
structure SE (f : Fr) (te : TE) (E : WE) : Prop where
  run : ∀ {L W e σ Hz H Post Q}, E e Post → Sy f L W e σ Hz H →
    (∀ b e' v Hz' H', Post b e' → Same Hz Hz' → Sy f (tmp b L) (tmv b v W) e' σ Hz' H' → Val f b v σ Hz' → Q v H') → te σ H Q
structure ST (f : Fr) (tt : TT) (E : WT) : Prop where
  run : ∀ {L W e σ Hz H Post Q}, E e Post → Sy f L W e σ Hz H → (∀ b e' Hz' H', Post b e' → Same Hz Hz' → Sy f L W e' σ Hz' H' → Q b H') → tt σ H Q
structure SA (f : Fr) (ta : TA) (E : WA) : Prop where
  run : ∀ {L W e σ Hz H Post Q}, E e Post → Sy f L W e σ Hz H → (∀ ds e' vs Hz' H', Post ds e' → Same Hz Hz' → Sy f L W e' σ Hz' H' → DpAll f.K Hz' vs ds → Q vs H') → ta σ H Q
structure SO (f : Fr) (to : TO) (E : WO) : Prop where
  run : ∀ {L W e σ Hz H Post Q}, E e Post → Sy f L W e σ Hz H → (∀ o e' Hz' H', Post o e' → Same Hz Hz' → Sy f L W e' σ Hz' H' → Q o H') → to σ H Q
theorem same_refl {H : Hp} : Same H H := fun _ _ q => q
theorem same_trans {H H1 H2 : Hp} (a : Same H H1) (b : Same H1 H2) : Same H H2 := fun x o q => b x o (a x o q)
section
variable {f : Fr} {L e : En} {W σ : St} {Hz H Hz' : Hp} {b : Vl} {v : V}
theorem Sy.un (y : Sy f (tmp b L) (tmv b v W) e σ Hz H) : Sy f L W e σ Hz H := by
  cases b with
  | dat d => exact y
  | ob o => exact y.pop
  | own i => exact y
  | gob n a => exact y
theorem Val.mono (h : Val f b v σ Hz) (s : Same Hz Hz') : Val f b v σ Hz' := by
  cases b with
  | dat d => exact dp_mono s _ _ h
  | ob o => trivial
  | own i => exact h
  | gob n a => exact h
def contC : Option Cell → Option PyData
  | some (.ob (.lst ds)) => some (.list ds)
  | _ => none
def contG : Option (Option B) → Addr → Option PyData
  | some (some (.gs G)), a => contC (G a)
  | _, _ => none
/-- what can be read of a value as data -/
def cont : Vl → En → Option PyData
  | .dat d, _ => some d
  | .ob (.lst ds), _ => some (.list ds)
  | .ob _, _ => none
  | .own i, e => match e[i]? with
    | some (some (.dat d)) => some d
    | some (some (.ob _ (.lst ds))) => some (.list ds)
    | _ => none
  | .gob n a, e => contG e[n]? a
def contS : Option (Option B) → Option PyData
  | some (some (.dat d)) => some d
  | some (some (.ob _ (.lst ds))) => some (.list ds)
  | _ => none
theorem cont_dat {d : PyData} {e : En} : cont (.dat d) e = some d := rfl
theorem cont_lst {ds : List PyData} {e : En} : cont (.ob (.lst ds)) e = some (.list ds) := rfl
theorem cont_own {i : Nat} {e : En} : cont (.own i) e = contS e[i]? := by
  unfold cont contS
  rfl
theorem cont_gob {n : Nat} {a : Addr} {e : En} : cont (.gob n a) e = contG e[n]? a := rfl
theorem contG_gs {G : Gh} {a : Addr} : contG (some (some (.gs G))) a = contC (G a) := rfl
theorem contC_lst {ds : List PyData} : contC (some (.ob (.lst ds))) = some (.list ds) := rfl
theorem contS_dat {d : PyData} : contS (some (some (.dat d))) = some d := rfl
theorem contS_lst {t : Option Nat} {ds : List PyData} : contS (some (some (.ob t (.lst ds)))) = some (.list ds) := rfl
/-- data, a list's own object perhaps not fixed -/
def Rep (K : PySem.W.Frag) (Hz H : Hp) (v : V) (d : PyData) : Prop := match d with
  | .list ds => ∃ a xs, v = .ref a ∧ SqL K H a xs ∧ DpAll K Hz xs ds
  | d => Dp K Hz v d
theorem rep_dp {K : PySem.W.Frag} {d : PyData} (s : Same Hz H) (h : Dp K Hz v d) : Rep K Hz H v d := by
  cases d with
  | list ds =>
    cases h with
    | lst hs ha => exact ⟨_, _, rfl, sqL s hs, ha⟩
  | _ => exact h
theorem Rep.dp {K : PySem.W.Frag} {d : PyData} (s : Same Hz H) (h : Rep K Hz H v d) : Dp K H v d := by
  cases d with
  | list ds =>
    obtain ⟨a, xs, rfl, h1, h2⟩ := h
    exact .lst h1 (dps_mono s _ _ h2)
  | _ => exact dp_mono s _ _ h
theorem rep_lst {K : PySem.W.Frag} {a : Addr} {ds : List PyData} (h : OkOb K Hz H a (.lst ds)) : Rep K Hz H (.ref a) (.list ds) := by
  obtain ⟨xs, h1, h2⟩ := h
  exact ⟨a, xs, rfl, SqL.of h1, h2⟩
theorem Sy.cont {d : PyData} (y : Sy f (tmp b L) (tmv b v W) e σ Hz H) (hv : Val f b v σ Hz) (h : cont b e = some d) : Rep f.K Hz H v d := by
  cases b with
  | dat d' =>
    cases h
    exact rep_dp y.sm hv
  | ob o =>
    cases o with
    | lst ds =>
      cases h
      obtain ⟨a, ea, h1, _⟩ := Sy.top y
      cases ea
      exact rep_lst h1
    | _ => cases h
  | own i =>
    simp only [DL.cont] at h
    split at h
    · rename_i d' q
      cases h
      obtain ⟨v', e1, e2⟩ := y.get q
      have hv' : σ[i]? = some (some v) := hv
      rw [hv'] at e1
      cases e1
      exact rep_dp y.sm e2
    · rename_i t ds q
      cases h
      obtain ⟨a, e1, e2, _⟩ := y.ob q
      have hv' : σ[i]? = some (some v) := hv
      rw [hv'] at e1
      cases e1
      exact rep_lst e2
    · cases h
  | gob n a =>
    have hv' : v = .ref a := hv
    subst hv'
    rw [cont_gob] at h
    generalize q : e[n]? = x at h
    unfold contG at h
    split at h
    · rename_i G
      generalize q2 : G a = c at h
      unfold contC at h
      split at h
      · cases h
        exact rep_lst (Sy.gget (Sy.un (b := .gob n a) y) q q2).1
      · cases h
    · cases h
end
/-! ### leaves -/
section
variable {f : Fr}
def vrS (i : Nat) (e : En) (P : Vl → En → Prop) : Option (Option B) → Prop
  | some (some (.dat d)) => P (.dat d) e
  | some (some (.ob _ _)) => P (.own i) e
  | _ => False
def wVar (i : Nat) (e : En) (P : Vl → En → Prop) : Prop := vrS i e P e[i]?
theorem vrS_dat {i : Nat} {e : En} {P : Vl → En → Prop} {d : PyData} : vrS i e P (some (some (.dat d))) = P (.dat d) e := rfl
theorem vrS_ob {i : Nat} {e : En} {P : Vl → En → Prop} {t : Option Nat} {o : Ob} : vrS i e P (some (some (.ob t o))) = P (.own i) e := rfl
theorem se_var {i : Nat} : SE f (tVar i) (wVar i) := ⟨fun {L W e σ Hz H Post Q} h y k => by
  unfold wVar at h
  generalize q : e[i]? = x at h
  unfold vrS at h
  split at h
  · obtain ⟨v, e1, e2⟩ := y.get q
    exact ⟨v, e1, k _ _ _ _ _ h same_refl y e2⟩
  · obtain ⟨a, e1, e2, _⟩ := y.ob q
    exact ⟨_, e1, k _ _ _ _ _ h same_refl y e1⟩
  · exact h.elim⟩
def wC (d : PyData) (e : En) (P : Vl → En → Prop) : Prop := P (.dat d) e
theorem se_int {i : Int} : SE f (tC (.int i)) (wC (.int i)) := ⟨fun h y k => k _ _ _ _ _ h same_refl y (Dp.int i)⟩
theorem se_str {x : Str} : SE f (tC (.str x)) (wC (.str x)) := ⟨fun h y k => k _ _ _ _ _ h same_refl y (Dp.str x)⟩
theorem se_bl {b : Bool} : SE f (tC (.bl b)) (wC (.bool b)) := ⟨fun h y k => k _ _ _ _ _ h same_refl y (Dp.bl b)⟩
theorem se_non : SE f (tC .non) (wC .none) := ⟨fun h y k => k _ _ _ _ _ h same_refl y Dp.non⟩
end
/-! ### operations -/
abbrev W2 := PyData → PyData → (Vl → Prop) → Prop
/-- a two-place operation -/
structure SR (f : Fr) (r : R2) (g : W2) : Prop where
  run : ∀ {L W e σ Hz H x y d1 d2 Post Q}, Rep f.K Hz H x d1 → Rep f.K Hz H y d2 → Sy f L W e σ Hz H → g d1 d2 Post →
  (∀ b v Hz' H', Post b → Same Hz Hz' → Sy f (tmp b L) (tmv b v W) e σ Hz' H' → Val f b v σ Hz' → Q v H') → r x y H Q
section
variable {f : Fr} {ta tb tc : TE} {Ea Eb Ec : WE} {r r' : R2} {g g' : W2}
def wOp (g : W2) (Ea Eb : WE) (e : En) (P : Vl → En → Prop) : Prop := Ea e fun b1 e1 => Eb e1 fun b2 e2 => ob1 (cont b1 e2) fun d1 => ob1 (cont b2 e2) fun d2 => g d1 d2 fun b => P b e2
theorem se_op (hr : SR f r g) (ha : SE f ta Ea) (hb : SE f tb Eb) : SE f (tOp r ta tb) (wOp g Ea Eb) := ⟨fun {L W e σ Hz H Post Q} h y k => by
  refine ha.run h y fun b1 e1 v1 Hz1 H1 h1 s1 y1 l1 => ?_
  refine hb.run h1 y1 fun b2 e2 v2 Hz2 H2 h2 s2 y2 l2 => ?_
  obtain ⟨d1, c1, h2⟩ := ob1_ex h2
  obtain ⟨d2, c2, h2⟩ := ob1_ex h2
  exact hr.run (y2.un.cont (l1.mono s2) c1) (y2.cont l2 c2) y2.un.un h2 fun b v Hz' H' h3 s3 y3 l3 => k _ _ _ _ _ h3 (same_trans s1 (same_trans s2 s3)) y3 l3⟩
def vD : V → PyData
  | .non => .none
  | .bl b => .bool b
  | .int i => .int i
  | .str x => .str x
  | _ => .none
def gI (C : Int → Int → Prop) (g : Int → Int → V) (d1 d2 : PyData) (P : Vl → Prop) : Prop := match d1, d2 with
  | .int i, .int j => C i j ∧ P (.dat (vD (g i j)))
  | _, _ => False
def scV : V → Bool
  | .non => true
  | .bl _ => true
  | .int _ => true
  | .str _ => true
  | _ => false
theorem dp_sc {K : PySem.W.Frag} {Hz : Hp} {v : V} (h : scV v = true) : Dp K Hz v (vD v) := by
  cases v with
  | non => exact .non
  | bl b => exact .bl b
  | int i => exact .int i
  | str x => exact .str x
  | _ => cases h
theorem sr_I {C : Int → Int → Prop} {g : Int → Int → V} (hg : ∀ i j, scV (g i j) = true) : SR f (rI C g) (gI C g) := ⟨fun {L W e σ Hz H x y d1 d2 Post Q} r1 r2 s h k => by
  unfold gI at h
  split at h
  · cases r1
    cases r2
    exact ⟨_, _, rfl, rfl, h.1, k _ _ _ _ h.2 same_refl s (dp_sc (hg _ _))⟩
  · exact h.elim⟩
def gI0 (g : Int → Int → V) (d1 d2 : PyData) (P : Vl → Prop) : Prop := match d1, d2 with
  | .int i, .int j => P (.dat (vD (g i j)))
  | _, _ => False
theorem sr_I0 {g : Int → Int → V} (hg : ∀ i j, scV (g i j) = true) : SR f (rI0 g) (gI0 g) := ⟨fun {L W e σ Hz H x y d1 d2 Post Q} r1 r2 s h k => by
  unfold gI0 at h
  split at h
  · cases r1
    cases r2
    exact ⟨_, _, rfl, rfl, k _ _ _ _ h same_refl s (dp_sc (hg _ _))⟩
  · exact h.elim⟩
def gEq (d1 d2 : PyData) (P : Vl → Prop) : Prop := SeqAt.shaped d1 = true ∧ SeqAt.shaped d2 = true ∧ P (.dat (.bool (PyData.eqv d1 d2)))
def gNe (d1 d2 : PyData) (P : Vl → Prop) : Prop := SeqAt.shaped d1 = true ∧ SeqAt.shaped d2 = true ∧ P (.dat (.bool (!PyData.eqv d1 d2)))
theorem sr_eqD : SR f (rEqD f.K) gEq := ⟨fun r1 r2 s h k => ⟨_, _, dp_shaped (r1.dp s.sm) h.1, dp_shaped (r2.dp s.sm) h.2.1, h.1, h.2.1, k _ _ _ _ h.2.2 same_refl s (Dp.bl _)⟩⟩
theorem sr_neD : SR f (rNeD f.K) gNe := ⟨fun r1 r2 s h k => ⟨_, _, dp_shaped (r1.dp s.sm) h.1, dp_shaped (r2.dp s.sm) h.2.1, h.1, h.2.1, k _ _ _ _ h.2.2 same_refl s (Dp.bl _)⟩⟩
/-- in, not in, of a list -/
def gInD (neg : Bool) (d1 d2 : PyData) (P : Vl → Prop) : Prop := match d2 with
  | .list ds => SeqAt.shaped d1 = true ∧ SeqAt.shaped (.list ds) = true ∧ P (.dat (.bool (if neg then !(ds.any fun z => PyData.eqv z d1) else ds.any fun z => PyData.eqv z d1)))
  | _ => False
theorem sr_inD : SR f (rInD f.K) (gInD false) := ⟨fun {L W e σ Hz H x y d1 d2 Post Q} r1 r2 s h k => by
  unfold gInD at h
  split at h
  · exact ⟨_, _, dp_shaped (r1.dp s.sm) h.1, dp_shaped (Rep.dp s.sm r2) h.2.1, h.1, h.2.1, k _ _ _ _ h.2.2 same_refl s (Dp.bl _)⟩
  · exact h.elim⟩
theorem sr_notInD : SR f (rNotInD f.K) (gInD true) := ⟨fun {L W e σ Hz H x y d1 d2 Post Q} r1 r2 s h k => by
  unfold gInD at h
  split at h
  · exact ⟨_, _, dp_shaped (r1.dp s.sm) h.1, dp_shaped (Rep.dp s.sm r2) h.2.1, h.1, h.2.1, k _ _ _ _ h.2.2 same_refl s (Dp.bl _)⟩
  · exact h.elim⟩
/-- flat data: in, not in, of a list or a tuple of such -/
def flatD : PyData → Bool
  | .none | .bool _ | .int _ | .str _ => true
  | _ => false
def dV : PyData → V
  | .none => .non
  | .bool b => .bl b
  | .int i => .int i
  | .str x => .str x
  | _ => .non
theorem flat_dp {K : PySem.W.Frag} {Hz : Hp} {v : V} {d : PyData} (h : Dp K Hz v d) (hf : flatD d = true) : v = dV d ∧ flatV v = true := by
  cases h with
  | non => exact ⟨rfl, rfl⟩
  | bl b => exact ⟨rfl, rfl⟩
  | int i => exact ⟨rfl, rfl⟩
  | str x => exact ⟨rfl, rfl⟩
  | _ => cases hf
theorem flat_dps {K : PySem.W.Frag} {Hz : Hp} : ∀ {ds : List PyData} {vs : List V}, DpAll K Hz vs ds → ds.all flatD = true → vs = ds.map dV ∧ vs.all flatV = true
  | [], _, .nil, _ => ⟨rfl, rfl⟩
  | d :: ds, _, .cons h1 h2, hf => by
    rw [List.all_cons, Bool.and_eq_true] at hf
    obtain ⟨e1, f1⟩ := flat_dp h1 hf.1
    obtain ⟨e2, f2⟩ := flat_dps h2 hf.2
    exact ⟨by rw [e1, e2]; rfl, by rw [List.all_cons, f1, f2]; rfl⟩
def gIn (neg : Bool) (d1 d2 : PyData) (P : Vl → Prop) : Prop := match d2 with
  | .list ds => flatD d1 = true ∧ ds.all flatD = true ∧ P (.dat (.bool (if neg then !inV (dV d1) (ds.map dV) else inV (dV d1) (ds.map dV))))
  | .tuple ds => flatD d1 = true ∧ ds.all flatD = true ∧ P (.dat (.bool (if neg then !inV (dV d1) (ds.map dV) else inV (dV d1) (ds.map dV))))
  | _ => False
theorem rep_flat {K : PySem.W.Frag} {Hz H : Hp} {v : V} {d : PyData} (h : Rep K Hz H v d) (hf : flatD d = true) : Dp K Hz v d := by
  cases d with
  | list ds => cases hf
  | _ => exact h
theorem sr_in {neg : Bool} : SR f (rIn f.K neg) (gIn neg) := ⟨fun {L W e σ Hz H x y d1 d2 Post Q} r1 r2 s h k => by
  unfold gIn at h
  split at h
  · obtain ⟨h1, h2, h3⟩ := h
    obtain ⟨a, xs, rfl, q1, q2⟩ := r2
    obtain ⟨e1, f1⟩ := flat_dp (rep_flat r1 h1) h1
    obtain ⟨e2, f2⟩ := flat_dps q2 h2
    subst e1 e2
    exact ⟨a, _, rfl, .inl q1, f1, f2, k _ _ _ _ h3 same_refl s (Dp.bl _)⟩
  · obtain ⟨h1, h2, h3⟩ := h
    obtain ⟨a, xs, rfl, q1, q2⟩ := dp_tup r2
    obtain ⟨e1, f1⟩ := flat_dp (rep_flat r1 h1) h1
    obtain ⟨e2, f2⟩ := flat_dps q2 h2
    subst e1 e2
    exact ⟨a, _, rfl, .inr (sqT s.sm q1), f1, f2, k _ _ _ _ h3 same_refl s (Dp.bl _)⟩
  · exact h.elim⟩
/-- xs[i] -/
theorem dps_atI {K : PySem.W.Frag} {Hz : Hp} {ds : List PyData} {xs : List V} {i : Int} {d : PyData} (h : DpAll K Hz xs ds) (e : atI ds i = some d) : ∃ x, atI xs i = some x ∧ Dp K Hz x d := by
  unfold atI at e ⊢
  rw [← dps_len h] at e
  cases c : ixN xs.length i with
  | none => rw [c] at e; cases e
  | some j =>
    rw [c] at e
    exact dps_get h j d e
def gIx (d1 d2 : PyData) (P : Vl → Prop) : Prop := match d1, d2 with
  | .list ds, .int i => ob1 (atI ds i) fun d => P (.dat d)
  | .tuple ds, .int i => ob1 (atI ds i) fun d => P (.dat d)
  | _, _ => False
def gIxL (d1 d2 : PyData) (P : Vl → Prop) : Prop := match d1, d2 with
  | .list ds, .int i => ob1 (atI ds i) fun d => P (.dat d)
  | _, _ => False
def gIxT (d1 d2 : PyData) (P : Vl → Prop) : Prop := match d1, d2 with
  | .tuple ds, .int i => ob1 (atI ds i) fun d => P (.dat d)
  | _, _ => False
theorem sr_ixL : SR f (rIxL f.K) gIxL := ⟨fun {L W e σ Hz H x y d1 d2 Post Q} r1 r2 s h k => by
  unfold gIxL at h
  split at h
  · obtain ⟨d, c, h⟩ := ob1_ex h
    obtain ⟨a, xs, rfl, q1, q2⟩ := r1
    cases r2
    obtain ⟨x, e1, e2⟩ := dps_atI q2 c
    exact ⟨a, xs, _, x, rfl, rfl, q1, e1, k _ _ _ _ h same_refl s e2⟩
  · exact h.elim⟩
theorem sr_ixT : SR f (rIxT f.K) gIxT := ⟨fun {L W e σ Hz H x y d1 d2 Post Q} r1 r2 s h k => by
  unfold gIxT at h
  split at h
  · obtain ⟨d, c, h⟩ := ob1_ex h
    obtain ⟨a, xs, rfl, q1, q2⟩ := dp_tup r1
    cases r2
    obtain ⟨x, e1, e2⟩ := dps_atI q2 c
    exact ⟨a, xs, _, x, rfl, rfl, sqT s.sm q1, e1, k _ _ _ _ h same_refl s e2⟩
  · exact h.elim⟩
theorem sr_ix : SR f (rIx f.K) gIx := ⟨fun {L W e σ Hz H x y d1 d2 Post Q} r1 r2 s h k => by
  unfold gIx at h
  split at h
  · exact .inl (sr_ixL.run r1 r2 s h k)
  · exact .inr (.inl (sr_ixT.run r1 r2 s h k))
  · exact h.elim⟩
def gIxS (d1 d2 : PyData) (P : Vl → Prop) : Prop := match d1, d2 with
  | .str z, .int i => z.length ≤ sizeLine ∧ ob1 (atI z.cps.toList i) fun c => P (.dat (.str ⟨#[c]⟩))
  | _, _ => False
theorem sr_ixS : SR f rIxS gIxS := ⟨fun {L W e σ Hz H x y d1 d2 Post Q} r1 r2 s h k => by
  unfold gIxS at h
  split at h
  · obtain ⟨h1, h⟩ := h
    obtain ⟨d, c, h⟩ := ob1_ex h
    cases r1
    cases r2
    exact ⟨_, _, _, rfl, rfl, h1, c, k _ _ _ _ h same_refl s (Dp.str _)⟩
  · exact h.elim⟩
/-- is None -/
def isNone : PyData → Bool
  | .none => true
  | _ => false
theorem rep_none {K : PySem.W.Frag} {Hz H : Hp} {v : V} {d : PyData} (h : Rep K Hz H v d) : decide (v = .non) = isNone d := by
  cases d with
  | list ds => obtain ⟨a, xs, rfl, _⟩ := h; rfl
  | none => cases h; rfl
  | bool b => cases h; rfl
  | int b => cases h; rfl
  | str b => cases h; rfl
  | tuple ds => obtain ⟨a, xs, rfl, _⟩ := dp_tup h; rfl
  | dict ds =>
    have h' : Dp K Hz v (.dict ds) := h
    generalize e : PyData.dict ds = d at h'
    cases h' with
    | ptr a => cases e; rfl
    | dic q => cases e; rfl
    | _ => cases e
def gIsN (neg : Bool) (d1 d2 : PyData) (P : Vl → Prop) : Prop := match d2 with
  | .none => P (.dat (.bool (if neg then !isNone d1 else isNone d1)))
  | _ => False
theorem sr_isN : SR f (fun x y H Q => y = .non ∧ Q (.bl (decide (x = .non))) H) (gIsN false) := ⟨fun {L W e σ Hz H x y d1 d2 Post Q} r1 r2 s h k => by
  unfold gIsN at h
  split at h
  · cases r2
    rw [rep_none r1]
    exact ⟨rfl, k _ _ _ _ h same_refl s (Dp.bl _)⟩
  · exact h.elim⟩
theorem sr_notN : SR f (fun x y H Q => y = .non ∧ Q (.bl (!decide (x = .non))) H) (gIsN true) := ⟨fun {L W e σ Hz H x y d1 d2 Post Q} r1 r2 s h k => by
  unfold gIsN at h
  split at h
  · cases r2
    rw [rep_none r1]
    exact ⟨rfl, k _ _ _ _ h same_refl s (Dp.bl _)⟩
  · exact h.elim⟩
/-- sums of lists, of tuples -/
def gCat (d1 d2 : PyData) (P : Vl → Prop) : Prop := match d1, d2 with
  | .list ds, .list es => ds.length + es.length ≤ sizeLine ∧ P (.ob (.lst (ds ++ es)))
  | _, _ => False
def gCatT (d1 d2 : PyData) (P : Vl → Prop) : Prop := match d1, d2 with
  | .tuple ds, .tuple es => ds.length + es.length ≤ sizeLine ∧ P (.dat (.tuple (ds ++ es)))
  | _, _ => False
theorem sr_catA : SR f (rCatA f.K) gCatT := ⟨fun {L W e σ Hz H x y d1 d2 Post Q} r1 r2 s h k => by
  unfold gCatT at h
  split at h
  · obtain ⟨a, xs, rfl, q1, q2⟩ := dp_tup r1
    obtain ⟨b, ys, rfl, q3, q4⟩ := dp_tup r2
    have hd := dps_app q2 q4
    refine ⟨a, b, xs, ys, rfl, rfl, sqT s.sm q1, sqT s.sm q3, by rw [dps_len q2, dps_len q4]; exact h.1, fun e => ?_, fun _ e => ?_, fun _ _ p hp => ?_⟩
    · subst e
      exact k _ _ _ _ h.2 same_refl s (Dp.tup q3 hd)
    · subst e
      rw [List.append_nil] at hd
      exact k _ _ _ _ h.2 same_refl s (Dp.tup q1 hd)
    · have s1 := same_new (s.hz hp) (.tup (xs ++ ys))
      exact k _ _ _ _ h.2 s1 (s.newT hp) (Dp.tup (SqT.of upd_same) (dps_mono s1 _ _ hd))
  · exact h.elim⟩
/-- r on lists both of which are tracked: + -/
theorem rep_trk {K : PySem.W.Frag} {Hz H : Hp} {v : V} {ds : List PyData} (h : Rep K Hz H v (.list ds)) : ∃ a xs, v = .ref a ∧ SqL K H a xs ∧ DpAll K Hz xs ds := h
end
/-! ### tests -/
section
variable {f : Fr} {t u : TT} {ta tb tc : TE} {T U : WT} {Ea Eb Ec : WE} {r r' : R2} {g g' : W2}
def bK (P : Bool → En → Prop) (b : Vl) (e1 : En) : Prop := match b with
  | .dat (.bool c) => P c e1
  | _ => False
theorem bK_bool {P : Bool → En → Prop} {c : Bool} {e1 : En} : bK P (.dat (.bool c)) e1 = P c e1 := rfl
def wB (E : WE) (e : En) (P : Bool → En → Prop) : Prop := E e (bK P)
theorem val_bool {f : Fr} {v : V} {σ : St} {Hz : Hp} {c : Bool} (h : Val f (.dat (.bool c)) v σ Hz) : v = .bl c := by
  cases h
  rfl
theorem st_B (h : SE f ta Ea) : ST f (tB ta) (wB Ea) := ⟨fun {L W e σ Hz H Post Q} w y k => h.run w y fun b e1 v Hz1 H1 h1 s1 y1 l1 => by
  try unfold bK at h1
  split at h1
  · obtain rfl := val_bool l1
    exact ⟨_, rfl, k _ _ _ _ h1 s1 y1⟩
  · exact h1.elim⟩
theorem st_test (h : SE f ta Ea) : ST f (tTest ta) (wB Ea) := ⟨fun {L W e σ Hz H Post Q} w y k => h.run w y fun b e1 v Hz1 H1 h1 s1 y1 l1 => by
  try unfold bK at h1
  split at h1
  · obtain rfl := val_bool l1
    exact ⟨_, rfl, k _ _ _ _ h1 s1 y1⟩
  · exact h1.elim⟩
def wAnd (T U : WT) (e : En) (P : Bool → En → Prop) : Prop := T e fun c e1 => if c = true then U e1 P else P false e1
def wOr (T U : WT) (e : En) (P : Bool → En → Prop) : Prop := T e fun c e1 => if c = true then P true e1 else U e1 P
def wNot (T : WT) (e : En) (P : Bool → En → Prop) : Prop := T e fun c e1 => P (!c) e1
theorem st_and (h1 : ST f t T) (h2 : ST f u U) : ST f (tAnd t u) (wAnd T U) := ⟨fun {L W e σ Hz H Post Q} w y k => h1.run w y fun b e1 Hz1 H1 w1 s1 y1 => by
  by_cases c : b = true
  · rw [if_pos c] at w1 ⊢
    exact h2.run w1 y1 fun b2 e2 Hz2 H2 w2 s2 y2 => k _ _ _ _ w2 (same_trans s1 s2) y2
  · rw [if_neg c] at w1 ⊢
    exact k _ _ _ _ w1 s1 y1⟩
theorem st_or (h1 : ST f t T) (h2 : ST f u U) : ST f (tOr t u) (wOr T U) := ⟨fun {L W e σ Hz H Post Q} w y k => h1.run w y fun b e1 Hz1 H1 w1 s1 y1 => by
  by_cases c : b = true
  · rw [if_pos c] at w1 ⊢
    exact k _ _ _ _ w1 s1 y1
  · rw [if_neg c] at w1 ⊢
    exact h2.run w1 y1 fun b2 e2 Hz2 H2 w2 s2 y2 => k _ _ _ _ w2 (same_trans s1 s2) y2⟩
theorem st_not (h1 : ST f t T) : ST f (tNot t) (wNot T) := ⟨fun {L W e σ Hz H Post Q} w y k => h1.run w y fun b e1 Hz1 H1 w1 s1 y1 => k _ _ _ _ w1 s1 y1⟩
def wYes (e : En) (P : Bool → En → Prop) : Prop := P true e
theorem st_yes : ST f tYes wYes := ⟨fun {L W e σ Hz H Post Q} w y k => k _ _ _ _ w same_refl y⟩
/-- truth of any value -/
def truD : PyData → Option Bool
  | .none => some false
  | .bool b => some b
  | .int i => some (i != 0)
  | .list ds => some (!ds.isEmpty)
  | .tuple ds => some (!ds.isEmpty)
  | _ => none
theorem tru_rep {K : PySem.W.Frag} {Hz H : Hp} {v : V} {d : PyData} {k : Bool} (s : Same Hz H) (h : Rep K Hz H v d) (e : truD d = some k) : TruV K v H k := by
  cases d with
  | none => cases h; cases e; rfl
  | bool b => cases h; cases e; rfl
  | int i => cases h; cases e; rfl
  | str x => cases e
  | dict _ => cases e
  | list ds =>
    obtain ⟨a, xs, rfl, h1, h2⟩ := h
    refine .inl ⟨xs, h1, ?_⟩
    cases e
    cases h2 <;> rfl
  | tuple ds =>
    obtain ⟨a, xs, rfl, h1, h2⟩ := dp_tup h
    refine .inr (.inl ⟨xs, sqT s h1, ?_⟩)
    cases e
    cases h2 <;> rfl
def wTru (E : WE) (e : En) (P : Bool → En → Prop) : Prop := E e fun b e1 => ob1 (cont b e1) fun d => ob1 (truD d) fun c => P c e1
theorem st_tru (h : SE f ta Ea) : ST f (fun σ H Q => ta σ H fun x H' => ∃ k, TruV f.K x H' k ∧ Q k H') (wTru Ea) := ⟨fun {L W e σ Hz H Post Q} w y k => h.run w y fun b e1 v Hz1 H1 h1 s1 y1 l1 => by
  obtain ⟨d, c1, h1⟩ := ob1_ex h1
  obtain ⟨c, c2, h1⟩ := ob1_ex h1
  exact ⟨c, tru_rep y1.sm (y1.cont l1 c1) c2, k _ _ _ _ h1 s1 y1.un⟩⟩
def wNotT (E : WE) (e : En) (P : Vl → En → Prop) : Prop := wTru E e fun c e1 => P (.dat (.bool (!c))) e1
theorem se_notT (h : SE f ta Ea) : SE f (tNotT f.K ta) (wNotT Ea) := ⟨fun {L W e σ Hz H Post Q} w y k => h.run w y fun b e1 v Hz1 H1 h1 s1 y1 l1 => by
  obtain ⟨d, c1, h1⟩ := ob1_ex h1
  obtain ⟨c, c2, h1⟩ := ob1_ex h1
  exact ⟨c, tru_rep y1.sm (y1.cont l1 c1) c2, k _ _ _ _ _ h1 s1 y1.un (Dp.bl _)⟩⟩
/-- and, or, not of bools as values -/
def wAndV (Ea Eb : WE) (e : En) (P : Vl → En → Prop) : Prop := wB Ea e fun c e1 => if c = true then Eb e1 P else P (.dat (.bool false)) e1
def wOrV (Ea Eb : WE) (e : En) (P : Vl → En → Prop) : Prop := wB Ea e fun c e1 => if c = true then P (.dat (.bool true)) e1 else Eb e1 P
theorem se_andV (ha : SE f ta Ea) (hb : SE f tb Eb) : SE f (tAndV ta tb) (wAndV Ea Eb) := ⟨fun {L W e σ Hz H Post Q} w y k => ha.run w y fun b e1 v Hz1 H1 h1 s1 y1 l1 => by
  try unfold bK at h1
  split at h1
  · obtain rfl := val_bool l1
    refine ⟨_, rfl, ?_⟩
    rename_i c
    by_cases c1 : c = true
    · rw [if_pos c1] at h1 ⊢
      exact hb.run h1 y1 fun b2 e2 v2 Hz2 H2 h2 s2 y2 l2 => k _ _ _ _ _ h2 (same_trans s1 s2) y2 l2
    · rw [if_neg c1] at h1 ⊢
      exact k _ _ _ _ _ h1 s1 y1 (Dp.bl _)
  · exact h1.elim⟩
theorem se_orV (ha : SE f ta Ea) (hb : SE f tb Eb) : SE f (tOrV ta tb) (wOrV Ea Eb) := ⟨fun {L W e σ Hz H Post Q} w y k => ha.run w y fun b e1 v Hz1 H1 h1 s1 y1 l1 => by
  try unfold bK at h1
  split at h1
  · obtain rfl := val_bool l1
    refine ⟨_, rfl, ?_⟩
    rename_i c
    by_cases c1 : c = true
    · rw [if_pos c1] at h1 ⊢
      exact k _ _ _ _ _ h1 s1 y1 (Dp.bl _)
    · rw [if_neg c1] at h1 ⊢
      exact hb.run h1 y1 fun b2 e2 v2 Hz2 H2 h2 s2 y2 l2 => k _ _ _ _ _ h2 (same_trans s1 s2) y2 l2
  · exact h1.elim⟩
def wNotV (E : WE) (e : En) (P : Vl → En → Prop) : Prop := wB E e fun c e1 => P (.dat (.bool (!c))) e1
theorem se_notV (ha : SE f ta Ea) : SE f (tNotV ta) (wNotV Ea) := ⟨fun {L W e σ Hz H Post Q} w y k => ha.run w y fun b e1 v Hz1 H1 h1 s1 y1 l1 => by
  try unfold bK at h1
  split at h1
  · obtain rfl := val_bool l1
    exact ⟨_, rfl, k _ _ _ _ _ h1 s1 y1 (Dp.bl _)⟩
  · exact h1.elim⟩
def wIf (T : WT) (Ea Eb : WE) (e : En) (P : Vl → En → Prop) : Prop := T e fun c e1 => if c = true then Ea e1 P else Eb e1 P
theorem se_if (ht : ST f t T) (ha : SE f ta Ea) (hb : SE f tb Eb) : SE f (tIf t ta tb) (wIf T Ea Eb) := ⟨fun {L W e σ Hz H Post Q} w y k => ht.run w y fun b e1 Hz1 H1 h1 s1 y1 => by
  by_cases c : b = true
  · rw [if_pos c] at h1 ⊢
    exact ha.run h1 y1 fun b2 e2 v2 Hz2 H2 h2 s2 y2 l2 => k _ _ _ _ _ h2 (same_trans s1 s2) y2 l2
  · rw [if_neg c] at h1 ⊢
    exact hb.run h1 y1 fun b2 e2 v2 Hz2 H2 h2 s2 y2 l2 => k _ _ _ _ _ h2 (same_trans s1 s2) y2 l2⟩
/-- a op b op c -/
def chK (A B : Prop) : Vl → Prop
  | .dat (.bool c) => if c = true then A else B
  | _ => False
theorem chK_bool {A B : Prop} {c : Bool} : chK A B (.dat (.bool c)) = if c = true then A else B := rfl
def wChain (g g' : W2) (Ea Eb Ec : WE) (e : En) (P : Vl → En → Prop) : Prop := Ea e fun b1 e1 => Eb e1 fun b2 e2 => ob1 (cont b1 e2) fun d1 => ob1 (cont b2 e2) fun d2 => g d1 d2 (chK (Ec e2 fun b3 e3 => ob1 (cont b2 e3) fun d2 => ob1 (cont b3 e3) fun d3 => g' d2 d3 fun b => P b e3) (P (.dat (.bool false)) e2))
theorem se_chain (hr : SR f r g) (hr' : SR f r' g') (ha : SE f ta Ea) (hb : SE f tb Eb) (hc : SE f tc Ec) : SE f (tChain r r' ta tb tc) (wChain g g' Ea Eb Ec) := ⟨fun {L W e σ Hz H Post Q} h y k => by
  refine ha.run h y fun b1 e1 v1 Hz1 H1 h1 s1 y1 l1 => ?_
  refine hb.run h1 y1 fun b2 e2 v2 Hz2 H2 h2 s2 y2 l2 => ?_
  obtain ⟨d1, c1, h2⟩ := ob1_ex h2
  obtain ⟨d2, c2, h2⟩ := ob1_ex h2
  refine hr.run (y2.un.cont (l1.mono s2) c1) (y2.cont l2 c2) y2 h2 fun b v Hz3 H3 h3 s3 y3 l3 => ?_
  unfold chK at h3
  split at h3
  · rename_i c
    obtain rfl := val_bool l3
    cases c
    · refine ⟨false, rfl, ?_⟩
      rw [if_neg (by decide)] at h3 ⊢
      exact k _ _ _ _ _ h3 (same_trans s1 (same_trans s2 s3)) (Sy.un (b := b1) (Sy.un (b := b2) y3)) (Dp.bl _)
    refine ⟨true, rfl, ?_⟩
    rw [if_pos rfl] at h3 ⊢
    refine hc.run h3 y3 fun b4 e4 v4 Hz4 H4 h4 s4 y4 l4 => ?_
    obtain ⟨d2', c2', h4⟩ := ob1_ex h4
    obtain ⟨d4, c4, h4⟩ := ob1_ex h4
    exact hr'.run ((Sy.un (b := b4) y4).cont (b := b2) (l2.mono (same_trans s3 s4)) c2') (y4.cont l4 c4) (Sy.un (b := b1) (Sy.un (b := b2) (Sy.un (b := b4) y4))) h4 fun b v Hz' H' h5 s5 y5 l5 => k _ _ _ _ _ h5 (same_trans s1 (same_trans s2 (same_trans s3 (same_trans s4 s5)))) y5 l5
  · exact h3.elim⟩
def unK (g : Int → V) (P : Vl → En → Prop) (b : Vl) (e1 : En) : Prop := match b with
  | .dat (.int i) => P (.dat (vD (g i))) e1
  | _ => False
theorem unK_int {g : Int → V} {P : Vl → En → Prop} {i : Int} {e1 : En} : unK g P (.dat (.int i)) e1 = P (.dat (vD (g i))) e1 := rfl
def wUn (g : Int → V) (E : WE) (e : En) (P : Vl → En → Prop) : Prop := E e (unK g P)
theorem se_un {g : Int → V} (hg : ∀ i, scV (g i) = true) (ha : SE f ta Ea) : SE f (tUn (rU g) ta) (wUn g Ea) := ⟨fun {L W e σ Hz H Post Q} w y k => ha.run w y fun b e1 v Hz1 H1 h1 s1 y1 l1 => by
  unfold unK at h1
  split at h1
  · cases l1
    exact ⟨_, rfl, k _ _ _ _ _ h1 s1 y1 (dp_sc (hg _))⟩
  · exact h1.elim⟩
end
end DL


set_option Elab.async false
set_option linter.all false
set_option maxRecDepth 100000
set_option maxHeartbeats 4000000
/-! Argument lists, displays, calls of built-ins, stores, statements, loops over the layer of values. -/
namespace DL
open PySem L2 TG
section
variable {f : Fr} {L e : En} {W σ : St} {Hz H : Hp}
theorem set_self_some {α : Type} {l : List α} {i : Nat} {x : α} (h : l[i]? = some x) : l.set i x = l := by
  apply List.ext_getElem?
  intro n
  by_cases hn : i = n
  · subst hn
    rw [List.getElem?_set_self (List.getElem?_eq_some_iff.mp h).1, h]
  · rw [List.getElem?_set_ne hn]
/-- the list of a slot is fixed -/
theorem Sy.frzS {i : Nat} {v : V} {ds : List PyData} (y : Sy f L W e σ Hz H) (q : e[i]? = some (some (.ob none (.lst ds)))) (ev : σ[i]? = some (some v)) :
    ∃ Hz', Sy f L W (e.set i (some (.dat (.list ds)))) σ Hz' H ∧ Same Hz Hz' ∧ Dp f.K Hz' v (.list ds) := by
  obtain ⟨Hz', y1, s1, d1⟩ := (y.mv q ev).frz
  have y2 := y1.setD (i := i) d1 (by rw [← y.ln]; exact (List.getElem?_eq_some_iff.mp ev).1)
  rw [List.set_set, set_self_some ev] at y2
  exact ⟨Hz', y2, s1, d1⟩
end
/-- a value as fixed data -/
def fzS (P : PyData → En → Prop) (i : Nat) (e1 : En) : Option (Option B) → Prop
  | some (some (.dat d)) => P d e1
  | some (some (.ob none (.lst ds))) => P (.list ds) (e1.set i (some (.dat (.list ds))))
  | _ => False
def fzK (P : PyData → En → Prop) (b : Vl) (e1 : En) : Prop := match b with
  | .dat d => P d e1
  | .ob (.lst ds) => P (.list ds) e1
  | .own i => fzS P i e1 e1[i]?
  | _ => False
def wFz (E : WE) (e : En) (P : PyData → En → Prop) : Prop := E e (fzK P)
section
variable {P : PyData → En → Prop} {e1 : En}
theorem fzK_dat {d : PyData} : fzK P (.dat d) e1 = P d e1 := rfl
theorem fzK_lst {ds : List PyData} : fzK P (.ob (.lst ds)) e1 = P (.list ds) e1 := rfl
theorem fzK_own {i : Nat} : fzK P (.own i) e1 = fzS P i e1 e1[i]? := rfl
theorem fzS_dat {i : Nat} {d : PyData} : fzS P i e1 (some (some (.dat d))) = P d e1 := rfl
theorem fzS_lst {i : Nat} {ds : List PyData} : fzS P i e1 (some (some (.ob none (.lst ds)))) = P (.list ds) (e1.set i (some (.dat (.list ds)))) := rfl
end
section
variable {f : Fr} {ta tb te : TE} {Ea Eb E : WE}
theorem fz_run (h : SE f te E) {L W e σ Hz H Post Q} (w : wFz E e Post) (y : Sy f L W e σ Hz H) (k : ∀ d e' v Hz' H', Post d e' → Same Hz Hz' → Sy f L W e' σ Hz' H' → Dp f.K Hz' v d → Q v H') : te σ H Q := by
  refine h.run w y fun b e1 v Hz1 H1 h1 s1 y1 l1 => ?_
  cases b with
  | dat d => exact k _ _ _ _ _ h1 s1 y1 l1
  | ob o =>
    cases o with
    | lst ds =>
      obtain ⟨Hz2, y2, s2, d2⟩ := Sy.frz y1
      exact k _ _ _ _ _ h1 (same_trans s1 s2) y2 d2
    | _ => exact h1.elim
  | own i =>
    rw [fzK_own] at h1
    generalize q : e1[i]? = x at h1
    unfold fzS at h1
    split at h1
    · obtain ⟨v', e1', e2⟩ := Sy.get (L := L) (W := W) y1 q
      have hv' : σ[i]? = some (some v) := l1
      rw [hv'] at e1'
      cases e1'
      exact k _ _ _ _ _ h1 s1 y1 e2
    · obtain ⟨Hz2, y2, s2, d2⟩ := Sy.frzS (L := L) (W := W) y1 q l1
      exact k _ _ _ _ _ h1 (same_trans s1 s2) y2 d2
    · exact h1.elim
  | gob n a => exact h1.elim
def wNil (e : En) (P : List PyData → En → Prop) : Prop := P [] e
def wCons (E : WE) (A : WA) (e : En) (P : List PyData → En → Prop) : Prop := wFz E e fun d e1 => A e1 fun ds e2 => P (d :: ds) e2
theorem sa_nil : SA f tNil wNil := ⟨fun {L W e σ Hz H Post Q} w y k => k _ _ _ _ _ w same_refl y .nil⟩
theorem sa_cons {tr : TA} {A : WA} (h : SE f te E) (hr : SA f tr A) : SA f (tCons te tr) (wCons E A) := ⟨fun {L W e σ Hz H Post Q} w y k => fz_run h w y fun d e1 v Hz1 H1 h1 s1 y1 d1 =>
  hr.run h1 y1 fun ds e2 vs Hz2 H2 h2 s2 y2 d2 => k _ _ _ _ _ h2 (same_trans s1 s2) y2 (.cons (dp_mono s2 _ _ d1) d2)⟩
/-- *xs -/
def wStar (E : WE) (A : WA) (e : En) (P : List PyData → En → Prop) : Prop := wFz E e fun d e1 => match d with
  | .list es => A e1 fun ds e2 => P (es ++ ds) e2
  | .tuple es => A e1 fun ds e2 => P (es ++ ds) e2
  | _ => False
theorem sa_star {tr : TA} {A : WA} (h : SE f te E) (hr : SA f tr A) : SA f (StX.tStar f.K te tr) (wStar E A) := ⟨fun {L W e σ Hz H Post Q} w y k => fz_run h w y fun d e1 v Hz1 H1 h1 s1 y1 d1 => by
  split at h1
  · cases d1 with
    | lst q1 q2 => exact ⟨_, _, rfl, .inr (sqL y1.sm q1), hr.run h1 y1 fun ds e2 vs Hz2 H2 h2 s2 y2 d2 => k _ _ _ _ _ h2 (same_trans s1 s2) y2 (dps_app (dps_mono s2 _ _ q2) d2)⟩
  · cases d1 with
    | tup q1 q2 => exact ⟨_, _, rfl, .inl (sqT y1.sm q1), hr.run h1 y1 fun ds e2 vs Hz2 H2 h2 s2 y2 d2 => k _ _ _ _ _ h2 (same_trans s1 s2) y2 (dps_app (dps_mono s2 _ _ q2) d2)⟩
  · exact h1.elim⟩
def wTup (A : WA) (e : En) (P : Vl → En → Prop) : Prop := A e fun ds e1 => ds.length ≤ 100000 ∧ P (.dat (.tuple ds)) e1
def wLst (A : WA) (e : En) (P : Vl → En → Prop) : Prop := A e fun ds e1 => ds.length ≤ 100000 ∧ P (.ob (.lst ds)) e1
theorem se_tup {ta : TA} {A : WA} (h : SA f ta A) : SE f (tTup ta) (wTup A) := ⟨fun {L W e σ Hz H Post Q} w y k => h.run w y fun ds e1 vs Hz1 H1 h1 s1 y1 d1 => ⟨Evl.sz_of (by rw [dps_len d1]; exact h1.1), fun p hp => by
  have s2 := same_new (y1.hz hp) (.tup vs)
  exact k _ _ _ _ _ h1.2 (same_trans s1 s2) (y1.newT hp) (Dp.tup (SqT.of upd_same) (dps_mono s2 _ _ d1))⟩⟩
theorem se_lst {ta : TA} {A : WA} (h : SA f ta A) : SE f (tLst ta) (wLst A) := ⟨fun {L W e σ Hz H Post Q} w y k => h.run w y fun ds e1 vs Hz1 H1 h1 s1 y1 d1 => ⟨Evl.sz_of (by rw [dps_len d1]; exact h1.1), fun p hp =>
  k _ _ _ _ _ h1.2 s1 (y1.newO (o := .lst ds) hp ⟨vs, upd_same, d1⟩) trivial⟩⟩
/-! ### calls of built-ins of one argument -/
abbrev W1 := PyData → (Vl → Prop) → Prop
structure SC (f : Fr) (r : List V → Hp → VK → Prop) (g : W1) : Prop where
  run : ∀ {L W e σ Hz H x d Post Q}, Rep f.K Hz H x d → Sy f L W e σ Hz H → g d Post →
  (∀ b v Hz' H', Post b → Same Hz Hz' → Sy f (tmp b L) (tmv b v W) e σ Hz' H' → Val f b v σ Hz' → Q v H') → r [x] H Q
def wC1 (g : W1) (E : WE) (e : En) (P : Vl → En → Prop) : Prop := E e fun b e1 => ob1 (cont b e1) fun d => g d fun b => P b e1
theorem se_cb1 {r : List V → Hp → VK → Prop} {g : W1} (hr : SC f r g) (h : SE f te E) : SE f (tCB r (tCons te tNil)) (wC1 g E) := ⟨fun {L W e σ Hz H Post Q} w y k => h.run w y fun b e1 v Hz1 H1 h1 s1 y1 l1 => by
  obtain ⟨d, c, h1⟩ := ob1_ex h1
  exact hr.run (y1.cont l1 c) y1.un h1 fun b v Hz' H' h2 s2 y2 l2 => k _ _ _ _ _ h2 (same_trans s1 s2) y2 l2⟩
theorem rep_tup {K : PySem.W.Frag} {Hz H : Hp} {v : V} {ds : List PyData} (s : Same Hz H) (h : Rep K Hz H v (.tuple ds)) : ∃ a xs, v = .ref a ∧ SqT K H a xs ∧ DpAll K Hz xs ds := by
  obtain ⟨a, xs, rfl, q1, q2⟩ := dp_tup h
  exact ⟨a, xs, rfl, sqT s q1, q2⟩
def gLen (d : PyData) (P : Vl → Prop) : Prop := match d with
  | .list ds => P (.dat (.int ds.length))
  | .tuple ds => P (.dat (.int ds.length))
  | _ => False
theorem sc_len : SC f (rLenQ f.K) gLen := ⟨fun {L W e σ Hz H x d Post Q} r s h k => by
  unfold gLen at h
  split at h
  · obtain ⟨a, xs, rfl, q1, q2⟩ := r
    refine ⟨a, xs, rfl, .inl q1, ?_⟩
    rw [dps_len q2]
    exact k _ _ _ _ h same_refl s (Dp.int _)
  · obtain ⟨a, xs, rfl, q1, q2⟩ := rep_tup s.sm r
    refine ⟨a, xs, rfl, .inr q1, ?_⟩
    rw [dps_len q2]
    exact k _ _ _ _ h same_refl s (Dp.int _)
  · exact h.elim⟩
def gTupOf (d : PyData) (P : Vl → Prop) : Prop := match d with
  | .list ds => P (.dat (.tuple ds))
  | .tuple ds => P (.dat (.tuple ds))
  | _ => False
theorem sc_tupOf : SC f (rTupOf f.K) gTupOf := ⟨fun {L W e σ Hz H x d Post Q} r s h k => by
  unfold gTupOf at h
  split at h
  · obtain ⟨a, xs, rfl, q1, q2⟩ := r
    refine ⟨a, xs, rfl, .inl ⟨q1, fun p hp => ?_⟩⟩
    have s2 := same_new (s.hz hp) (.tup xs)
    exact k _ _ _ _ h s2 (s.newT hp) (Dp.tup (SqT.of upd_same) (dps_mono s2 _ _ q2))
  · obtain ⟨a, xs, rfl, q1, q2⟩ := dp_tup r
    exact ⟨a, xs, rfl, .inr ⟨sqT s.sm q1, k _ _ _ _ h same_refl s (Dp.tup q1 q2)⟩⟩
  · exact h.elim⟩
def gListOf (d : PyData) (P : Vl → Prop) : Prop := match d with
  | .list ds => P (.ob (.lst ds))
  | .tuple ds => P (.ob (.lst ds))
  | _ => False
theorem sc_listOf : SC f (rListOf f.K) gListOf := ⟨fun {L W e σ Hz H x d Post Q} r s h k => by
  unfold gListOf at h
  split at h
  · obtain ⟨a, xs, rfl, q1, q2⟩ := r
    exact ⟨a, xs, rfl, .inl q1, fun p hp => k _ _ _ _ h same_refl (s.newO (o := .lst _) hp ⟨xs, upd_same, q2⟩) trivial⟩
  · obtain ⟨a, xs, rfl, q1, q2⟩ := rep_tup s.sm r
    exact ⟨a, xs, rfl, .inr q1, fun p hp => k _ _ _ _ h same_refl (s.newO (o := .lst _) hp ⟨xs, upd_same, q2⟩) trivial⟩
  · exact h.elim⟩
/-- data of ints, of bools -/
def intsD : List PyData → Option (List Int)
  | [] => some []
  | .int i :: ds => (intsD ds).map (i :: ·)
  | _ :: _ => none
def boolsD : List PyData → Option (List Bool)
  | [] => some []
  | .bool i :: ds => (boolsD ds).map (i :: ·)
  | _ :: _ => none
theorem intsD_map (ns : List Int) : intsD (ns.map PyData.int) = some ns := by
  induction ns with
  | nil => rfl
  | cons n ns ih => simp [intsD, ih]
theorem boolsD_map (ns : List Bool) : boolsD (ns.map PyData.bool) = some ns := by
  induction ns with
  | nil => rfl
  | cons n ns ih => simp [boolsD, ih]
theorem intsD_eq : ∀ {ds : List PyData} {ns : List Int}, intsD ds = some ns → ds = ns.map PyData.int
  | [], ns, h => by cases h; rfl
  | .int i :: ds, ns, h => by
    unfold intsD at h
    cases c : intsD ds with
    | none => rw [c] at h; cases h
    | some ms =>
      rw [c] at h
      cases h
      rw [intsD_eq c]
      rfl
  | .none :: _, _, h => by cases h
  | .bool _ :: _, _, h => by cases h
  | .str _ :: _, _, h => by cases h
  | .list _ :: _, _, h => by cases h
  | .tuple _ :: _, _, h => by cases h
  | .dict _ :: _, _, h => by cases h
theorem boolsD_eq : ∀ {ds : List PyData} {ns : List Bool}, boolsD ds = some ns → ds = ns.map PyData.bool
  | [], ns, h => by cases h; rfl
  | .bool i :: ds, ns, h => by
    unfold boolsD at h
    cases c : boolsD ds with
    | none => rw [c] at h; cases h
    | some ms =>
      rw [c] at h
      cases h
      rw [boolsD_eq c]
      rfl
  | .none :: _, _, h => by cases h
  | .int _ :: _, _, h => by cases h
  | .str _ :: _, _, h => by cases h
  | .list _ :: _, _, h => by cases h
  | .tuple _ :: _, _, h => by cases h
  | .dict _ :: _, _, h => by cases h
theorem dps_ints {K : PySem.W.Frag} {Hz : Hp} : ∀ {ns : List Int} {vs : List V}, DpAll K Hz vs (ns.map PyData.int) → vs = ns.map V.int
  | [], _, .nil => rfl
  | n :: ns, _, .cons h1 h2 => by
    cases h1
    rw [dps_ints h2]
    rfl
theorem dps_bools {K : PySem.W.Frag} {Hz : Hp} : ∀ {ns : List Bool} {vs : List V}, DpAll K Hz vs (ns.map PyData.bool) → vs = ns.map V.bl
  | [], _, .nil => rfl
  | n :: ns, _, .cons h1 h2 => by
    cases h1
    rw [dps_bools h2]
    rfl
theorem ints_dps {K : PySem.W.Frag} {Hz : Hp} : ∀ (ns : List Int), DpAll K Hz (ns.map V.int) (ns.map PyData.int)
  | [] => .nil
  | n :: ns => .cons (.int n) (ints_dps ns)
theorem rep_ints {K : PySem.W.Frag} {Hz H : Hp} {v : V} {ds : List PyData} {ns : List Int} (h : Rep K Hz H v (.list ds)) (e : intsD ds = some ns) : ∃ a, v = .ref a ∧ SqL K H a (ns.map V.int) := by
  obtain ⟨a, xs, rfl, q1, q2⟩ := h
  rw [intsD_eq e] at q2
  rw [dps_ints q2] at q1
  exact ⟨a, rfl, q1⟩
theorem rep_bools {K : PySem.W.Frag} {Hz H : Hp} {v : V} {ds : List PyData} {ns : List Bool} (h : Rep K Hz H v (.list ds)) (e : boolsD ds = some ns) : ∃ a, v = .ref a ∧ SqL K H a (ns.map V.bl) := by
  obtain ⟨a, xs, rfl, q1, q2⟩ := h
  rw [boolsD_eq e] at q2
  rw [dps_bools q2] at q1
  exact ⟨a, rfl, q1⟩
def gSum (d : PyData) (P : Vl → Prop) : Prop := match d with
  | .list ds => ob1 (intsD ds) fun ns => P (.dat (.int ns.sum))
  | _ => False
theorem sc_sum : SC f (rSum f.K) gSum := ⟨fun {L W e σ Hz H x d Post Q} r s h k => by
  unfold gSum at h
  split at h
  · obtain ⟨ns, c, h⟩ := ob1_ex h
    obtain ⟨a, rfl, q1⟩ := rep_ints r c
    exact ⟨a, ns, rfl, q1, k _ _ _ _ h same_refl s (Dp.int _)⟩
  · exact h.elim⟩
def gMax (d : PyData) (P : Vl → Prop) : Prop := match d with
  | .list ds => ob1 (intsD ds) fun ns => 0 < ns.length ∧ ∀ m, m ∈ ns → (∀ y ∈ ns, y ≤ m) → P (.dat (.int m))
  | _ => False
def gMin (d : PyData) (P : Vl → Prop) : Prop := match d with
  | .list ds => ob1 (intsD ds) fun ns => 0 < ns.length ∧ ∀ m, m ∈ ns → (∀ y ∈ ns, m ≤ y) → P (.dat (.int m))
  | _ => False
theorem sc_max : SC f (rMax f.K) gMax := ⟨fun {L W e σ Hz H x d Post Q} r s h k => by
  unfold gMax at h
  split at h
  · obtain ⟨ns, c, h⟩ := ob1_ex h
    obtain ⟨a, rfl, q1⟩ := rep_ints r c
    exact ⟨a, ns, rfl, q1, h.1, fun m h1 h2 => k _ _ _ _ (h.2 m h1 h2) same_refl s (Dp.int _)⟩
  · exact h.elim⟩
theorem sc_min : SC f (rMin f.K) gMin := ⟨fun {L W e σ Hz H x d Post Q} r s h k => by
  unfold gMin at h
  split at h
  · obtain ⟨ns, c, h⟩ := ob1_ex h
    obtain ⟨a, rfl, q1⟩ := rep_ints r c
    exact ⟨a, ns, rfl, q1, h.1, fun m h1 h2 => k _ _ _ _ (h.2 m h1 h2) same_refl s (Dp.int _)⟩
  · exact h.elim⟩
def gAll (d : PyData) (P : Vl → Prop) : Prop := match d with
  | .list ds => ob1 (boolsD ds) fun ns => P (.dat (.bool (ns.all id)))
  | _ => False
def gAny (d : PyData) (P : Vl → Prop) : Prop := match d with
  | .list ds => ob1 (boolsD ds) fun ns => P (.dat (.bool (ns.any id)))
  | _ => False
theorem sc_all : SC f (rAll f.K) gAll := ⟨fun {L W e σ Hz H x d Post Q} r s h k => by
  unfold gAll at h
  split at h
  · obtain ⟨ns, c, h⟩ := ob1_ex h
    obtain ⟨a, rfl, q1⟩ := rep_bools r c
    exact ⟨a, ns, rfl, q1, k _ _ _ _ h same_refl s (Dp.bl _)⟩
  · exact h.elim⟩
theorem sc_any : SC f (rAny f.K) gAny := ⟨fun {L W e σ Hz H x d Post Q} r s h k => by
  unfold gAny at h
  split at h
  · obtain ⟨ns, c, h⟩ := ob1_ex h
    obtain ⟨a, rfl, q1⟩ := rep_bools r c
    exact ⟨a, ns, rfl, q1, k _ _ _ _ h same_refl s (Dp.bl _)⟩
  · exact h.elim⟩
def gSorted (d : PyData) (P : Vl → Prop) : Prop := match d with
  | .list ds => ob1 (intsD ds) fun ns => ∀ ns' : List Int, ns'.Perm ns → ns'.Pairwise (· ≤ ·) → P (.ob (.lst (ns'.map PyData.int)))
  | _ => False
theorem sc_sorted : SC f (rSortedI f.K) gSorted := ⟨fun {L W e σ Hz H x d Post Q} r s h k => by
  unfold gSorted at h
  split at h
  · obtain ⟨ns, c, h⟩ := ob1_ex h
    obtain ⟨a, rfl, q1⟩ := rep_ints r c
    exact ⟨a, ns, rfl, q1, fun ns' p h1 h2 hp => k _ _ _ _ (h ns' h1 h2) same_refl (s.newO (o := .lst _) hp ⟨_, upd_same, ints_dps ns'⟩) trivial⟩
  · exact h.elim⟩
/-- sorted(set(xs)), xs a list of ints -/
def gSortSet (d : PyData) (P : Vl → Prop) : Prop := match d with
  | .list ds => ob1 (intsD ds) fun ns => ns.length < 64 ∧ ∀ ns' : List Int, ns'.Pairwise (· < ·) → (∀ k, k ∈ ns' ↔ k ∈ ns) → P (.ob (.lst (ns'.map PyData.int)))
  | _ => False
theorem se_sortSet {w : World} (h : SE f te E) : SE f (tCB (rSortedSet w) (tCons (tCB (rSetI f.K w) (tCons te tNil)) tNil)) (wC1 gSortSet E) := ⟨fun {L W e σ Hz H Post Q} wp y k => h.run wp y fun b e1 v Hz1 H1 h1 s1 y1 l1 => by
  obtain ⟨d, c, h1⟩ := ob1_ex h1
  have r := y1.cont l1 c
  unfold gSortSet at h1
  split at h1
  · obtain ⟨ns, c, h1⟩ := ob1_ex h1
    obtain ⟨a, rfl, q1⟩ := rep_ints r c
    refine ⟨a, ns, rfl, q1, by omega, fun p n hp hn => ?_⟩
    have y2 := y1.un.newT (u := SetO w p (fun j => decide (j ∈ ns)) n) hp
    have s2 := same_new (y1.un.hz hp) (SetO w p (fun j => decide (j ∈ ns)) n)
    refine ⟨p, _, n, rfl, upd_same, by omega, fun ns' q h3 h4 h5 hq => ?_⟩
    exact k _ _ _ _ _ (h1.2 ns' h3 (fun k => by rw [h4 k]; exact decide_eq_true_iff)) (same_trans s1 s2) (y2.newO (o := .lst _) hq ⟨_, upd_same, ints_dps ns'⟩) trivial
  · exact h1.elim⟩
def gInt (d : PyData) (P : Vl → Prop) : Prop := match d with
  | .int i => P (.dat (.int i))
  | .bool b => P (.dat (.int (if b then 1 else 0)))
  | _ => False
theorem sc_int : SC f (fun xs H Q => (∃ i, xs = [.int i] ∧ Q (.int i) H) ∨ ∃ k, xs = [.bl k] ∧ Q (.int (if k then 1 else 0)) H) gInt := ⟨fun {L W e σ Hz H x d Post Q} r s h k => by
  unfold gInt at h
  split at h
  · cases r
    exact .inl ⟨_, rfl, k _ _ _ _ h same_refl s (Dp.int _)⟩
  · cases r
    exact .inr ⟨_, rfl, k _ _ _ _ h same_refl s (Dp.int _)⟩
  · exact h.elim⟩
def gAbs (d : PyData) (P : Vl → Prop) : Prop := match d with
  | .int i => P (.dat (.int (if i < 0 then -i else i)))
  | _ => False
theorem sc_abs : SC f (fun xs H Q => ∃ i, xs = [.int i] ∧ Q (.int (if i < 0 then -i else i)) H) gAbs := ⟨fun {L W e σ Hz H x d Post Q} r s h k => by
  unfold gAbs at h
  split at h
  · cases r
    exact ⟨_, rfl, k _ _ _ _ h same_refl s (Dp.int _)⟩
  · exact h.elim⟩
end
theorem Rep.mono {K : PySem.W.Frag} {Hz Hz' H H' : Hp} {v : V} {d : PyData} (h : Rep K Hz H v d) (s : Same Hz Hz') (sH : Same H H') : Rep K Hz' H' v d := by
  cases d with
  | list ds =>
    obtain ⟨a, xs, rfl, h1, h2⟩ := h
    exact ⟨a, xs, rfl, sqL sH h1, dps_mono s _ _ h2⟩
  | _ => exact dp_mono s _ _ h
/-! ### isinstance -/
def tyD : PyData → String
  | .none => "NoneType"
  | .bool _ => "bool"
  | .int _ => "int"
  | .str _ => "str"
  | .list _ => "list"
  | .tuple _ => "tuple"
  | .dict _ => "dict"
/-- a pointer's type is not told -/
def isPtr : PyData → Bool
  | .dict (_ :: _) => true
  | _ => false
theorem isPtr_ptr {a : Addr} : isPtr (ptr a) = true := rfl
theorem rep_ty {K : PySem.W.Frag} {Hz H : Hp} {v : V} {d : PyData} (s : Same Hz H) (h : Rep K Hz H v d) (hp : isPtr d = false) : TyX K H v (.type (tyD d)) := by
  cases d with
  | none => cases h; exact .base .non
  | bool b => cases h; exact .base (.bl b)
  | int i => cases h; exact .base (.int i)
  | str x => cases h; exact .base (.str x)
  | dict ks =>
    have h' : Dp K Hz v (.dict ks) := h
    generalize e : PyData.dict ks = d at h'
    cases h' with
    | ptr a => cases e; cases hp
    | dic q => exact .base (.dK (s _ _ q))
    | _ => cases e
  | tuple ds =>
    obtain ⟨a, xs, rfl, (q | ⟨o, q⟩) | ⟨o, its, n, q, hc, _⟩, _⟩ := rep_tup s h
    · exact .base (.tup q)
    · exact .fTuple q
    · exact .kTuple q hc
  | list ds =>
    obtain ⟨a, xs, rfl, (q | ⟨o, q⟩) | ⟨o, its, n, q, hc, _⟩, _⟩ := h
    · exact .base (.lst q)
    · exact .base (.frz q)
    · exact .kList q hc
def isT (t c : String) : Bool := t == c || (t == "bool" && c == "int")
def goodT (c : String) : Bool := c == "tuple" || c == "list" || c == "int" || c == "bool" || c == "str" || c == "dict"
theorem tyD_is (d : PyData) : tyD d = "NoneType" ∨ tyD d = "bool" ∨ tyD d = "int" ∨ tyD d = "str" ∨ tyD d = "list" ∨ tyD d = "tuple" ∨ tyD d = "dict" := by
  cases d <;> simp [tyD]
theorem kit_is {d : PyData} {c : String} (h : goodT c = true) : kitB (tyD d) c = some (isT (tyD d) c) := by
  simp only [goodT, Bool.or_eq_true, beq_iff_eq] at h
  rcases tyD_is d with q | q | q | q | q | q | q <;> rw [q] <;> rcases h with ((((rfl | rfl) | rfl) | rfl) | rfl) | rfl <;> decide +kernel
theorem ept_none : isPtr .none = false := rfl
theorem ept_bool {b : Bool} : isPtr (.bool b) = false := rfl
theorem ept_int {i : Int} : isPtr (.int i) = false := rfl
theorem ept_str {x : Str} : isPtr (.str x) = false := rfl
theorem ept_list {ds : List PyData} : isPtr (.list ds) = false := rfl
theorem ept_tuple {ds : List PyData} : isPtr (.tuple ds) = false := rfl
theorem ept_dict : isPtr (.dict []) = false := rfl
def rIsiX (K : PySem.W.Frag) : List V → Hp → VK → Prop := fun xs H Q => ∃ x c t b, xs = [x, .ty c] ∧ TyX K H x (.type t) ∧ kitB t c = some b ∧ Q (.bl b) H
theorem call_isiX {X : Cx} {K : PySem.W.Frag} (hK : X.K = K) : CallR X (.builtin "isinstance") (rIsiX K) := by
  subst hK
  intro pins s σ H xs us Q I r h
  obtain ⟨x, c, t, b, rfl, ht, hk, q⟩ := h
  exact call_isi pins s σ H _ us Q I r ⟨x, .ty c, .type t, .type c, b, rfl, .ty c, ht, kit_ty hk, q⟩
section
variable {f : Fr} {te : TE} {E : WE}
def wIsi (c : String) (E : WE) (e : En) (P : Vl → En → Prop) : Prop := E e fun b e1 => ob1 (cont b e1) fun d => isPtr d = false ∧ P (.dat (.bool (isT (tyD d) c))) e1
theorem se_isi {c : String} (hc : goodT c = true) (h : SE f te E) : SE f (tCB (rIsiX f.K) (tCons te (tCons (tC (.ty c)) tNil))) (wIsi c E) := ⟨fun {L W e σ Hz H Post Q} w y k => h.run w y fun b e1 v Hz1 H1 h1 s1 y1 l1 => by
  obtain ⟨d, c1, h1⟩ := ob1_ex h1
  exact ⟨v, c, tyD d, isT (tyD d) c, rfl, rep_ty y1.sm (y1.cont l1 c1) h1.1, kit_is hc, k _ _ _ _ _ h1.2 s1 y1.un (Dp.bl _)⟩⟩
def wIsi2 (c c' : String) (E : WE) (e : En) (P : Vl → En → Prop) : Prop := E e fun b e1 => ob1 (cont b e1) fun d => isPtr d = false ∧ P (.dat (.bool (isT (tyD d) c || isT (tyD d) c'))) e1
theorem se_isi2 {c c' : String} (hc : goodT c = true) (hc' : goodT c' = true) (h : SE f te E) : SE f (tCB (rIsiT f.K) (tCons te (tCons (tTup (tCons (tC (.ty c)) (tCons (tC (.ty c')) tNil))) tNil))) (wIsi2 c c' E) := ⟨fun {L W e σ Hz H Post Q} w y k => h.run w y fun b e1 v Hz1 H1 h1 s1 y1 l1 => by
  obtain ⟨d, c1, h1⟩ := ob1_ex h1
  have r := y1.cont l1 c1
  refine ⟨by show 2 ≤ sizeLine; decide, fun p hp => ?_⟩
  have s2 := same_new (y1.un.hz hp) (.tup [V.ty c, V.ty c'])
  have sH := same_new hp (.tup [V.ty c, V.ty c'])
  have y2 := y1.un.newT (u := .tup [V.ty c, V.ty c']) hp
  have r2 := rep_ty y2.sm (r.mono s2 sH) h1.1
  refine ⟨v, p, _, .type (tyD d), [.type c, .type c'], _, rfl, upd_same, .cons (.ty _) (.cons (.ty _) .nil), r2, ?_, k _ _ _ _ _ h1.2 (same_trans s1 s2) y2 (Dp.bl _)⟩
  refine kitAny_cons (kit_ty (kit_is hc)) (fun z => ?_) (fun z => by rw [z]; rfl)
  rw [z, Bool.false_or]
  exact kitAny_cons (kit_ty (kit_is hc')) (fun z => by rw [z]; exact kitAny_nil) (fun z => z)⟩
end
end DL


set_option Elab.async false
set_option linter.all false
set_option maxRecDepth 100000
set_option maxHeartbeats 4000000
/-! Stores, statements, loops, comprehensions over the layer of values. -/
namespace DL
open PySem L2 TG
/-! ### wiping -/
theorem wipe_get (σ : St) : ∀ (vs : List Nat) (n : Nat), (wipe σ vs)[n]? = if n ∈ vs ∧ n < σ.length then some none else σ[n]?
  | [], n => by simp [wipe]
  | v :: vs, n => by
    unfold wipe
    by_cases h : v = n
    · subst h
      by_cases hl : v < σ.length
      · rw [List.getElem?_set_self (by rw [wipe_length]; exact hl), if_pos ⟨List.mem_cons_self, hl⟩]
      · rw [if_neg (fun c => hl c.2)]
        rw [List.getElem?_eq_none (by rw [List.length_set, wipe_length]; omega), List.getElem?_eq_none (by omega)]
    · rw [List.getElem?_set_ne h, wipe_get σ vs n]
      by_cases h2 : n ∈ vs ∧ n < σ.length
      · rw [if_pos h2, if_pos ⟨List.mem_cons_of_mem _ h2.1, h2.2⟩]
      · rw [if_neg h2, if_neg (fun c => h2 ⟨(List.mem_cons.mp c.1).resolve_left (fun q => h q.symm), c.2⟩)]
theorem wipe_congr {σ τ : St} {vs : List Nat} (hl : σ.length = τ.length) (h : ∀ n, n ∉ vs → σ[n]? = τ[n]?) : wipe σ vs = wipe τ vs := by
  apply List.ext_getElem?
  intro n
  rw [wipe_get, wipe_get, hl]
  by_cases c : n ∈ vs ∧ n < τ.length
  · rw [if_pos c, if_pos c]
  · rw [if_neg c, if_neg c]
    by_cases c2 : n ∈ vs
    · have : ¬ n < τ.length := fun q => c ⟨c2, q⟩
      rw [List.getElem?_eq_none (by omega), List.getElem?_eq_none (by omega)]
    · exact h n c2
theorem wipe_wipe (σ : St) (vs : List Nat) : wipe (wipe σ vs) vs = wipe σ vs := by
  refine wipe_congr (wipe_length _ _) fun n hn => ?_
  rw [wipe_get, if_neg (fun c => hn c.1)]
theorem wipe_set {σ : St} {vs : List Nat} {i : Nat} {x : Option V} (h : i ∈ vs) : wipe (σ.set i x) vs = wipe σ vs := by
  refine wipe_congr (List.length_set ..) fun n hn => ?_
  rw [List.getElem?_set_ne (fun c : i = n => hn (by rw [← c]; exact h))]
def wipeE (e : En) : List Nat → En
  | [] => e
  | v :: vs => (wipeE e vs).set v none
section
variable {f : Fr} {L e : En} {W σ : St} {Hz H : Hp}
theorem Sy.wiped (y : Sy f L W e σ Hz H) : ∀ vs : List Nat, (∀ v ∈ vs, v < f.n) → Sy f L W (wipeE e vs) (wipe σ vs) Hz H
  | [], _ => y
  | v :: vs, h => (Sy.wiped y vs fun x hx => h x (List.mem_cons_of_mem _ hx)).forget (h v List.mem_cons_self)
/-- other values in slots that hold nothing -/
theorem Pr.swap {O : List Addr} {τ : St} (h : Pr f Hz H e σ O) (hl : τ.length = σ.length) (hs : ∀ n : Nat, e[n]? ≠ some none → τ[n]? = σ[n]?) : Pr f Hz H e τ O := by
  induction h generalizing τ with
  | nil =>
    cases τ with
    | nil => exact .nil
    | cons _ _ => simp at hl
  | gs l h g =>
    cases τ with
    | nil => exact .gs l h g
    | cons _ _ => simp at hl
  | @skip x L W O p ih =>
    cases τ with
    | nil => simp at hl
    | cons t τ => exact .skip (ih (by simpa using hl) fun n hn => by have := hs (n + 1) (by simpa using hn); simpa using this)
  | @dat v d L W O q p ih =>
    cases τ with
    | nil => simp at hl
    | cons t τ =>
      have h0 := hs 0 (by simp)
      simp at h0
      subst h0
      exact .dat q (ih (by simpa using hl) fun n hn => by have := hs (n + 1) (by simpa using hn); simpa using this)
  | @ob a t o L W O q q1 q2 p ih =>
    cases τ with
    | nil => simp at hl
    | cons t τ =>
      have h0 := hs 0 (by simp)
      simp at h0
      subst h0
      exact .ob q q1 q2 (ih (by simpa using hl) fun n hn => by have := hs (n + 1) (by simpa using hn); simpa using this)
theorem wipeE_len (e : En) : ∀ vs : List Nat, (wipeE e vs).length = e.length
  | [] => rfl
  | v :: vs => by unfold wipeE; rw [List.length_set, wipeE_len e vs]
theorem wipeE_get (e : En) : ∀ (vs : List Nat) (n : Nat), (wipeE e vs)[n]? = if n ∈ vs ∧ n < e.length then some none else e[n]?
  | [], n => by simp [wipeE]
  | v :: vs, n => by
    unfold wipeE
    by_cases h : v = n
    · subst h
      by_cases hl : v < e.length
      · rw [List.getElem?_set_self (by rw [wipeE_len]; exact hl), if_pos ⟨List.mem_cons_self, hl⟩]
      · rw [if_neg (fun c => hl c.2)]
        rw [List.getElem?_eq_none (by rw [List.length_set, wipeE_len]; omega), List.getElem?_eq_none (by omega)]
    · rw [List.getElem?_set_ne h, wipeE_get e vs n]
      by_cases h2 : n ∈ vs ∧ n < e.length
      · rw [if_pos h2, if_pos ⟨List.mem_cons_of_mem _ h2.1, h2.2⟩]
      · rw [if_neg h2, if_neg (fun c => h2 ⟨(List.mem_cons.mp c.1).resolve_left (fun q => h q.symm), c.2⟩)]
theorem Sy.swap {τ : St} (y : Sy f L W e σ Hz H) (hl : τ.length = σ.length) (hs : ∀ n : Nat, e[n]? ≠ some none → τ[n]? = σ[n]?) : Sy f L W e τ Hz H := by
  obtain ⟨⟨O1, O2, p1, p2, nd, fr⟩, sm, tz, nw, kp, ka, az, tp, ln⟩ := y
  exact ⟨⟨O1, O2, p1, p2.swap hl hs, nd, fr⟩, sm, tz, nw, kp, ka, az, tp, hl.trans ln⟩
/-- back from a comprehension -/
theorem Sy.unwipe {vs : List Nat} (y : Sy f L W e (wipe σ vs) Hz H) (hv : ∀ v ∈ vs, v < f.n) : Sy f L W (wipeE e vs) σ Hz H := by
  have y1 := y.wiped vs hv
  have hl := y.le
  rw [wipe_length] at hl
  refine y1.swap (by rw [wipe_length, wipe_length]) fun n hn => ?_
  by_cases c : n ∈ vs
  · by_cases c2 : n < e.length
    · exact absurd (by rw [wipeE_get, if_pos ⟨c, c2⟩]) hn
    · rw [List.getElem?_eq_none (by omega), List.getElem?_eq_none (by rw [wipe_length, wipe_length]; omega)]
  · rw [wipe_get, if_neg (fun q => c q.1), wipe_get, if_neg (fun q => c q.1)]
/-- the data that stood in some slots ahead -/
def back (e0 : En) : List Nat → En → En
  | [], e => e
  | v :: vs, e => match e0[v]? with
    | some (some (.dat d)) => (back e0 vs e).set v (some (.dat d))
    | _ => back e0 vs e
theorem back_len (e0 e : En) : ∀ vs, (back e0 vs e).length = e.length
  | [] => rfl
  | v :: vs => by
    unfold back
    split
    · rw [List.length_set, back_len e0 e vs]
    · exact back_len e0 e vs
theorem Sy.back {L0 e0 : En} {W0 : St} {Hz0 H0 : Hp} (y0 : Sy f L0 W0 e0 σ Hz0 H0) (s : Same Hz0 Hz) (y : Sy f L W e σ Hz H) (he : e.length = e0.length) : ∀ vs, Sy f L W (back e0 vs e) σ Hz H
  | [] => y
  | v :: vs => by
    have y1 := Sy.back y0 s y he vs
    unfold DL.back
    split
    · rename_i d q
      obtain ⟨x, e1, e2⟩ := y0.get q
      have y2 := y1.setD (i := v) (dp_mono s _ _ e2) (by rw [← y0.ln]; exact (List.getElem?_eq_some_iff.mp e1).1)
      rw [set_self_some e1] at y2
      exact y2
    · exact y1
end
/-! ### stores -/
abbrev WG := Vl → En → (En → Prop) → Prop
abbrev WGs := List PyData → En → (En → Prop) → Prop
structure SG (f : Fr) (g : TG) (G : WG) (sl : List Nat) : Prop where
  run : ∀ {L W e σ Hz H b v Post Q}, G b e Post → Sy f (tmp b L) (tmv b v W) e σ Hz H → Val f b v σ Hz →
    (∀ e' σ' Hz' H', Post e' → Same Hz Hz' → Sy f L W e' σ' Hz' H' → (∀ vs, (∀ i ∈ sl, i ∈ vs) → wipe σ' vs = wipe σ vs) → Q σ' H') → g v σ H Q
structure SGs (f : Fr) (g : TGs) (G : WGs) (sl : List Nat) : Prop where
  run : ∀ {L W e σ Hz H ds vs Post Q}, G ds e Post → Sy f L W e σ Hz H → DpAll f.K Hz vs ds →
    (∀ e' σ' Hz' H', Post e' → Same Hz Hz' → Sy f L W e' σ' Hz' H' → (∀ vs, (∀ i ∈ sl, i ∈ vs) → wipe σ' vs = wipe σ vs) → Q σ' H') → g vs σ H Q
section
variable {f : Fr}
def nmS (i j : Nat) (e : En) (P : En → Prop) : Option (Option B) → Prop
  | some (some (.dat d)) => P (e.set i (some (.dat d)))
  | some (some (.ob t o)) => P ((e.set j none).set i (some (.ob t o)))
  | _ => False
def wName (i : Nat) (b : Vl) (e : En) (P : En → Prop) : Prop := match b with
  | .dat d => P (e.set i (some (.dat d)))
  | .ob o => P (e.set i (some (.ob none o)))
  | .own j => nmS i j e P e[j]?
  | .gob _ a => P (e.set i (some (.dat (ptr a))))
section
variable {i : Nat} {e : En} {P : En → Prop}
theorem nm_dat {d : PyData} : wName i (.dat d) e P = P (e.set i (some (.dat d))) := rfl
theorem nm_ob {o : Ob} : wName i (.ob o) e P = P (e.set i (some (.ob none o))) := rfl
theorem nm_gob {n : Nat} {a : Addr} : wName i (.gob n a) e P = P (e.set i (some (.dat (ptr a)))) := rfl
theorem nm_own {j : Nat} : wName i (.own j) e P = nmS i j e P e[j]? := rfl
theorem nmS_dat {j : Nat} {d : PyData} : nmS i j e P (some (some (.dat d))) = P (e.set i (some (.dat d))) := rfl
theorem nmS_ob {j : Nat} {t : Option Nat} {o : Ob} : nmS i j e P (some (some (.ob t o))) = P ((e.set j none).set i (some (.ob t o))) := rfl
end
theorem sg_name {i : Nat} (hn : Nat.blt i f.n = true := by rfl) : SG f (gName i) (wName i) [i] := ⟨fun {L W e σ Hz H b v Post Q} w y l k => by
  have hi : i < f.n := Nat.le_of_ble_eq_true hn
  have hw : ∀ vs, (∀ j ∈ [i], j ∈ vs) → wipe (σ.set i (some v)) vs = wipe σ vs := fun vs h => wipe_set (h i List.mem_cons_self)
  cases b with
  | dat d => exact k _ _ _ _ w same_refl (y.setD l hi) hw
  | ob o => exact k _ _ _ _ w same_refl (Sy.setO y hi) hw
  | gob n a =>
    have l' : v = .ref a := l
    subst l'
    exact k _ _ _ _ w same_refl (Sy.setD (L := L) (W := W) y (Dp.ptr a) hi) hw
  | own j =>
    rw [nm_own] at w
    generalize q : e[j]? = x at w
    unfold nmS at w
    split at w
    · obtain ⟨v', e1', e2⟩ := Sy.get (L := L) (W := W) y q
      have hv' : σ[j]? = some (some v) := l
      rw [hv'] at e1'
      cases e1'
      exact k _ _ _ _ w same_refl (Sy.setD (L := L) (W := W) y e2 hi) hw
    · exact k _ _ _ _ w same_refl (Sy.setO (Sy.mv (L := L) (W := W) y q l) hi) hw
    · exact w.elim⟩
def wGNil (ds : List PyData) (e : En) (P : En → Prop) : Prop := match ds with
  | [] => P e
  | _ => False
def wGCons (G : WG) (Gs : WGs) (ds : List PyData) (e : En) (P : En → Prop) : Prop := match ds with
  | d :: r => G (.dat d) e fun e1 => Gs r e1 P
  | [] => False
theorem sgs_nil : SGs f gNil wGNil [] := ⟨fun {L W e σ Hz H ds vs Post Q} w y l k => by
  cases l with
  | nil => exact ⟨rfl, k _ _ _ _ w same_refl y (fun _ _ => rfl)⟩
  | cons _ _ => exact w.elim⟩
theorem sgs_cons {g : TG} {gs : TGs} {G : WG} {Gs : WGs} {sl sl' : List Nat} (h : SG f g G sl) (hs : SGs f gs Gs sl') : SGs f (gCons g gs) (wGCons G Gs) (sl ++ sl') := ⟨fun {L W e σ Hz H ds vs Post Q} w y l k => by
  cases l with
  | nil => exact w.elim
  | cons l1 l2 =>
    refine ⟨_, _, rfl, ?_⟩
    refine SG.run (L := L) (W := W) h w y l1 fun e1 σ1 Hz1 H1 h1 s1 y1 c1 => ?_
    exact hs.run h1 y1 (dps_mono s1 _ _ l2) fun e2 σ2 Hz2 H2 h2 s2 y2 c2 => k _ _ _ _ h2 (same_trans s1 s2) y2 fun vs hv => by
      rw [c2 vs (fun i hi => hv i (List.mem_append_right _ hi)), c1 vs (fun i hi => hv i (List.mem_append_left _ hi))]⟩
def wGTup (n : Nat) (Gs : WGs) (b : Vl) (e : En) (P : En → Prop) : Prop := ob1 (cont b e) fun d => match d with
  | .tuple ds => ds.length = n ∧ Gs ds e P
  | _ => False
theorem sg_tup {n : Nat} {gs : TGs} {Gs : WGs} {sl : List Nat} (hs : SGs f gs Gs sl) : SG f (gTup f.K n gs) (wGTup n Gs) sl := ⟨fun {L W e σ Hz H b v Post Q} w y l k => by
  obtain ⟨d, c, w⟩ := ob1_ex w
  have r := y.cont l c
  split at w
  · obtain ⟨a, xs, rfl, q1, q2⟩ := rep_tup y.sm r
    exact ⟨a, xs, rfl, q1, by rw [dps_len q2]; exact w.1, hs.run w.2 y.un q2 k⟩
  · exact w.elim⟩
/-- xs[i] = v, xs the list of a slot -/
def wGSub (j : Nat) (Ei : WE) (b : Vl) (e : En) (P : En → Prop) : Prop := match b with
  | .dat d => wVar j e fun _ _ => Ei e fun bi e1 => match bi with
    | .dat (.int n) => match e1[j]? with
      | some (some (.ob t (.lst ds))) => ob1 (ixN ds.length n) fun m => P (e1.set j (some (.ob t (.lst (ds.set m d)))))
      | _ => False
    | _ => False
  | _ => False
theorem sg_sub {j : Nat} {ti : TE} {Ei : WE} (hi : SE f ti Ei) : SG f (gSub (tVar j) ti rSetL) (wGSub j Ei) [] := ⟨fun {L W e σ Hz H b v Post Q} w y l k => by
  cases b with
  | dat d =>
    obtain ⟨va, ha, w⟩ : ∃ va, σ[j]? = some (some va) ∧ Ei e fun bi e1 => match bi with
        | .dat (.int n) => match e1[j]? with
          | some (some (.ob t (.lst ds))) => ob1 (ixN ds.length n) fun m => Post (e1.set j (some (.ob t (.lst (ds.set m d)))))
          | _ => False
        | _ => False := by
      unfold wGSub wVar at w
      generalize q : e[j]? = x at w
      unfold vrS at w
      dsimp only at w
      split at w
      · obtain ⟨v', e1', e2⟩ := Sy.get (L := L) (W := W) y q
        exact ⟨v', e1', w⟩
      · obtain ⟨v', e1', e2⟩ := Sy.ob (L := L) (W := W) y q
        exact ⟨_, e1', w⟩
      · exact w.elim
    refine ⟨va, ha, ?_⟩
    refine hi.run w y fun bi e1 vi Hz1 H1 h1 s1 y1 l1 => ?_
    split at h1
    · rename_i n
      split at h1
      · rename_i t ds q
        obtain ⟨m, c, h1⟩ := ob1_ex h1
        cases l1
        obtain ⟨a', q1, q2, q3⟩ := Sy.ob (L := L) (W := W) y1 q
        rw [ha] at q1
        cases q1
        obtain ⟨xs, q4, q5⟩ := q2
        refine ⟨a', xs, n, m, rfl, rfl, q4, by rw [dps_len q5]; exact c, ?_⟩
        refine k _ _ _ _ h1 s1 (Sy.wr (L := L) (W := W) y1 q ha ⟨_, upd_same, ?_⟩) (fun _ _ => rfl)
        exact dps_set m q5 (dp_mono s1 _ _ l)
      · exact h1.elim
    · exact h1.elim
  | ob o => exact w.elim
  | own j => exact w.elim
  | gob n a => exact w.elim⟩
end
/-! ### statements -/
structure Po where
  nx : En → Prop
  rt : Vl → En → Prop
  bk : En → Prop := fun _ => False
  ct : En → Prop := fun _ => False
abbrev WS := Po → En → Prop
structure Out (f : Fr) (P : Po) (D : Ends) (Z : Hp) : Prop where
  nx : ∀ {e σ Hz H}, P.nx e → Same Z Hz → Sy f [] [] e σ Hz H → D.nx σ H
  rt : ∀ {b e σ v Hz H}, P.rt b e → Same Z Hz → Sy f (tmp b []) (tmv b v []) e σ Hz H → Val f b v σ Hz → D.rt v H
  bk : ∀ {e σ Hz H}, P.bk e → Same Z Hz → Sy f [] [] e σ Hz H → D.bk σ H
  ct : ∀ {e σ Hz H}, P.ct e → Same Z Hz → Sy f [] [] e σ Hz H → D.ct σ H
theorem Out.mono {f : Fr} {P : Po} {D : Ends} {Z Z' : Hp} (o : Out f P D Z) (s : Same Z Z') : Out f P D Z' :=
  ⟨fun a b c => o.nx a (same_trans s b) c, fun a b c d => o.rt a (same_trans s b) c d, fun a b c => o.bk a (same_trans s b) c, fun a b c => o.ct a (same_trans s b) c⟩
structure SS (f : Fr) (t : TS) (S : WS) : Prop where
  run : ∀ {D P e σ Hz H}, S P e → Sy f [] [] e σ Hz H → Out f P D Hz → t D σ H
section
variable {f : Fr} {t u : TS} {S U : WS} {te ta tb tc : TE} {E Ea Eb Ec : WE} {tt : TT} {T : WT}
def wSeq (S U : WS) (P : Po) (e : En) : Prop := S { P with nx := U P } e
theorem ss_seq (h1 : SS f t S) (h2 : SS f u U) : SS f (tSeq t u) (wSeq S U) := ⟨fun {D P e σ Hz H} w y o => h1.run w y ⟨fun p s1 y1 => h2.run p y1 (o.mono s1), o.rt, o.bk, o.ct⟩⟩
def wNext (P : Po) (e : En) : Prop := P.nx e
theorem ss_next : SS f tNext wNext := ⟨fun w y o => o.nx w same_refl y⟩
def wNever (P : Po) (e : En) : Prop := False
theorem ss_never : SS f tNever wNever := ⟨fun w _ _ => w.elim⟩
def wBreak (P : Po) (e : En) : Prop := P.bk e
theorem ss_break : SS f tBreak wBreak := ⟨fun w y o => o.bk w same_refl y⟩
def wCont (P : Po) (e : En) : Prop := P.ct e
theorem ss_cont : SS f tCont wCont := ⟨fun w y o => o.ct w same_refl y⟩
def wRetN (P : Po) (e : En) : Prop := P.rt (.dat .none) e
theorem ss_retN : SS f tRetN wRetN := ⟨fun w y o => o.rt (v := .non) w same_refl y Dp.non⟩
def rtS (P : Po) (i : Nat) (e1 : En) : Option (Option B) → Prop
  | some (some (.dat d)) => P.rt (.dat d) e1
  | some (some (.ob none o)) => P.rt (.ob o) (e1.set i none)
  | _ => False
def rtK (P : Po) (b : Vl) (e1 : En) : Prop := match b with
  | .own i => rtS P i e1 e1[i]?
  | .dat d => P.rt (.dat d) e1
  | .ob o => P.rt (.ob o) e1
  | .gob _ a => P.rt (.dat (ptr a)) e1
section
variable {P : Po} {e1 : En}
theorem rtK_dat {d : PyData} : rtK P (.dat d) e1 = P.rt (.dat d) e1 := rfl
theorem rtK_ob {o : Ob} : rtK P (.ob o) e1 = P.rt (.ob o) e1 := rfl
theorem rtK_gob {n : Nat} {a : Addr} : rtK P (.gob n a) e1 = P.rt (.dat (ptr a)) e1 := rfl
theorem rtK_own {i : Nat} : rtK P (.own i) e1 = rtS P i e1 e1[i]? := rfl
theorem rtS_dat {i : Nat} {d : PyData} : rtS P i e1 (some (some (.dat d))) = P.rt (.dat d) e1 := rfl
theorem rtS_ob {i : Nat} {o : Ob} : rtS P i e1 (some (some (.ob none o))) = P.rt (.ob o) (e1.set i none) := rfl
end
def wRet (E : WE) (P : Po) (e : En) : Prop := E e (rtK P)
theorem ss_ret (h : SE f te E) : SS f (tRet te) (wRet E) := ⟨fun {D P e σ Hz H} w y o => h.run w y fun b e1 v Hz1 H1 h1 s1 y1 l1 => by
  cases b with
  | dat d => exact o.rt h1 s1 y1 l1
  | ob d => exact o.rt h1 s1 y1 l1
  | gob n a =>
    have l' : v = .ref a := l1
    subst l'
    exact o.rt (b := .dat (ptr a)) h1 s1 y1 (Dp.ptr a)
  | own i =>
    rw [rtK_own] at h1
    generalize q : e1[i]? = x at h1
    unfold rtS at h1
    split at h1
    · rename_i d
      obtain ⟨v', e1', e2⟩ := Sy.get (L := []) (W := []) y1 q
      have hv' : σ[i]? = some (some v) := l1
      rw [hv'] at e1'
      cases e1'
      exact o.rt (b := .dat d) h1 s1 y1 e2
    · rename_i ob
      exact o.rt (b := .ob ob) h1 s1 (Sy.mv (L := []) (W := []) y1 q l1) trivial
    · exact h1.elim⟩
def wIfS (T : WT) (S U : WS) (P : Po) (e : En) : Prop := T e fun c e1 => if c = true then S P e1 else U P e1
theorem ss_if (ht : ST f tt T) (h1 : SS f t S) (h2 : SS f u U) : SS f (tIfS tt t u) (wIfS T S U) := ⟨fun {D P e σ Hz H} w y o => ht.run w y fun b e1 Hz1 H1 w1 s1 y1 => by
  by_cases c : b = true
  · rw [if_pos c] at w1 ⊢
    exact h1.run w1 y1 (o.mono s1)
  · rw [if_neg c] at w1 ⊢
    exact h2.run w1 y1 (o.mono s1)⟩
def wDrop (E : WE) (P : Po) (e : En) : Prop := E e fun _ e1 => P.nx e1
theorem ss_drop (h : SE f te E) : SS f (tDrop te) (wDrop E) := ⟨fun {D P e σ Hz H} w y o => h.run w y fun b e1 v Hz1 H1 h1 s1 y1 l1 => o.nx h1 s1 y1.un⟩
def wAsg (E : WE) (G : WG) (P : Po) (e : En) : Prop := E e fun b e1 => G b e1 P.nx
theorem ss_asg {g : TG} {G : WG} {sl : List Nat} (h : SE f te E) (hg : SG f g G sl) : SS f (tAsg te g) (wAsg E G) := ⟨fun {D P e σ Hz H} w y o => h.run w y fun b e1 v Hz1 H1 h1 s1 y1 l1 =>
  hg.run h1 y1 l1 fun e2 σ2 Hz2 H2 h2 s2 y2 _ => o.nx h2 (same_trans s1 s2) y2⟩
/-- a, b = x, y -/
def notOwn : Vl → Bool
  | .own _ => false
  | .gob _ _ => false
  | _ => true
def wPar (i j : Nat) (Ea Eb : WE) (P : Po) (e : En) : Prop := Ea e fun b1 e1 => Eb e1 fun b2 e2 => notOwn b1 = true ∧ wName j b2 e2 fun e3 => wName i b1 e3 P.nx
theorem val_not {f' : Fr} {b : Vl} {v : V} {σ σ' : St} {Hz : Hp} (hK : f'.K = f.K) (h : Val f b v σ Hz) (n : notOwn b = true) : Val f' b v σ' Hz := by
  cases b with
  | dat d => show Dp f'.K Hz v d; rw [hK]; exact h
  | own i => cases n
  | gob _ _ => cases n
  | ob o => trivial
theorem ss_par {i j : Nat} (hij : i ≠ j) (ha : SE f ta Ea) (hb : SE f tb Eb) (hi : Nat.blt i f.n = true := by rfl) (hj : Nat.blt j f.n = true := by rfl) : SS f (tPar i j (tCons ta (tCons tb tNil))) (wPar i j Ea Eb) := ⟨fun {D P e σ Hz H} w y o =>
  ha.run w y fun b1 e1 v1 Hz1 H1 h1 s1 y1 l1 => hb.run h1 y1 fun b2 e2 v2 Hz2 H2 h2 s2 y2 l2 => by
    obtain ⟨n1, h2⟩ := h2
    refine ⟨v1, v2, rfl, ?_⟩
    rw [List.set_comm _ _ hij]
    exact (sg_name (f := f) (i := j) hj).run (Q := fun σ' H' => D.nx (σ'.set i (some v1)) H') h2 y2 l2 fun e3 σ3 Hz3 H3 h3 s3 y3 _ =>
      (sg_name (f := f) (i := i) hi).run (Q := fun σ' H' => D.nx σ' H') h3 y3 (val_not rfl (l1.mono (same_trans s2 s3)) n1) fun e4 σ4 Hz4 H4 h4 s4 y4 _ => o.nx h4 (same_trans s1 (same_trans s2 (same_trans s3 s4))) y4⟩
def wPar3 (i j l : Nat) (Ea Eb Ec : WE) (P : Po) (e : En) : Prop := Ea e fun b1 e1 => Eb e1 fun b2 e2 => Ec e2 fun b3 e3 => notOwn b1 = true ∧ notOwn b2 = true ∧ wName l b3 e3 fun e4 => wName j b2 e4 fun e5 => wName i b1 e5 P.nx
theorem ss_par3 {i j l : Nat} (hij : i ≠ j) (hil : i ≠ l) (hjl : j ≠ l) (ha : SE f ta Ea) (hb : SE f tb Eb) (hc : SE f tc Ec) (hi : Nat.blt i f.n = true := by rfl) (hj : Nat.blt j f.n = true := by rfl) (hl : Nat.blt l f.n = true := by rfl) : SS f (tPar3 i j l (tCons ta (tCons tb (tCons tc tNil)))) (wPar3 i j l Ea Eb Ec) := ⟨fun {D P e σ Hz H} w y o =>
  ha.run w y fun b1 e1 v1 Hz1 H1 h1 s1 y1 l1 => hb.run h1 y1 fun b2 e2 v2 Hz2 H2 h2 s2 y2 l2 => hc.run h2 y2 fun b3 e3 v3 Hz3 H3 h3 s3 y3 l3 => by
    obtain ⟨n1, n2, h3⟩ := h3
    refine ⟨v1, v2, v3, rfl, ?_⟩
    have es : ((σ.set i (some v1)).set j (some v2)).set l (some v3) = ((σ.set l (some v3)).set j (some v2)).set i (some v1) := by
      rw [List.set_comm _ _ hjl, List.set_comm _ _ hil, List.set_comm _ _ hij]
    rw [es]
    exact (sg_name (f := f) (i := l) hl).run (Q := fun σ' H' => D.nx ((σ'.set j (some v2)).set i (some v1)) H') h3 y3 l3 fun e4 σ4 Hz4 H4 h4 s4 y4 _ =>
      (sg_name (f := f) (i := j) hj).run (Q := fun σ' H' => D.nx (σ'.set i (some v1)) H') h4 y4 (val_not rfl (l2.mono (same_trans s3 s4)) n2) fun e5 σ5 Hz5 H5 h5 s5 y5 _ =>
        (sg_name (f := f) (i := i) hi).run (Q := fun σ' H' => D.nx σ' H') h5 y5 (val_not rfl (l1.mono (same_trans s2 (same_trans s3 (same_trans s4 s5)))) n1) fun e6 σ6 Hz6 H6 h6 s6 y6 _ => o.nx h6 (same_trans s1 (same_trans s2 (same_trans s3 (same_trans s4 (same_trans s5 s6))))) y6⟩
/-- the same by a tuple that is made and taken apart -/
theorem ss_parT {i j : Nat} (hij : i ≠ j) (ha : SE f ta Ea) (hb : SE f tb Eb) (hi : Nat.blt i f.n = true := by rfl) (hj : Nat.blt j f.n = true := by rfl) : SS f (tAsg (tTup (tCons ta (tCons tb tNil))) (gTup f.K 2 (gCons (gName i) (gCons (gName j) gNil)))) (wPar i j Ea Eb) := ⟨fun {D P e σ Hz H} w y o =>
  ha.run w y fun b1 e1 v1 Hz1 H1 h1 s1 y1 l1 => hb.run h1 y1 fun b2 e2 v2 Hz2 H2 h2 s2 y2 l2 => ⟨by show 2 ≤ sizeLine; decide, fun p hp => by
    obtain ⟨n1, h2⟩ := h2
    have s0 := same_new (y2.hz hp) (.tup [v1, v2])
    refine ⟨p, _, rfl, SqT.of upd_same, rfl, _, _, rfl, _, _, rfl, rfl, ?_⟩
    rw [List.set_comm _ _ hij]
    exact (sg_name (f := f) (i := j) hj).run (Q := fun σ' H' => D.nx (σ'.set i (some v1)) H') h2 (y2.newT hp) (l2.mono s0) fun e3 σ3 Hz3 H3 h3 s3 y3 _ =>
      (sg_name (f := f) (i := i) hi).run (Q := fun σ' H' => D.nx σ' H') h3 y3 (val_not rfl (l1.mono (same_trans s2 (same_trans s0 s3))) n1) fun e4 σ4 Hz4 H4 h4 s4 y4 _ => o.nx h4 (same_trans s1 (same_trans s2 (same_trans s0 (same_trans s3 s4)))) y4⟩⟩
/-- i op= e, of ints -/
def wAugI (i : Nat) (g : Int → Int → Int) (E : WE) (P : Po) (e : En) : Prop := match e[i]? with
  | some (some (.dat (.int n))) => E e fun b e1 => match b with
    | .dat (.int m) => P.nx (e1.set i (some (.dat (.int (g n m)))))
    | _ => False
  | _ => False
theorem ss_augI {i : Nat} {g : Int → Int → Int} (h : SE f te E) : SS f (tAug i te (ipI g)) (wAugI i g E) := ⟨fun {D P e σ Hz H} w y o => by
  unfold wAugI at w
  split at w
  · rename_i n q
    obtain ⟨v, e1, e2⟩ := y.get q
    cases e2
    refine ⟨_, e1, h.run w y fun b e2 v Hz1 H1 h1 s1 y1 l1 => ?_⟩
    split at h1
    · cases l1
      exact ⟨_, _, rfl, rfl, o.nx h1 s1 (Sy.setD (L := []) (W := []) y1 (Dp.int _) (by rw [← y.ln]; exact (List.getElem?_eq_some_iff.mp e1).1))⟩
    · exact h1.elim
  · exact w.elim⟩
/-- while -/
def wWhile (T : WT) (S : WS) (P : Po) (e : En) : Prop := ∃ Inv : Nat → En → Prop, (∃ m, Inv m e) ∧ ∀ m e, Inv m e → T e fun b e1 =>
  if b = true then S { P with nx := fun e' => ∃ m', m' < m ∧ Inv m' e', ct := fun e' => ∃ m', m' < m ∧ Inv m' e', bk := P.nx } e1 else P.nx e1
theorem ss_while (ht : ST f tt T) (h : SS f t S) : SS f (tWhile tt t) (wWhile T S) := ⟨fun {D P e σ Hz H} w y o => by
  obtain ⟨Inv, ⟨m0, i0⟩, turn⟩ := w
  refine ⟨fun m σ H => ∃ e Hz', Inv m e ∧ Same Hz Hz' ∧ Sy f [] [] e σ Hz' H, ⟨m0, e, Hz, i0, same_refl, y⟩, ?_⟩
  rintro m σ H ⟨e, Hz', im, s0, y⟩
  refine ht.run (turn m e im) y fun b e1 Hz1 H1 w1 s1 y1 => ?_
  by_cases c : b = true
  · rw [if_pos c] at w1 ⊢
    have o1 := o.mono (same_trans s0 s1)
    refine ⟨fun σ' H' => ∃ m' e' Hz2, m' < m ∧ Inv m' e' ∧ Same Hz Hz2 ∧ Sy f [] [] e' σ' Hz2 H', fun σ' H' ⟨m', e', Hz', h1, h2, h3, h4⟩ => ⟨m', h1, e', Hz', h2, h3, h4⟩, ?_⟩
    exact h.run w1 y1 ⟨fun ⟨m', h1, h2⟩ s2 y2 => ⟨m', _, _, h1, h2, same_trans s0 (same_trans s1 s2), y2⟩, o1.rt, o1.nx, fun ⟨m', h1, h2⟩ s2 y2 => ⟨m', _, _, h1, h2, same_trans s0 (same_trans s1 s2), y2⟩⟩
  · rw [if_neg c] at w1 ⊢
    exact o.nx w1 (same_trans s0 s1) y1⟩
end
/-! ### what is walked -/
structure Walk (K : PySem.W.Frag) (J : It) (Hz : Hp) (its : List PyData) : Prop where
  stop : ∀ H, Same Hz H → J.stop its.length H
  go : ∀ i H, i < its.length → Same Hz H → J.go i H
  yld : ∀ i H x H' d, Same Hz H → J.yld i H x H' → its[i]? = some d → (H' = H ∧ Dp K Hz x d) ∨ ∃ T xs ds, x = .ref T ∧ H T = none ∧ H' = upd H T (.tup xs) ∧ d = .tuple ds ∧ DpAll K Hz xs ds
abbrev WI := En → (List PyData → En → Prop) → Prop
structure SI (f : Fr) (wi : TI) (G : WI) : Prop where
  run : ∀ {L W e σ Hz H Post R}, G e Post → Sy f L W e σ Hz H → (∀ J its e' Hz' H', Post its e' → Same Hz Hz' → Sy f L W e' σ Hz' H' → Walk f.K J Hz' its → R J H') → wi σ H R
section
variable {f : Fr} {K : PySem.W.Frag} {Hz : Hp}
theorem walk_list {a : Addr} {xs : List V} {ds : List PyData} (h : SqL K Hz a xs) (hd : DpAll K Hz xs ds) : Walk K (Itl K a) Hz ds where
  stop := fun H s => ⟨xs, sqL s h, by rw [dps_len hd]; exact Nat.le_refl _⟩
  go := fun i H hi s => by
    have : i < xs.length := by rw [dps_len hd]; exact hi
    exact ⟨xs, xs[i], sqL s h, List.getElem?_eq_getElem this⟩
  yld := fun i H x H' d s y e => by
    obtain ⟨rfl, hy⟩ := y
    obtain ⟨x', e1, e2⟩ := dps_get hd i d e
    have := hy xs (sqL s h)
    rw [e1] at this
    cases this
    exact .inl ⟨rfl, e2⟩
theorem walk_tup {a : Addr} {xs : List V} {ds : List PyData} (h : SqT K Hz a xs) (hd : DpAll K Hz xs ds) : Walk K (Itt K a) Hz ds where
  stop := fun H s => ⟨xs, sqT s h, by rw [dps_len hd]; exact Nat.le_refl _⟩
  go := fun i H hi s => by
    have : i < xs.length := by rw [dps_len hd]; exact hi
    exact ⟨xs, xs[i], sqT s h, List.getElem?_eq_getElem this⟩
  yld := fun i H x H' d s y e => by
    obtain ⟨rfl, hy⟩ := y
    obtain ⟨x', e1, e2⟩ := dps_get hd i d e
    have := hy xs (sqT s h)
    rw [e1] at this
    cases this
    exact .inl ⟨rfl, e2⟩
def rangeD (lo : Int) (n : Nat) : List PyData := (List.range n).map fun i : Nat => PyData.int (lo + i)
theorem walk_rng {lo : Int} {n : Nat} : Walk K (Itr lo n) Hz (rangeD lo n) where
  stop := fun H s => by show n ≤ (rangeD lo n).length; simp [rangeD]
  go := fun i H hi s => by show i < n; simpa [rangeD] using hi
  yld := fun i H x H' d s y e => by
    obtain ⟨rfl, rfl⟩ := y
    have hi : i < n := by have := (List.getElem?_eq_some_iff.mp e).1; simpa [rangeD] using this
    unfold rangeD at e
    rw [List.getElem?_map, List.getElem?_range hi] at e
    cases e
    exact .inl ⟨rfl, .int _⟩
def enumD (ds : List PyData) : List PyData := (List.range ds.length).map fun i : Nat => PyData.tuple [.int i, (ds[i]?).getD .none]
theorem enumD_len (ds : List PyData) : (enumD ds).length = ds.length := by simp [enumD]
theorem enumD_get {ds : List PyData} {i : Nat} {d : PyData} (h : (enumD ds)[i]? = some d) : ∃ x, ds[i]? = some x ∧ d = .tuple [.int i, x] := by
  have hi : i < ds.length := by have := (List.getElem?_eq_some_iff.mp h).1; rwa [enumD_len] at this
  unfold enumD at h
  rw [List.getElem?_map, List.getElem?_range hi] at h
  cases h
  exact ⟨ds[i], List.getElem?_eq_getElem hi, by dsimp only; rw [List.getElem?_eq_getElem hi]; rfl⟩
theorem walk_enumT {a : Addr} {xs : List V} {ds : List PyData} (h : SqT K Hz a xs) (hd : DpAll K Hz xs ds) : Walk K (IteT K a) Hz (enumD ds) where
  stop := fun H s => ⟨xs, sqT s h, by rw [dps_len hd, enumD_len]⟩
  go := fun i H hi s => by
    have : i < xs.length := by rw [dps_len hd]; rwa [enumD_len] at hi
    exact ⟨xs, xs[i], sqT s h, List.getElem?_eq_getElem this⟩
  yld := fun i H x H' d s y e => by
    obtain ⟨T, x', rfl, h1, rfl, hy⟩ := y
    obtain ⟨dx, e1, rfl⟩ := enumD_get e
    obtain ⟨x2, e2, e3⟩ := dps_get hd i dx e1
    have := hy xs (sqT s h)
    rw [e2] at this
    cases this
    exact .inr ⟨T, _, _, rfl, h1, rfl, rfl, .cons (.int _) (.cons e3 .nil)⟩
theorem walk_enum {a : Addr} {xs : List V} {ds : List PyData} (h : SqL K Hz a xs) (hd : DpAll K Hz xs ds) : Walk K (Ite K a) Hz (enumD ds) where
  stop := fun H s => ⟨xs, sqL s h, by rw [dps_len hd, enumD_len]; exact Nat.le_refl _⟩
  go := fun i H hi s => by
    have : i < xs.length := by rw [dps_len hd]; rwa [enumD_len] at hi
    exact ⟨xs, xs[i], sqL s h, List.getElem?_eq_getElem this⟩
  yld := fun i H x H' d s y e => by
    obtain ⟨T, x', rfl, h1, rfl, hy⟩ := y
    obtain ⟨dx, e1, rfl⟩ := enumD_get e
    obtain ⟨x2, e2, e3⟩ := dps_get hd i dx e1
    have := hy xs (sqL s h)
    rw [e2] at this
    cases this
    exact .inr ⟨T, _, _, rfl, h1, rfl, rfl, .cons (.int _) (.cons e3 .nil)⟩
def zipD (ds es : List PyData) : List PyData := List.zipWith (fun a b => PyData.tuple [a, b]) ds es
theorem zipD_len (ds es : List PyData) : (zipD ds es).length = min ds.length es.length := by simp [zipD]
theorem zipD_get {ds es : List PyData} {i : Nat} {d : PyData} (h : (zipD ds es)[i]? = some d) : ∃ x y, ds[i]? = some x ∧ es[i]? = some y ∧ d = .tuple [x, y] := by
  unfold zipD at h
  rw [List.getElem?_zipWith] at h
  cases c1 : ds[i]? with
  | none => rw [c1] at h; cases h
  | some x =>
    cases c2 : es[i]? with
    | none => rw [c1, c2] at h; cases h
    | some y =>
      rw [c1, c2] at h
      cases h
      exact ⟨x, y, rfl, rfl, rfl⟩
theorem walk_zipT {a b : Addr} {xs ys : List V} {ds es : List PyData} (h : SqT K Hz a xs) (hd : DpAll K Hz xs ds) (g : SqT K Hz b ys) (gd : DpAll K Hz ys es) : Walk K (RZ.ItzT K a b) Hz (zipD ds es) where
  stop := fun H s => ⟨xs, ys, sqT s h, sqT s g, by rw [dps_len hd, dps_len gd, zipD_len]; omega⟩
  go := fun i H hi s => by
    rw [zipD_len] at hi
    have h1 : i < xs.length := by rw [dps_len hd]; omega
    have h2 : i < ys.length := by rw [dps_len gd]; omega
    exact ⟨xs, ys, xs[i], ys[i], sqT s h, sqT s g, List.getElem?_eq_getElem h1, List.getElem?_eq_getElem h2⟩
  yld := fun i H x H' d s y e => by
    obtain ⟨T, x', y', rfl, h1, rfl, hx, hy⟩ := y
    obtain ⟨dx, dy, e1, e2, rfl⟩ := zipD_get e
    obtain ⟨x2, q1, q2⟩ := dps_get hd i dx e1
    obtain ⟨y2, q3, q4⟩ := dps_get gd i dy e2
    have hx := hx xs (sqT s h)
    have hy := hy ys (sqT s g)
    rw [q1] at hx
    rw [q3] at hy
    cases hx
    cases hy
    exact .inr ⟨T, _, _, rfl, h1, rfl, rfl, .cons q2 (.cons q4 .nil)⟩
theorem walk_zip {a b : Addr} {xs ys : List V} {ds es : List PyData} (h : SqL K Hz a xs) (hd : DpAll K Hz xs ds) (g : SqL K Hz b ys) (gd : DpAll K Hz ys es) : Walk K (Itz K a b) Hz (zipD ds es) where
  stop := fun H s => ⟨xs, ys, sqL s h, sqL s g, by rw [dps_len hd, dps_len gd, zipD_len]; omega⟩
  go := fun i H hi s => by
    rw [zipD_len] at hi
    have h1 : i < xs.length := by rw [dps_len hd]; omega
    have h2 : i < ys.length := by rw [dps_len gd]; omega
    exact ⟨xs, ys, xs[i], ys[i], sqL s h, sqL s g, List.getElem?_eq_getElem h1, List.getElem?_eq_getElem h2⟩
  yld := fun i H x H' d s y e => by
    obtain ⟨T, x', y', rfl, h1, rfl, hx, hy⟩ := y
    obtain ⟨dx, dy, e1, e2, rfl⟩ := zipD_get e
    obtain ⟨x2, q1, q2⟩ := dps_get hd i dx e1
    obtain ⟨y2, q3, q4⟩ := dps_get gd i dy e2
    have hx := hx xs (sqL s h)
    have hy := hy ys (sqL s g)
    rw [q1] at hx
    rw [q3] at hy
    cases hx
    cases hy
    exact .inr ⟨T, _, _, rfl, h1, rfl, rfl, .cons q2 (.cons q4 .nil)⟩
end
section
variable {f : Fr} {te tu : TE} {E U : WE}
def wIList (E : WE) (e : En) (P : List PyData → En → Prop) : Prop := wFz E e fun d e1 => match d with
  | .list ds => P ds e1
  | _ => False
theorem si_list (h : SE f te E) : SI f (iList f.K te) (wIList E) := ⟨fun {L W e σ Hz H Post R} w y k => fz_run h w y fun d e1 v Hz1 H1 h1 s1 y1 d1 => by
  split at h1
  · cases d1 with
    | lst q1 q2 => exact ⟨_, rfl, ⟨_, sqL y1.sm q1⟩, k _ _ _ _ _ h1 s1 y1 (walk_list q1 q2)⟩
  · exact h1.elim⟩
def wITup (E : WE) (e : En) (P : List PyData → En → Prop) : Prop := wFz E e fun d e1 => match d with
  | .tuple ds => P ds e1
  | _ => False
theorem si_tup (h : SE f te E) : SI f (iTup f.K te) (wITup E) := ⟨fun {L W e σ Hz H Post R} w y k => fz_run h w y fun d e1 v Hz1 H1 h1 s1 y1 d1 => by
  split at h1
  · obtain ⟨a, xs, rfl, q1, q2⟩ := dp_tup d1
    exact ⟨_, rfl, ⟨_, sqT y1.sm q1⟩, k _ _ _ _ _ h1 s1 y1 (walk_tup q1 q2)⟩
  · exact h1.elim⟩
def wIRng1 (E : WE) (e : En) (P : List PyData → En → Prop) : Prop := wFz E e fun d e1 => match d with
  | .int n => (-(2 ^ 62) ≤ n ∧ n < 2 ^ 62) ∧ P (rangeD 0 n.toNat) e1
  | _ => False
theorem si_rng1 (h : SE f te E) : SI f (iRng1 (tCons te tNil)) (wIRng1 E) := ⟨fun {L W e σ Hz H Post R} w y k => fz_run h w y fun d e1 v Hz1 H1 h1 s1 y1 d1 => by
  split at h1
  · cases d1
    exact ⟨_, rfl, h1.1.1, h1.1.2, k _ _ _ _ _ h1.2 s1 y1 walk_rng⟩
  · exact h1.elim⟩
def wIRng2 (E U : WE) (e : En) (P : List PyData → En → Prop) : Prop := wFz E e fun d e1 => wFz U e1 fun d' e2 => match d, d' with
  | .int n, .int m => (-(2 ^ 62) ≤ n ∧ n < 2 ^ 62 ∧ -(2 ^ 62) ≤ m ∧ m < 2 ^ 62) ∧ P (rangeD n (m - n).toNat) e2
  | _, _ => False
theorem si_rng2 (h : SE f te E) (h' : SE f tu U) : SI f (iRng2 (tCons te (tCons tu tNil))) (wIRng2 E U) := ⟨fun {L W e σ Hz H Post R} w y k => fz_run h w y fun d e1 v Hz1 H1 h1 s1 y1 d1 => fz_run h' h1 y1 fun d' e2 v2 Hz2 H2 h2 s2 y2 d2 => by
  split at h2
  · cases d1
    cases d2
    exact ⟨_, _, rfl, h2.1, k _ _ _ _ _ h2.2 (same_trans s1 s2) y2 walk_rng⟩
  · exact h2.elim⟩
def wIEnumT (E : WE) (e : En) (P : List PyData → En → Prop) : Prop := wFz E e fun d e1 => match d with
  | .tuple ds => P (enumD ds) e1
  | _ => False
def wIEnum (E : WE) (e : En) (P : List PyData → En → Prop) : Prop := wFz E e fun d e1 => match d with
  | .list ds => P (enumD ds) e1
  | _ => False
theorem si_enumT (h : SE f te E) : SI f (iEnumT f.K (tCons te tNil)) (wIEnumT E) := ⟨fun {L W e σ Hz H Post R} w y k => fz_run h w y fun d e1 v Hz1 H1 h1 s1 y1 d1 => by
  split at h1
  · obtain ⟨a, xs, rfl, q1, q2⟩ := dp_tup d1
    exact ⟨_, xs, rfl, sqT y1.sm q1, k _ _ _ _ _ h1 s1 y1 (walk_enumT q1 q2)⟩
  · exact h1.elim⟩
theorem si_enum (h : SE f te E) : SI f (iEnum f.K (tCons te tNil)) (wIEnum E) := ⟨fun {L W e σ Hz H Post R} w y k => fz_run h w y fun d e1 v Hz1 H1 h1 s1 y1 d1 => by
  split at h1
  · cases d1 with
    | lst q1 q2 => exact ⟨_, _, rfl, sqL y1.sm q1, k _ _ _ _ _ h1 s1 y1 (walk_enum q1 q2)⟩
  · exact h1.elim⟩
def wIZip (E U : WE) (e : En) (P : List PyData → En → Prop) : Prop := wFz E e fun d e1 => wFz U e1 fun d' e2 => match d, d' with
  | .tuple ds, .tuple es => P (zipD ds es) e2
  | .list ds, .list es => P (zipD ds es) e2
  | _, _ => False
theorem si_zip (h : SE f te E) (h' : SE f tu U) : SI f (RZ.iZipA f.K (tCons te (tCons tu tNil))) (wIZip E U) := ⟨fun {L W e σ Hz H Post R} w y k => fz_run h w y fun d e1 v Hz1 H1 h1 s1 y1 d1 => fz_run h' h1 y1 fun d' e2 v2 Hz2 H2 h2 s2 y2 d2 => by
  split at h2
  · obtain ⟨a, xs, rfl, q1, q2⟩ := dp_tup (dp_mono s2 _ _ d1)
    obtain ⟨b, ys, rfl, q3, q4⟩ := dp_tup d2
    exact ⟨a, b, xs, ys, rfl, .inr ⟨sqT y2.sm q1, sqT y2.sm q3, k _ _ _ _ _ h2 (same_trans s1 s2) y2 (walk_zipT q1 q2 q3 q4)⟩⟩
  · cases dp_mono s2 _ _ d1 with
    | lst q1 q2 =>
      cases d2 with
      | lst q3 q4 => exact ⟨_, _, _, _, rfl, .inl ⟨sqL y2.sm q1, sqL y2.sm q3, k _ _ _ _ _ h2 (same_trans s1 s2) y2 (walk_zip q1 q2 q3 q4)⟩⟩
  · exact h2.elim⟩
end
/-! ### for -/
section
variable {f : Fr} {t : TS} {S : WS} {wi : TI} {G : WI} {g : TG} {Gt : WG} {sl : List Nat}
/-- an item is stored -/
theorem step_item {L W e σ Hz Hz0 H H' x d J its i Post Q} (hw : Walk f.K J Hz0 its) (hs : Same Hz0 Hz) (y : Sy f L W e σ Hz H) (hy : J.yld i H x H') (hd : its[i]? = some d) (hg : SG f g Gt sl) (w : Gt (.dat d) e Post)
    (k : ∀ e' σ' Hz' H', Post e' → Same Hz Hz' → Sy f L W e' σ' Hz' H' → (∀ vs, (∀ i ∈ sl, i ∈ vs) → wipe σ' vs = wipe σ vs) → Q σ' H') : g x σ H' Q := by
  rcases hw.yld i H x H' d (same_trans hs y.sm) hy hd with ⟨rfl, h1⟩ | ⟨T, xs, ds, rfl, h1, rfl, rfl, h2⟩
  · exact SG.run (L := L) (W := W) hg w y (dp_mono hs _ _ h1) k
  · have s1 := same_new (y.hz h1) (.tup xs)
    exact SG.run (L := L) (W := W) hg w (y.newT h1) (Dp.tup (SqT.of upd_same) (dps_mono (same_trans hs s1) _ _ h2)) fun e' σ' Hz' H' a b c d => k e' σ' Hz' H' a (same_trans s1 b) c d
/-- a loop's turns -/
def ForB (Gt : WG) (S : WS) (P : Po) (its : List PyData) (e1 : En) : Prop := ∃ Inv : Nat → En → Prop, Inv 0 e1 ∧
  (∀ i d e2, its[i]? = some d → Inv i e2 → Gt (.dat d) e2 fun e3 => S { P with nx := Inv (i + 1), ct := Inv (i + 1), bk := P.nx } e3) ∧ ∀ e2, Inv its.length e2 → P.nx e2
def wFor (G : WI) (Gt : WG) (S : WS) (P : Po) (e : En) : Prop := G e (ForB Gt S P)
theorem for_use {G : WI} {Gt : WG} {S : WS} {P : Po} {e : En} (h : G e (ForB Gt S P)) : wFor G Gt S P e := h
theorem ss_for (hi : SI f wi G) (hg : SG f g Gt sl) (h : SS f t S) : SS f (tFor wi g t) (wFor G Gt S) := ⟨fun {D P e σ Hz H} w y o => hi.run w y fun J its e1 Hz1 H1 w1 s1 y1 hw => by
  obtain ⟨Inv, i0, step, fin⟩ := w1
  refine ⟨fun i m σ H => m = its.length - i ∧ i ≤ its.length ∧ ∃ e Hz, Inv i e ∧ Same Hz1 Hz ∧ Sy f [] [] e σ Hz H, ⟨its.length, rfl, Nat.zero_le _, e1, Hz1, i0, same_refl, y1⟩, ?_⟩
  rintro i m σ H ⟨rfl, hi', e2, Hz2, i2, s2, y2⟩
  by_cases hlt : i < its.length
  · refine .inr ⟨hw.go i H hlt (same_trans s2 y2.sm), fun σ' H' => ∃ e Hz, Inv (i + 1) e ∧ Same Hz2 Hz ∧ Sy f [] [] e σ' Hz H', fun σ' H' ⟨e, Hz, a, b, c⟩ => ⟨its.length - (i + 1), by omega, rfl, hlt, e, Hz, a, same_trans s2 b, c⟩, fun x H' hy => ?_⟩
    refine step_item hw s2 y2 hy (List.getElem?_eq_getElem hlt) hg (step i _ e2 (List.getElem?_eq_getElem hlt) i2) fun e3 σ3 Hz3 H3 w3 s3 y3 _ => ?_
    have o1 := o.mono (same_trans s1 (same_trans s2 s3))
    exact h.run w3 y3 ⟨fun a b c => ⟨_, _, a, same_trans s3 b, c⟩, o1.rt, o1.nx, fun a b c => ⟨_, _, a, same_trans s3 b, c⟩⟩
  · have : i = its.length := by omega
    subst this
    exact .inl ⟨hw.stop H (same_trans s2 y2.sm), o.nx (fin e2 i2) (same_trans s1 s2) y2⟩⟩
end
/-! ### comprehensions -/
section
variable {f : Fr} {te : TE} {E : WE} {tt : TT} {T : WT} {wi : TI} {G : WI} {g : TG} {Gt : WG} {sl : List Nat}
/-- a comprehension's turns -/
def LcB (Gt : WG) (T : WT) (E : WE) (vs : List Nat) (P : Vl → En → Prop) (its : List PyData) (e1 : En) : Prop := ∃ Inv : Nat → List PyData → En → Prop, Inv 0 [] (wipeE e1 vs) ∧
  (∀ i d acc e2, its[i]? = some d → Inv i acc e2 → acc.length ≤ 100000 ∧ Gt (.dat d) e2 fun e3 => T e3 fun b e4 => if b = true then wFz E e4 fun y e5 => Inv (i + 1) (acc ++ [y]) (wipeE e5 vs) else Inv (i + 1) acc (wipeE e4 vs)) ∧
  ∀ acc e2, Inv its.length acc e2 → e2.length = e1.length ∧ P (.ob (.lst acc)) (back e1 vs (wipeE e2 vs))
def wLc (G : WI) (Gt : WG) (T : WT) (E : WE) (vs : List Nat) (e : En) (P : Vl → En → Prop) : Prop := G e (LcB Gt T E vs P)
theorem lc_use {G : WI} {Gt : WG} {T : WT} {E : WE} {vs : List Nat} {e : En} {P : Vl → En → Prop} (h : G e (LcB Gt T E vs P)) : wLc G Gt T E vs e P := h
theorem line_lt {n : Nat} (h : n ≤ 100000) : n < sizeLine := Nat.lt_of_le_of_lt h (by decide)
theorem se_lc {vs : List Nat} (hi : SI f wi G) (hg : SG f g Gt sl) (ht : ST f tt T) (he : SE f te E) (hv : ∀ i ∈ sl, i ∈ vs) (hn : vs.all (fun v => Nat.blt v f.n) = true := by rfl) : SE f (tLc wi g tt te vs) (wLc G Gt T E vs) := ⟨fun {L W e σ Hz H Post Q} w y k => hi.run w y fun J its e1 Hz1 H1 w1 s1 y1 hw D hD => by
  have hb : ∀ v ∈ vs, v < f.n := fun v h => Nat.le_of_ble_eq_true (List.all_eq_true.mp hn v h)
  obtain ⟨Inv, i0, step, fin⟩ := w1
  have ys : Sy f (some (.ob none (.lst [])) :: L) (some (.ref D) :: W) (wipeE e1 vs) (wipe σ vs) Hz1 (upd H1 D (.lst [])) := (y1.newO (o := .lst []) hD ⟨[], upd_same, .nil⟩).wiped vs hb
  refine ⟨fun i m H => m = its.length - i ∧ i ≤ its.length ∧ ∃ acc e Hz, Inv i acc e ∧ Same Hz1 Hz ∧ Sy f (some (.ob none (.lst acc)) :: L) (some (.ref D) :: W) e (wipe σ vs) Hz H,
    ⟨its.length, rfl, Nat.zero_le _, [], _, Hz1, i0, same_refl, ys⟩, ?_⟩
  rintro i m H ⟨rfl, hi', acc, e2, Hz2, i2, s2, y2⟩
  by_cases hlt : i < its.length
  · refine .inr ⟨hw.go i H hlt (same_trans s2 y2.sm), fun H' => ∃ acc e Hz, Inv (i + 1) acc e ∧ Same Hz1 Hz ∧ Sy f (some (.ob none (.lst acc)) :: L) (some (.ref D) :: W) e (wipe σ vs) Hz H',
      fun H' ⟨acc, e, Hz, a, b, c⟩ => ⟨its.length - (i + 1), by omega, rfl, hlt, acc, e, Hz, a, b, c⟩, fun x H' hy => ?_⟩
    obtain ⟨hl, st⟩ := step i _ acc e2 (List.getElem?_eq_getElem hlt) i2
    refine step_item hw s2 y2 hy (List.getElem?_eq_getElem hlt) hg st fun e3 σ3 Hz3 H3 w3 s3 y3 c3 => ?_
    have cw : wipe σ3 vs = wipe σ vs := by rw [c3 vs hv, wipe_wipe]
    refine ⟨cw, ht.run w3 y3 fun b e4 Hz4 H4 w4 s4 y4 => ?_⟩
    by_cases c : b = true
    · rw [if_pos c] at w4 ⊢
      refine fz_run he w4 y4 fun d e5 v Hz5 H5 w5 s5 y5 d5 => ?_
      obtain ⟨a, ea, ⟨xs, hx, hd⟩, _⟩ := y5.top
      cases ea
      refine ⟨xs, hx, line_lt (by rw [dps_len hd]; exact hl), acc ++ [d], wipeE e5 vs, Hz5, w5, same_trans s2 (same_trans s3 (same_trans s4 s5)), ?_⟩
      have y6 := (y5.wrT (u := .lst (xs ++ [v])) (o' := .lst (acc ++ [d])) ⟨_, upd_same, dps_snoc hd d5⟩).wiped vs hb
      rw [cw] at y6
      exact y6
    · rw [if_neg c] at w4 ⊢
      have y6 := y4.wiped vs hb
      rw [cw] at y6
      exact ⟨acc, wipeE e4 vs, Hz4, w4, same_trans s2 (same_trans s3 s4), y6⟩
  · have : i = its.length := by omega
    subst this
    obtain ⟨hl, hf⟩ := fin acc e2 i2
    refine .inl ⟨hw.stop H (same_trans s2 y2.sm), k _ _ _ _ _ hf (same_trans s1 s2) (Sy.back y1 s2 (y2.unwipe hb) (by rw [wipeE_len, hl]) vs) trivial⟩⟩
end
end DL


set_option Elab.async false
set_option linter.all false
set_option maxRecDepth 100000
set_option maxHeartbeats 4000000
/-! Sums of lists, methods of lists, slices, calls, defs over the layer of values. -/
namespace DL
open PySem L2 TG
theorem units1 {k : Nat} {A : Around} (r : Room k A) : A.units + 1 < cLine := by have := r.un; omega
def rCatQ (K : PySem.W.Frag) : R2 := fun x y H Q => ∃ l b xs zs, x = .ref l ∧ y = .ref b ∧ SqL K H l xs ∧ SqL K H b zs ∧ xs.length + zs.length ≤ sizeLine ∧ ∀ p, H p = none → Q (.ref p) (upd H p (.lst (xs ++ zs)))
theorem op_catQ {X : Cx} {K : PySem.W.Frag} (hK : X.K = K) : OpR X (binaryOp .Add) (rCatQ K) := by
  subst hK
  intro pins s σ H x y v u Q I rx ry h
  obtain ⟨l, b, xs, zs, rfl, rfl, hH, hB, hz, q⟩ := h
  cases rx
  cases ry
  obtain ⟨vs, r, ⟨⟨cls, dd, data, sl⟩, n, ho, hc, _, hd⟩, _⟩ := I.list hH
  obtain ⟨ws, r2, ⟨⟨cls2, dd2, data2, sl2⟩, n2, ho2, hc2, _, hd2⟩, _⟩ := I.list hB
  simp only at hc hd hc2 hd2
  subst hc hd hc2 hd2
  have e : vs.toArray ++ ws.toArray = (vs ++ ws).toArray := by simp
  have h1 := r.length
  have h2 := r2.length
  refine PySem.concat_meets ⟨_, ho, rfl⟩ ⟨_, ho2, rfl⟩ PySem.noFill_list_add PySem.seq_list_add PySem.F.slot_list_add PySem.F.entry_list_add (PySem.F.args_list_add_2 _ _) (PyProof.Rows.list_addW l b vs.toArray ws.toArray n n2 dd dd2 sl sl2 (by simp only [List.size_toArray]; omega)) ⟨ho, ho2, ?_⟩
  rw [e]
  exact ⟨.ref _, _, I.lnew (t' := s.toks) (r.append r2) (by rw [List.length_append]; exact hz), rfl, q _ I.fresh⟩
section
variable {f : Fr} {te tu : TE} {E U : WE}
theorem sr_cat : SR f (rCatQ f.K) gCat := ⟨fun {L W e σ Hz H x y d1 d2 Post Q} r1 r2 s h k => by
  unfold gCat at h
  split at h
  · obtain ⟨a, xs, rfl, q1, q2⟩ := r1
    obtain ⟨b, ys, rfl, q3, q4⟩ := r2
    exact ⟨a, b, xs, ys, rfl, rfl, q1, q3, by rw [dps_len q2, dps_len q4]; exact h.1, fun p hp => k _ _ _ _ h.2 same_refl (s.newO (o := .lst _) hp ⟨_, upd_same, dps_app q2 q4⟩) trivial⟩
  · exact h.elim⟩
/-! ### methods of the list of a slot -/
theorem var_at {L e : En} {W σ : St} {Hz H : Hp} {i : Nat} {t : Option Nat} {o : Ob} (y : Sy f L W e σ Hz H) (q : e[i]? = some (some (.ob t o))) : ∃ a, σ[i]? = some (some (.ref a)) := by
  obtain ⟨a, h, _⟩ := y.ob q
  exact ⟨a, h⟩
def wApp (i : Nat) (E : WE) (e : En) (P : Vl → En → Prop) : Prop := match e[i]? with
  | some (some (.ob _ (.lst _))) => wFz E e fun d e1 => match e1[i]? with
    | some (some (.ob t (.lst ds))) => ds.length ≤ 100000 ∧ P (.dat .none) (e1.set i (some (.ob t (.lst (ds ++ [d])))))
    | _ => False
  | _ => False
theorem se_app {i : Nat} (h : SE f te E) : SE f (tBM f.K "list" rAppend (tVar i) (tCons te tNil)) (wApp i E) := ⟨fun {L W e σ Hz H Post Q} w y k => by
  unfold wApp at w
  split at w
  · rename_i t ds q
    obtain ⟨a, h1, ⟨xs, h2, h3⟩, h4⟩ := y.ob q
    refine ⟨_, h1, .inl ⟨rfl, xs, SqL.of h2⟩, ?_⟩
    refine fz_run h w y fun d e1 v Hz1 H1 w1 s1 y1 d1 => ?_
    split at w1
    · rename_i t2 ds2 q2
      obtain ⟨a2, g1, ⟨xs2, g2, g3⟩, g4⟩ := y1.ob q2
      rw [h1] at g1
      cases g1
      exact ⟨a, xs2, v, rfl, rfl, g2, line_lt (by rw [dps_len g3]; exact w1.1), k _ _ _ _ _ w1.2 s1 (y1.wr q2 h1 ⟨_, upd_same, dps_snoc g3 d1⟩) Dp.non⟩
    · exact w1.elim
  · exact w.elim⟩
/-- a tracked list -/
def trk : Vl → En → Option (List PyData)
  | .ob (.lst ds), _ => some ds
  | .own i, e => match e[i]? with
    | some (some (.ob _ (.lst ds))) => some ds
    | _ => none
  | _, _ => none
theorem Sy.trk {L e : En} {W σ : St} {Hz H : Hp} {b : Vl} {v : V} {ds : List PyData} (y : Sy f (tmp b L) (tmv b v W) e σ Hz H) (hv : Val f b v σ Hz) (h : trk b e = some ds) : ∃ a xs, v = .ref a ∧ H a = some (.lst xs) ∧ DpAll f.K Hz xs ds := by
  cases b with
  | dat d' => cases h
  | ob o =>
    cases o with
    | lst ds =>
      cases h
      obtain ⟨a, ea, ⟨xs, h1, h2⟩, _⟩ := Sy.top y
      cases ea
      exact ⟨a, xs, rfl, h1, h2⟩
    | _ => cases h
  | own i =>
    simp only [DL.trk] at h
    split at h
    · rename_i t ds q
      cases h
      obtain ⟨a, e1, ⟨xs, h1, h2⟩, _⟩ := y.ob q
      have hv' : σ[i]? = some (some v) := hv
      rw [hv'] at e1
      cases e1
      exact ⟨a, xs, rfl, h1, h2⟩
    · cases h
  | gob n a => cases h
def wExt (i : Nat) (E : WE) (e : En) (P : Vl → En → Prop) : Prop := match e[i]? with
  | some (some (.ob _ (.lst _))) => E e fun b e1 => ob1 (trk b e1) fun es => match e1[i]? with
    | some (some (.ob t (.lst ds))) => ds.length + es.length ≤ 100000 ∧ P (.dat .none) (e1.set i (some (.ob t (.lst (ds ++ es)))))
    | _ => False
  | _ => False
theorem se_ext {i : Nat} (h : SE f te E) : SE f (tBM f.K "list" rExtend (tVar i) (tCons te tNil)) (wExt i E) := ⟨fun {L W e σ Hz H Post Q} w y k => by
  unfold wExt at w
  split at w
  · rename_i t ds q
    obtain ⟨a, h1, ⟨xs, h2, h3⟩, h4⟩ := y.ob q
    refine ⟨_, h1, .inl ⟨rfl, xs, SqL.of h2⟩, ?_⟩
    refine h.run w y fun b e1 v Hz1 H1 w1 s1 y1 l1 => ?_
    obtain ⟨es, c, w1⟩ := ob1_ex w1
    obtain ⟨b', zs, rfl, c1, c2⟩ := y1.trk l1 c
    split at w1
    · rename_i t2 ds2 q2
      obtain ⟨a2, g1, ⟨xs2, g2, g3⟩, g4⟩ := y1.ob q2
      rw [h1] at g1
      cases g1
      exact ⟨a, b', xs2, zs, rfl, rfl, g2, c1, Evl.sz_of (by rw [dps_len g3, dps_len c2]; exact w1.1), k _ _ _ _ _ w1.2 s1 (y1.un.wr q2 h1 ⟨_, upd_same, dps_app g3 c2⟩) Dp.non⟩
    · exact w1.elim
  · exact w.elim⟩
def wPop (i : Nat) (e : En) (P : Vl → En → Prop) : Prop := match e[i]? with
  | some (some (.ob t (.lst ds))) => ob1 (ds[ds.length - 1]?) fun d => P (.dat d) (e.set i (some (.ob t (.lst ds.dropLast))))
  | _ => False
theorem dps_dropLast {K : PySem.W.Frag} {Hz : Hp} {xs : List V} {ds : List PyData} (h : DpAll K Hz xs ds) : DpAll K Hz xs.dropLast ds.dropLast := by
  rw [List.dropLast_eq_take, List.dropLast_eq_take, dps_len h]
  exact dps_take _ h
theorem se_pop {i : Nat} : SE f (tBM0 f.K "list" rPop (tVar i)) (wPop i) := ⟨fun {L W e σ Hz H Post Q} w y k => by
  unfold wPop at w
  split at w
  · rename_i t ds q
    obtain ⟨d, c, w⟩ := ob1_ex w
    obtain ⟨a, h1, ⟨xs, h2, h3⟩, h4⟩ := y.ob q
    obtain ⟨x, g1, g2⟩ := dps_get h3 _ _ c
    exact ⟨_, h1, .inl ⟨rfl, xs, SqL.of h2⟩, a, xs, x, rfl, rfl, h2, by rw [dps_len h3]; exact g1, k _ _ _ _ _ w same_refl (y.wr q h1 ⟨_, upd_same, dps_dropLast h3⟩) g2⟩
  · exact w.elim⟩
/-! ### slices -/
def wNoPart (e : En) (P : Option Int → En → Prop) : Prop := P none e
def wPart (E : WE) (e : En) (P : Option Int → En → Prop) : Prop := wFz E e fun d e1 => match d with
  | .int i => P (some i) e1
  | _ => False
theorem so_none : SO f tNoPart wNoPart := ⟨fun w y k => k _ _ _ _ w same_refl y⟩
theorem so_some (h : SE f te E) : SO f (tPart te) (wPart E) := ⟨fun {L W e σ Hz H Post Q} w y k => fz_run h w y fun d e1 v Hz1 H1 w1 s1 y1 d1 => by
  split at w1
  · cases d1
    exact ⟨_, rfl, k _ _ _ _ w1 s1 y1⟩
  · exact w1.elim⟩
def cutD (xs : List PyData) (lo hi : Option Int) : List PyData := (xs.drop (HT.sIx xs.length 0 lo)).take (HT.sIx xs.length xs.length hi - HT.sIx xs.length 0 lo)
theorem dps_cut {K : PySem.W.Frag} {Hz : Hp} {xs : List V} {ds : List PyData} (lo hi : Option Int) (h : DpAll K Hz xs ds) : DpAll K Hz (cutV xs lo hi) (cutD ds lo hi) := by
  unfold cutV cutD
  rw [dps_len h]
  exact dps_take _ (dps_drop _ h)
def wSlT (E : WE) (A B : WO) (e : En) (P : Vl → En → Prop) : Prop := wFz E e fun d e1 => A e1 fun lo e2 => B e2 fun hi e3 => match d with
  | .tuple ds => P (.dat (.tuple (cutD ds lo hi))) e3
  | _ => False
theorem se_slT {tl th : TO} {A B : WO} (h : SE f te E) (hl : SO f tl A) (hh : SO f th B) : SE f (tSl (rSlA f.K) te tl th) (wSlT E A B) := ⟨fun {L W e σ Hz H Post Q} w y k =>
  fz_run h w y fun d e1 v Hz1 H1 w1 s1 y1 d1 => hl.run w1 y1 fun lo e2 Hz2 H2 w2 s2 y2 => hh.run w2 y2 fun hi e3 Hz3 H3 w3 s3 y3 => by
    split at w3
    · obtain ⟨a, xs, rfl, q1, q2⟩ := dp_tup (dp_mono (same_trans s2 s3) _ _ d1)
      have qc := dps_cut lo hi q2
      refine ⟨a, xs, rfl, sqT y3.sm q1, fun c => ?_, fun c p hp => ?_⟩
      · have e2 : cutV xs lo hi = xs := by
          unfold cutV
          rw [c.1, c.2]
          simp
        rw [e2] at qc
        exact k _ _ _ _ _ w3 (same_trans s1 (same_trans s2 s3)) y3 (Dp.tup q1 qc)
      · have s4 := same_new (y3.hz hp) (.tup (cutV xs lo hi))
        exact k _ _ _ _ _ w3 (same_trans s1 (same_trans s2 (same_trans s3 s4))) (y3.newT hp) (Dp.tup (SqT.of upd_same) (dps_mono s4 _ _ qc))
    · exact w3.elim⟩
def wSlL (E : WE) (A B : WO) (e : En) (P : Vl → En → Prop) : Prop := wFz E e fun d e1 => A e1 fun lo e2 => B e2 fun hi e3 => match d with
  | .list ds => P (.ob (.lst (cutD ds lo hi))) e3
  | _ => False
theorem se_slL {tl th : TO} {A B : WO} (h : SE f te E) (hl : SO f tl A) (hh : SO f th B) : SE f (tSl (rSlL f.K) te tl th) (wSlL E A B) := ⟨fun {L W e σ Hz H Post Q} w y k =>
  fz_run h w y fun d e1 v Hz1 H1 w1 s1 y1 d1 => hl.run w1 y1 fun lo e2 Hz2 H2 w2 s2 y2 => hh.run w2 y2 fun hi e3 Hz3 H3 w3 s3 y3 => by
    split at w3
    · cases dp_mono (same_trans s2 s3) _ _ d1 with
      | lst q1 q2 => exact ⟨_, _, rfl, sqL y3.sm q1, fun p hp => k _ _ _ _ _ w3 (same_trans s1 (same_trans s2 s3)) (y3.newO (o := .lst _) hp ⟨_, upd_same, dps_cut lo hi q2⟩) trivial⟩
    · exact w3.elim⟩
end
/-! ### the operations on data, for simp -/
theorem eI0 {g : Int → Int → V} {i j : Int} {P : Vl → Prop} : gI0 g (.int i) (.int j) P = (P (.dat (vD (g i j)))) := rfl
theorem eI {C : Int → Int → Prop} {g : Int → Int → V} {i j : Int} {P : Vl → Prop} : gI C g (.int i) (.int j) P = (C i j ∧ P (.dat (vD (g i j)))) := rfl
theorem eInD {neg : Bool} {d1 : PyData} {ds : List PyData} {P : Vl → Prop} : gInD neg d1 (.list ds) P = (SeqAt.shaped d1 = true ∧ SeqAt.shaped (.list ds) = true ∧ P (.dat (.bool (if neg then !(ds.any fun z => PyData.eqv z d1) else ds.any fun z => PyData.eqv z d1)))) := rfl
theorem eInL {neg : Bool} {d1 : PyData} {ds : List PyData} {P : Vl → Prop} : gIn neg d1 (.list ds) P = (flatD d1 = true ∧ ds.all flatD = true ∧ P (.dat (.bool (if neg then !inV (dV d1) (ds.map dV) else inV (dV d1) (ds.map dV))))) := rfl
theorem eInT {neg : Bool} {d1 : PyData} {ds : List PyData} {P : Vl → Prop} : gIn neg d1 (.tuple ds) P = (flatD d1 = true ∧ ds.all flatD = true ∧ P (.dat (.bool (if neg then !inV (dV d1) (ds.map dV) else inV (dV d1) (ds.map dV))))) := rfl
theorem eIxL {ds : List PyData} {i : Int} {P : Vl → Prop} : gIxL (.list ds) (.int i) P = (ob1 (atI ds i) fun d => P (.dat d)) := rfl
theorem eIxT {ds : List PyData} {i : Int} {P : Vl → Prop} : gIxT (.tuple ds) (.int i) P = (ob1 (atI ds i) fun d => P (.dat d)) := rfl
theorem eIx1 {ds : List PyData} {i : Int} {P : Vl → Prop} : gIx (.list ds) (.int i) P = (ob1 (atI ds i) fun d => P (.dat d)) := rfl
theorem eIx2 {ds : List PyData} {i : Int} {P : Vl → Prop} : gIx (.tuple ds) (.int i) P = (ob1 (atI ds i) fun d => P (.dat d)) := rfl
theorem eIxS {z : Str} {i : Int} {P : Vl → Prop} : gIxS (.str z) (.int i) P = (z.length ≤ sizeLine ∧ ob1 (atI z.cps.toList i) fun c => P (.dat (.str ⟨#[c]⟩))) := rfl
theorem eIsN {neg : Bool} {d1 : PyData} {P : Vl → Prop} : gIsN neg d1 .none P = (P (.dat (.bool (if neg then !isNone d1 else isNone d1)))) := rfl
theorem eCat {ds es : List PyData} {P : Vl → Prop} : gCat (.list ds) (.list es) P = (ds.length + es.length ≤ sizeLine ∧ P (.ob (.lst (ds ++ es)))) := rfl
theorem eCatT {ds es : List PyData} {P : Vl → Prop} : gCatT (.tuple ds) (.tuple es) P = (ds.length + es.length ≤ sizeLine ∧ P (.dat (.tuple (ds ++ es)))) := rfl
theorem eLen_list {ds : List PyData} {P : Vl → Prop} : gLen (.list ds) P = (P (.dat (.int ds.length))) := rfl
theorem eTupOf_list {ds : List PyData} {P : Vl → Prop} : gTupOf (.list ds) P = (P (.dat (.tuple ds))) := rfl
theorem eListOf_list {ds : List PyData} {P : Vl → Prop} : gListOf (.list ds) P = (P (.ob (.lst ds))) := rfl
theorem eLen_tuple {ds : List PyData} {P : Vl → Prop} : gLen (.tuple ds) P = (P (.dat (.int ds.length))) := rfl
theorem eTupOf_tuple {ds : List PyData} {P : Vl → Prop} : gTupOf (.tuple ds) P = (P (.dat (.tuple ds))) := rfl
theorem eListOf_tuple {ds : List PyData} {P : Vl → Prop} : gListOf (.tuple ds) P = (P (.ob (.lst ds))) := rfl
theorem eSum {ds : List PyData} {P : Vl → Prop} : gSum (.list ds) P = (ob1 (intsD ds) fun ns => P (.dat (.int ns.sum))) := rfl
theorem eMax {ds : List PyData} {P : Vl → Prop} : gMax (.list ds) P = (ob1 (intsD ds) fun ns => 0 < ns.length ∧ ∀ m, m ∈ ns → (∀ y ∈ ns, y ≤ m) → P (.dat (.int m))) := rfl
theorem eMin {ds : List PyData} {P : Vl → Prop} : gMin (.list ds) P = (ob1 (intsD ds) fun ns => 0 < ns.length ∧ ∀ m, m ∈ ns → (∀ y ∈ ns, m ≤ y) → P (.dat (.int m))) := rfl
theorem eAll {ds : List PyData} {P : Vl → Prop} : gAll (.list ds) P = (ob1 (boolsD ds) fun ns => P (.dat (.bool (ns.all id)))) := rfl
theorem eAny {ds : List PyData} {P : Vl → Prop} : gAny (.list ds) P = (ob1 (boolsD ds) fun ns => P (.dat (.bool (ns.any id)))) := rfl
theorem eSorted {ds : List PyData} {P : Vl → Prop} : gSorted (.list ds) P = (ob1 (intsD ds) fun ns => ∀ ns' : List Int, ns'.Perm ns → ns'.Pairwise (· ≤ ·) → P (.ob (.lst (ns'.map PyData.int)))) := rfl
theorem eSortSet {ds : List PyData} {P : Vl → Prop} : gSortSet (.list ds) P = (ob1 (intsD ds) fun ns => ns.length < 64 ∧ ∀ ns' : List Int, ns'.Pairwise (· < ·) → (∀ k, k ∈ ns' ↔ k ∈ ns) → P (.ob (.lst (ns'.map PyData.int)))) := rfl
theorem eInt_int {i : Int} {P : Vl → Prop} : gInt (.int i) P = (P (.dat (.int i))) := rfl
theorem eInt_bool {b : Bool} {P : Vl → Prop} : gInt (.bool b) P = (P (.dat (.int (if b then 1 else 0)))) := rfl
theorem eAbs {i : Int} {P : Vl → Prop} : gAbs (.int i) P = (P (.dat (.int (if i < 0 then -i else i)))) := rfl
theorem ety_none  : tyD .none = ("NoneType") := rfl
theorem eno_none  : isNone .none = (true) := rfl
theorem efl_none  : flatD .none = (true) := rfl
theorem ety_bool {b : Bool} : tyD (.bool b) = ("bool") := rfl
theorem eno_bool {b : Bool} : isNone (.bool b) = (false) := rfl
theorem efl_bool {b : Bool} : flatD (.bool b) = (true) := rfl
theorem ety_int {i : Int} : tyD (.int i) = ("int") := rfl
theorem eno_int {i : Int} : isNone (.int i) = (false) := rfl
theorem efl_int {i : Int} : flatD (.int i) = (true) := rfl
theorem ety_str {x : Str} : tyD (.str x) = ("str") := rfl
theorem eno_str {x : Str} : isNone (.str x) = (false) := rfl
theorem efl_str {x : Str} : flatD (.str x) = (true) := rfl
theorem ety_list {ds : List PyData} : tyD (.list ds) = ("list") := rfl
theorem eno_list {ds : List PyData} : isNone (.list ds) = (false) := rfl
theorem efl_list {ds : List PyData} : flatD (.list ds) = (false) := rfl
theorem ety_tuple {ds : List PyData} : tyD (.tuple ds) = ("tuple") := rfl
theorem eno_tuple {ds : List PyData} : isNone (.tuple ds) = (false) := rfl
theorem efl_tuple {ds : List PyData} : flatD (.tuple ds) = (false) := rfl
theorem etr_none  : truD .none = (some false) := rfl
theorem etr_bool {b : Bool} : truD (.bool b) = (some b) := rfl
theorem etr_int {i : Int} : truD (.int i) = (some (i != 0)) := rfl
theorem etr_list {ds : List PyData} : truD (.list ds) = (some (!ds.isEmpty)) := rfl
theorem etr_tuple {ds : List PyData} : truD (.tuple ds) = (some (!ds.isEmpty)) := rfl
theorem evd_non  : vD .non = (.none) := rfl
theorem evd_bl {b : Bool} : vD (.bl b) = (.bool b) := rfl
theorem evd_int {i : Int} : vD (.int i) = (.int i) := rfl
theorem evd_str {x : Str} : vD (.str x) = (.str x) := rfl
theorem etk_ob {ds : List PyData} {e : En} : trk (.ob (.lst ds)) e = (some ds) := rfl
theorem cast_0 : ((0 : Nat) : Int) = 0 := rfl
theorem cast_1 : ((1 : Nat) : Int) = 1 := rfl
theorem cast_2 : ((2 : Nat) : Int) = 2 := rfl
theorem cast_3 : ((3 : Nat) : Int) = 3 := rfl
theorem cast_4 : ((4 : Nat) : Int) = 4 := rfl
theorem cast_5 : ((5 : Nat) : Int) = 5 := rfl
theorem cast_6 : ((6 : Nat) : Int) = 6 := rfl
theorem cast_7 : ((7 : Nat) : Int) = 7 := rfl
theorem cast_8 : ((8 : Nat) : Int) = 8 := rfl
theorem ix_1_0 : ixN 1 0 = some 0 := rfl
theorem ix_2_0 : ixN 2 0 = some 0 := rfl
theorem ix_2_1 : ixN 2 1 = some 1 := rfl
theorem ix_3_0 : ixN 3 0 = some 0 := rfl
theorem ix_3_1 : ixN 3 1 = some 1 := rfl
theorem ix_3_2 : ixN 3 2 = some 2 := rfl
theorem ix_4_0 : ixN 4 0 = some 0 := rfl
theorem ix_4_1 : ixN 4 1 = some 1 := rfl
theorem ix_4_2 : ixN 4 2 = some 2 := rfl
theorem ix_4_3 : ixN 4 3 = some 3 := rfl
theorem at_0 {α : Type} {x : α} {r : List α} : atI (x :: r) 0 = some x := atI_nat (j := 0) rfl
theorem at_1 {α : Type} {x y : α} {r : List α} : atI (x :: y :: r) 1 = some y := atI_nat (j := 1) rfl
theorem at_2 {α : Type} {x y z : α} {r : List α} : atI (x :: y :: z :: r) 2 = some z := atI_nat (j := 2) rfl
theorem at_3 {α : Type} {x y z u : α} {r : List α} : atI (x :: y :: z :: u :: r) 3 = some u := atI_nat (j := 3) rfl
/-! ### shape and equality of small data -/
theorem shaped_int (i : Int) : SeqAt.shaped (.int i) = true := by unfold SeqAt.shaped; simp [PyData.canLay0, PyData.depth]
theorem shaped_bool (b : Bool) : SeqAt.shaped (.bool b) = true := by unfold SeqAt.shaped; simp [PyData.canLay0, PyData.depth]
theorem shaped_none : SeqAt.shaped .none = true := by unfold SeqAt.shaped; simp [PyData.canLay0, PyData.depth]
theorem shaped_str (x : Str) : SeqAt.shaped (.str x) = PyData.strOk x := by unfold SeqAt.shaped; simp [PyData.canLay0, PyData.depth]
theorem eqv_int (i j : Int) : PyData.eqv (.int i) (.int j) = decide (i = j) := by rw [PyData.eqv]; exact (Bool.beq_eq_decide_eq i j)
theorem eqv_bool (i j : Bool) : PyData.eqv (.bool i) (.bool j) = decide (i = j) := by rw [PyData.eqv]; exact (Bool.beq_eq_decide_eq i j)
theorem eqv_str (i j : Str) : PyData.eqv (.str i) (.str j) = decide (i = j) := by
  rw [PyData.eqv]
  exact Bool.beq_eq_decide_eq i j
theorem eqv_nn : PyData.eqv .none .none = true := by rw [PyData.eqv]
theorem map_get {α β : Type} {l : List α} {g : α → β} {i : Nat} {d : β} (h : (l.map g)[i]? = some d) : ∃ x, l[i]? = some x ∧ g x = d := by
  rw [List.getElem?_map] at h
  cases c : l[i]? with
  | none => rw [c] at h; cases h
  | some x => rw [c] at h; exact ⟨x, rfl, Option.some.inj h⟩
theorem range_get {lo : Int} {n i : Nat} {d : PyData} (h : (rangeD lo n)[i]? = some d) : i < n ∧ d = .int (lo + i) := by
  obtain ⟨x, h1, rfl⟩ := map_get h
  have hi : i < n := by have := (List.getElem?_eq_some_iff.mp h1).1; simpa using this
  rw [List.getElem?_range hi] at h1
  cases h1
  exact ⟨hi, rfl⟩
theorem range_len {lo : Int} {n : Nat} : (rangeD lo n).length = n := by simp [rangeD]
theorem bools_rep (n : Nat) (b : Bool) : boolsD (List.replicate n (.bool b)) = some (List.replicate n b) := by
  have := boolsD_map (List.replicate n b)
  rwa [List.map_replicate] at this
theorem all_rep (n : Nat) : (List.replicate n true).all id = true := by simp
theorem rep_succ {α : Type} (n : Nat) (a : α) : List.replicate (n + 1) a = List.replicate n a ++ [a] := List.replicate_succ'
/-! ### loops over written things; comprehensions without a state -/
def runFor (Gt : WG) (S : WS) (P : Po) : List PyData → En → Prop
  | [], e => P.nx e
  | d :: ds, e => Gt (.dat d) e fun e3 => S { P with nx := runFor Gt S P ds, ct := runFor Gt S P ds, bk := P.nx } e3
theorem for_unroll {Gt : WG} {S : WS} {P : Po} {its : List PyData} {e1 : En} (h : runFor Gt S P its e1) : ForB Gt S P its e1 := by
  refine ⟨fun i e => runFor Gt S P (its.drop i) e, h, fun i d e2 hd hi => ?_, fun e2 hi => ?_⟩
  · have hl : i < its.length := (List.getElem?_eq_some_iff.mp hd).1
    have e := List.drop_eq_getElem_cons hl
    dsimp only at hi
    rw [e] at hi
    have : its[i] = d := by rw [List.getElem?_eq_getElem hl] at hd; exact Option.some.inj hd
    rw [this] at hi
    exact hi
  · dsimp only at hi
    rw [List.drop_length] at hi
    exact hi
theorem lc_acc {Gt : WG} {T : WT} {E : WE} {vs : List Nat} {its : List PyData} {e1 e0 : En} {P : Vl → En → Prop} (acc : Nat → List PyData) (h0 : acc 0 = []) (he : e0 = wipeE e1 vs) (hl : ∀ i, i < its.length → (acc i).length ≤ 100000)
    (hs : ∀ i d, its[i]? = some d → Gt (.dat d) e0 fun e3 => T e3 fun b e4 => if b = true then wFz E e4 fun y e5 => acc (i + 1) = acc i ++ [y] ∧ wipeE e5 vs = e0 else acc (i + 1) = acc i ∧ wipeE e4 vs = e0)
    (hP : P (.ob (.lst (acc its.length))) (back e1 vs (wipeE e0 vs))) : LcB Gt T E vs P its e1 := by
  refine ⟨fun i ac e => acc i = ac ∧ e = e0, ⟨h0, he.symm⟩, ?_, ?_⟩
  · rintro i d ac e2 hd ⟨rfl, rfl⟩
    exact ⟨hl i (List.getElem?_eq_some_iff.mp hd).1, hs i d hd⟩
  · rintro ac e2 ⟨rfl, rfl⟩
    exact ⟨by rw [he, wipeE_len], hP⟩
/-! ### data that are not too deep, not too wide -/
def Fine : Nat → PyData → Prop
  | _, .none => True
  | _, .bool _ => True
  | _, .int _ => True
  | _, .str x => PyData.strOk x = true
  | m + 1, .tuple ds => ds.length ≤ 40000 ∧ ∀ d ∈ ds, Fine m d
  | m + 1, .list ds => ds.length ≤ 40000 ∧ ∀ d ∈ ds, Fine m d
  | 0, .tuple _ => False
  | 0, .list _ => False
  | _, .dict _ => False
theorem Fine.small : ∀ {m : Nat} {d : PyData}, Fine m d → Small m d
  | m, .none, _ => ⟨by rw [PyData.canLay0], by rw [PyData.depth]; exact Nat.zero_le _⟩
  | m, .bool _, _ => ⟨by rw [PyData.canLay0], by rw [PyData.depth]; exact Nat.zero_le _⟩
  | m, .int _, _ => ⟨by rw [PyData.canLay0], by rw [PyData.depth]; exact Nat.zero_le _⟩
  | m, .str x, h => ⟨by rw [PyData.canLay0]; unfold Fine at h; exact h, by rw [PyData.depth]; exact Nat.zero_le _⟩
  | m + 1, .tuple ds, h => by
    unfold Fine at h
    exact Small.tuple fun d hd => Fine.small (h.2 d hd)
  | m + 1, .list ds, h => by
    unfold Fine at h
    exact Small.list fun d hd => Fine.small (h.2 d hd)
  | 0, .tuple _, h => by unfold Fine at h; exact h.elim
  | 0, .list _, h => by unfold Fine at h; exact h.elim
  | m, .dict _, h => by cases m <;> (unfold Fine at h; exact h.elim)
theorem Fine.ok {m : Nat} {d : PyData} (h : Fine m d) (hm : m ≤ 64) : SeqAt.shaped d = true := h.small.ok hm
theorem Fine.mono : ∀ {m n : Nat} {d : PyData}, Fine m d → m ≤ n → Fine n d
  | m, n, .none, _, _ => by cases n <;> (unfold Fine; trivial)
  | m, n, .bool _, _, _ => by cases n <;> (unfold Fine; trivial)
  | m, n, .int _, _, _ => by cases n <;> (unfold Fine; trivial)
  | m, n, .str x, h, _ => by cases n <;> (unfold Fine at h ⊢; exact h)
  | m + 1, 0, .tuple ds, h, hn => by omega
  | m + 1, n + 1, .tuple ds, h, hn => by
    unfold Fine at h ⊢
    exact ⟨h.1, fun d hd => Fine.mono (h.2 d hd) (by omega)⟩
  | m + 1, 0, .list ds, h, hn => by omega
  | m + 1, n + 1, .list ds, h, hn => by
    unfold Fine at h ⊢
    exact ⟨h.1, fun d hd => Fine.mono (h.2 d hd) (by omega)⟩
  | 0, n, .tuple _, h, _ => by unfold Fine at h; exact h.elim
  | 0, n, .list _, h, _ => by unfold Fine at h; exact h.elim
  | m, n, .dict _, h, _ => by cases m <;> (unfold Fine at h; exact h.elim)
theorem Fine.int {m : Nat} (i : Int) : Fine m (.int i) := by cases m <;> (unfold Fine; trivial)
theorem Fine.bool {m : Nat} (i : Bool) : Fine m (.bool i) := by cases m <;> (unfold Fine; trivial)
theorem Fine.non {m : Nat} : Fine m .none := by cases m <;> (unfold Fine; trivial)
theorem Fine.str {m : Nat} {x : Str} (h : PyData.strOk x = true) : Fine m (.str x) := by cases m <;> (unfold Fine; exact h)
theorem Fine.tup {m : Nat} {ds : List PyData} (h : ds.length ≤ 40000) (hd : ∀ d ∈ ds, Fine m d) : Fine (m + 1) (.tuple ds) := by
  unfold Fine
  exact ⟨h, hd⟩
theorem Fine.lst {m : Nat} {ds : List PyData} (h : ds.length ≤ 40000) (hd : ∀ d ∈ ds, Fine m d) : Fine (m + 1) (.list ds) := by
  unfold Fine
  exact ⟨h, hd⟩
theorem fine_row {ds : List Nat} (h : ds.length ≤ 40000) : Fine 1 (rowD ds) := Fine.tup (by rw [List.length_map]; exact h) fun d hd => by
  obtain ⟨n, _, rfl⟩ := List.mem_map.mp hd
  exact .int _
theorem fine_rows {rs : List (List Nat)} (h : rs.length ≤ 40000) (hr : ∀ r ∈ rs, r.length ≤ 40000) : Fine 2 (rowsD rs) := Fine.tup (by rw [List.length_map]; exact h) fun d hd => by
  obtain ⟨r, hm, rfl⟩ := List.mem_map.mp hd
  exact fine_row (hr r hm)
mutual
theorem eqv_self : ∀ {m : Nat} (d : PyData), Fine m d → PyData.eqv d d = true
  | m, .none, _ => eqv_nn
  | m, .bool b, _ => by rw [eqv_bool]; simp
  | m, .int b, _ => by rw [eqv_int]; simp
  | m, .str b, _ => by rw [eqv_str]; simp
  | m + 1, .tuple ds, h => by
    unfold Fine at h
    rw [PyData.eqv]
    exact eqvAll_self ds h.2
  | m + 1, .list ds, h => by
    unfold Fine at h
    rw [PyData.eqv]
    exact eqvAll_self ds h.2
  | 0, .tuple _, h => by unfold Fine at h; exact h.elim
  | 0, .list _, h => by unfold Fine at h; exact h.elim
  | m, .dict _, h => by cases m <;> (unfold Fine at h; exact h.elim)
theorem eqvAll_self : ∀ {m : Nat} (ds : List PyData), (∀ d ∈ ds, Fine m d) → PyData.eqvAll ds ds = true
  | m, [], _ => by rw [PyData.eqvAll]
  | m, d :: ds, h => by rw [PyData.eqvAll, eqv_self d (h d List.mem_cons_self), eqvAll_self ds fun x hx => h x (List.mem_cons_of_mem _ hx)]; rfl
end
theorem shaped_nil : SeqAt.shaped (.list []) = true := (Fine.lst (m := 0) (ds := []) (by simp) (by simp)).ok (by decide)
theorem shaped_nilT : SeqAt.shaped (.tuple []) = true := (Fine.tup (m := 0) (ds := []) (by simp) (by simp)).ok (by decide)
theorem eqv_lnil (ds : List PyData) : PyData.eqv (.list ds) (.list []) = ds.isEmpty := by
  rw [PyData.eqv]
  cases ds <;> simp [PyData.eqvAll]
theorem eqv_tnil (ds : List PyData) : PyData.eqv (.tuple ds) (.tuple []) = ds.isEmpty := by
  rw [PyData.eqv]
  cases ds <;> simp [PyData.eqvAll]
/-! ### defs -/
abbrev FSp := En → (Vl → En → Prop) → Prop
def spD (K : PySem.W.Frag) (F : FSp) : Sp := fun vs H Q _ => ∃ (args : En) (A : List Addr) (Hz : Hp) (P : Vl → En → Prop), Sy ⟨K, A, Hz, H, vs.length⟩ [] [] args (vs.map some) Hz H ∧ args.length = vs.length ∧
  F args P ∧ ∀ b outs, P b outs → ∀ v Hz' H', Sy ⟨K, A, Hz, H, vs.length⟩ (tmp b []) (tmv b v []) outs (vs.map some) Hz' H' → Val ⟨K, A, Hz, H, vs.length⟩ b v [] Hz' → Q v H'
theorem spD_len {K : PySem.W.Frag} {F : FSp} {n : Nat} (hF : ∀ args P, F args P → args.length = n) {vs : List V} {H : Hp} {Q : VK} {E : XK} (h : spD K F vs H Q E) : vs.length = n := by
  obtain ⟨args, A, Hz, P, y, hl, hf, _⟩ := h
  rw [← hl]
  exact hF _ _ hf
/-- the same with shared objects -/
abbrev GSp := En → Gh → (Vl → En → Gh → Prop) → Prop
def spG (K : PySem.W.Frag) (F : GSp) : Sp := fun vs H Q _ => ∃ (args : En) (G : Gh) (A : List Addr) (Hz : Hp) (P : Vl → En → Gh → Prop), Sy ⟨K, A, Hz, H, vs.length⟩ [] [] (args ++ [some (.gs G)]) (vs.map some) Hz H ∧ args.length = vs.length ∧
  F args G P ∧ ∀ b outs G', P b outs G' → outs.length = vs.length → ∀ v Hz' H', Sy ⟨K, A, Hz, H, vs.length⟩ (tmp b []) (tmv b v []) (outs ++ [some (.gs G')]) (vs.map some) Hz' H' → Val ⟨K, A, Hz, H, vs.length⟩ b v [] Hz' → Q v H'
theorem spG_len {K : PySem.W.Frag} {F : GSp} {n : Nat} (hF : ∀ args G P, F args G P → args.length = n) {vs : List V} {H : Hp} {Q : VK} {E : XK} (h : spG K F vs H Q E) : vs.length = n := by
  obtain ⟨args, G, A, Hz, P, y, hl, hf, _⟩ := h
  rw [← hl]
  exact hF _ _ _ hf
/-- what has become of the objects that were given -/
def out1 : Option B → Option B → Option B
  | some (.ob (some j) _), some (.ob (some j') o) => if j = j' then some (.ob (some j) o) else none
  | _, _ => none
def outsOf : En → En → En
  | [], _ => []
  | _ :: as, [] => none :: outsOf as []
  | a :: as, x :: es => out1 a x :: outsOf as es
theorem outs_nil {e : En} : outsOf [] e = [] := by cases e <;> rfl
theorem outs_cons {a x : Option B} {as es : En} : outsOf (a :: as) (x :: es) = out1 a x :: outsOf as es := rfl
theorem out1_dat {d : PyData} {x : Option B} : out1 (some (.dat d)) x = none := by cases x <;> rfl
theorem out1_none {x : Option B} : out1 none x = none := by cases x <;> rfl
theorem out1_ob {j : Nat} {o o' : Ob} : out1 (some (.ob (some j) o)) (some (.ob (some j) o')) = some (.ob (some j) o') := by simp [out1]
theorem outsOf_len : ∀ (as es : En), (outsOf as es).length = as.length
  | [], _ => by rw [outs_nil]
  | _ :: as, [] => by rw [outsOf, List.length_cons, outsOf_len as [], List.length_cons]
  | _ :: as, _ :: es => by rw [outsOf, List.length_cons, outsOf_len as es, List.length_cons]
/-- where the objects that were given stand -/
inductive Gv (A : List Addr) : En → St → Prop
  | nil : Gv A [] []
  | no {x : Option V} {L : En} {W : St} : Gv A L W → Gv A (none :: L) (x :: W)
  | dat {x : Option V} {d : PyData} {L : En} {W : St} : Gv A L W → Gv A (some (.dat d) :: L) (x :: W)
  | ob {a : Addr} {t : Option Nat} {o : Ob} {L : En} {W : St} : (∀ j, t = some j → A[j]? = some a) → Gv A L W → Gv A (some (.ob t o) :: L) (some (.ref a) :: W)
section
variable {f f' : Fr} {Hz H Hz' H' : Hp}
theorem Pr.gv {L : En} {W : St} {O : List Addr} (h : Pr f Hz H L W O) : ∀ {L1 L2 : En}, L = L1 ++ L2 → L1.length = W.length → Gv f.A L1 W := by
  induction h with
  | nil =>
    intro L1 L2 e hl
    obtain rfl := List.length_eq_zero_iff.mp hl
    exact .nil
  | gs l _ _ =>
    intro L1 L2 e hl
    obtain rfl := List.length_eq_zero_iff.mp hl
    exact .nil
  | skip p ih =>
    intro L1 L2 e hl
    cases L1 with
    | nil => cases hl
    | cons x L1 => cases e; exact .no (ih rfl (Nat.succ.inj hl))
  | dat d p ih =>
    intro L1 L2 e hl
    cases L1 with
    | nil => cases hl
    | cons x L1 => cases e; exact .dat (ih rfl (Nat.succ.inj hl))
  | ob q1 q2 q3 p ih =>
    intro L1 L2 e hl
    cases L1 with
    | nil => cases hl
    | cons x L1 => cases e; exact .ob q3 (ih rfl (Nat.succ.inj hl))
theorem pr_outs : ∀ {args e : En} {W σ : St} {O : List Addr}, Gv f.A args W → Pr f Hz' H' e σ O → ∃ O', O'.Sublist O ∧ Pr f Hz' H' (outsOf args e) W O'
  | [], _, _, _, _, .nil, h => ⟨[], List.nil_sublist _, by rw [outs_nil]; exact .nil⟩
  | _ :: as, [], _, _, _, h0, .nil => by
    cases h0 with
    | no p =>
      obtain ⟨O', h1, h2⟩ := pr_outs p .nil
      exact ⟨O', h1, by unfold outsOf; exact .skip h2⟩
    | dat p =>
      obtain ⟨O', h1, h2⟩ := pr_outs p .nil
      exact ⟨O', h1, by unfold outsOf; exact .skip h2⟩
    | ob _ p =>
      obtain ⟨O', h1, h2⟩ := pr_outs p .nil
      exact ⟨O', h1, by unfold outsOf; exact .skip h2⟩
  | a :: as, _ :: _, _, _, _, h0, .gs l _ _ => by
    have key : ∀ {w : Option V} {W : St} (a : Option B), Gv f.A as W → ∃ O2, O2.Sublist (l.map (·.1)) ∧ Pr f Hz' H' (none :: outsOf as []) (w :: W) O2 := fun a p => by
      obtain ⟨O2, h1, h2⟩ := pr_outs p (Pr.nil (f := f) (Hz := Hz') (H := H'))
      have : O2 = [] := List.sublist_nil.mp h1
      subst this
      exact ⟨[], List.nil_sublist _, .skip h2⟩
    cases h0 with
    | no p => exact key none p
    | dat p => rename_i x d W; exact key (some (.dat d)) p
    | @ob a0 t o _ W q p =>
      have e1 : ∀ G, outsOf (some (.ob t o) :: as) [some (.gs G)] = none :: outsOf as [] := fun G => by cases t <;> rfl
      rw [e1]
      exact key none p
  | a :: as, x :: es, _, _, _, h0, h => by
    have key : ∀ {w : Option V} {W σ' : St} {O' : List Addr}, Gv f.A as W → Pr f Hz' H' es σ' O' → ∃ O2, O2.Sublist O' ∧ Pr f Hz' H' (none :: outsOf as es) (w :: W) O2 := fun p p' => by
      obtain ⟨O2, h1, h2⟩ := pr_outs p p'
      exact ⟨O2, h1, .skip h2⟩
    cases h0 with
    | no p =>
      have e1 : outsOf (none :: as) (x :: es) = none :: outsOf as es := by cases x <;> rfl
      rw [e1]
      cases h with
      | gs l h1 h2 =>
        obtain ⟨O2, c1, c2⟩ := key (w := _) p (Pr.nil (f := f) (Hz := Hz') (H := H'))
        obtain rfl := List.sublist_nil.mp c1
        exact ⟨[], List.nil_sublist _, c2⟩
      | skip p' => exact key p p'
      | dat _ p' => exact key p p'
      | ob _ _ _ p' =>
        obtain ⟨O2, h1, h2⟩ := key (w := _) p p'
        exact ⟨O2, h1.cons _, h2⟩
    | dat p =>
      have e1 : ∀ d, outsOf (some (.dat d) :: as) (x :: es) = none :: outsOf as es := fun d => by cases x <;> rfl
      rw [e1]
      cases h with
      | gs l h1 h2 =>
        obtain ⟨O2, c1, c2⟩ := key (w := _) p (Pr.nil (f := f) (Hz := Hz') (H := H'))
        obtain rfl := List.sublist_nil.mp c1
        exact ⟨[], List.nil_sublist _, c2⟩
      | skip p' => exact key p p'
      | dat _ p' => exact key p p'
      | ob _ _ _ p' =>
        obtain ⟨O2, h1, h2⟩ := key (w := _) p p'
        exact ⟨O2, h1.cons _, h2⟩
    | @ob a0 t0 o0 _ _ q3 p =>
      cases h with
      | gs l h1 h2 =>
        have e1 : ∀ G, outsOf (some (.ob t0 o0) :: as) [some (.gs G)] = none :: outsOf as [] := fun G => by cases t0 <;> rfl
        rw [e1]
        obtain ⟨O2, c1, c2⟩ := key (w := _) p (Pr.nil (f := f) (Hz := Hz') (H := H'))
        obtain rfl := List.sublist_nil.mp c1
        exact ⟨[], List.nil_sublist _, c2⟩
      | skip p' =>
        have e1 : outsOf (some (.ob t0 o0) :: as) (none :: es) = none :: outsOf as es := by cases t0 <;> rfl
        rw [e1]
        exact key p p'
      | @dat v d _ _ _ _ p' =>
        have e1 : outsOf (some (.ob t0 o0) :: as) (some (.dat d) :: es) = none :: outsOf as es := by cases t0 <;> rfl
        rw [e1]
        exact key p p'
      | @ob a1 t1 o1 _ _ O1 g1 g2 g3 p' =>
        obtain ⟨O2, h1, h2⟩ := pr_outs p p'
        cases t0 with
        | none =>
          have e1 : outsOf (some (.ob none o0) :: as) (some (.ob t1 o1) :: es) = none :: outsOf as es := by cases t1 <;> rfl
          rw [e1]
          exact ⟨O2, h1.cons _, .skip h2⟩
        | some j =>
          cases t1 with
          | none => exact ⟨O2, h1.cons _, .skip h2⟩
          | some j' =>
            show ∃ O', O'.Sublist (a1 :: O1) ∧ Pr f Hz' H' ((if j = j' then some (.ob (some j) o1) else none) :: outsOf as es) _ O'
            by_cases c : j = j'
            · subst c
              rw [if_pos rfl]
              have h5 := q3 j rfl
              have h6 := g3 j rfl
              rw [h5] at h6
              cases h6
              exact ⟨a0 :: O2, h1.cons₂ _, .ob g1 g2 g3 h2⟩
            · rw [if_neg c]
              exact ⟨O2, h1.cons _, .skip h2⟩
theorem Pr.fr {L : En} {W : St} {O : List Addr} (hK : f'.K = f.K) (hA : f'.A = f.A) (h0 : f'.H0 = f.H0) (h : Pr f Hz H L W O) : Pr f' Hz H L W O := by
  induction h with
  | nil => exact .nil
  | gs l h g => exact .gs l h ⟨by rw [hK]; exact g.ok, by rw [hA, h0]; exact g.own⟩
  | skip p ih => exact .skip ih
  | dat d p ih => exact .dat (by rw [hK]; exact d) ih
  | ob q1 q2 q3 p ih => exact .ob (by rw [hK]; exact q1) (by rw [h0]; exact q2) (by rw [hA]; exact q3) ih
theorem Pr.n {m : Nat} {L : En} {W : St} {O : List Addr} (h : Pr f Hz H L W O) : Pr { f with n := m } Hz H L W O := Pr.fr (f := f) (f' := { f with n := m }) rfl rfl rfl h
theorem Sy.outs {L e args : En} {W σ W0 : St} (y : Sy f L W e σ Hz' H') (g : Gv f.A args W0) (hf : f' = { f with n := W0.length }) : Sy f' L W (outsOf args e) W0 Hz' H' := by
  subst hf
  obtain ⟨⟨O1, O2, p1, p2, nd, fr⟩, sm, tz, nw, kp, ka, az, tp, ln⟩ := y
  obtain ⟨O', h1, h2⟩ := pr_outs g p2
  have sub : (O1 ++ O').Sublist (O1 ++ O2) := List.Sublist.append (List.Sublist.refl _) h1
  exact ⟨⟨O1, O', p1.n, h2.n, sub.nodup nd, fun a ha => fr a (sub.subset ha)⟩, sm, tz, nw, kp, ka, az, tp, rfl⟩
/-- slots and shared objects apart -/
theorem Pr.split {L : En} {W : St} {O : List Addr} (h : Pr f Hz H L W O) : ∀ {n : Nat} {G : Gh}, L[n]? = some (some (.gs G)) → ∃ L0 l r, L = L0 ++ [some (.gs G)] ∧ L0.length = W.length ∧ n = W.length ∧ G = lkp l ∧ Pr f Hz H L0 W r ∧ PG f Hz H l ∧ O = r ++ l.map (·.1) := by
  induction h with
  | nil => intro n G e; cases e
  | gs l hl g =>
    intro n G e
    cases n with
    | zero =>
      cases e
      exact ⟨[], l, [], rfl, rfl, rfl, hl, .nil, g, rfl⟩
    | succ n => cases e
  | skip p ih =>
    intro n G e
    cases n with
    | zero => cases e
    | succ n =>
      obtain ⟨L0, l, r, rfl, h2, h3, h4, h5, h6, rfl⟩ := ih e
      exact ⟨none :: L0, l, r, rfl, by simp [h2], by simp [h3], h4, .skip h5, h6, rfl⟩
  | dat d p ih =>
    intro n G e
    cases n with
    | zero => cases e
    | succ n =>
      obtain ⟨L0, l, r, rfl, h2, h3, h4, h5, h6, rfl⟩ := ih e
      exact ⟨_ :: L0, l, r, rfl, by simp [h2], by simp [h3], h4, .dat d h5, h6, rfl⟩
  | @ob a t o L W O q1 q2 q3 p ih =>
    intro n G e
    cases n with
    | zero => cases e
    | succ n =>
      obtain ⟨L0, l, r, rfl, h2, h3, h4, h5, h6, rfl⟩ := ih e
      exact ⟨_ :: L0, l, a :: r, rfl, by simp [h2], by simp [h3], h4, .ob q1 q2 q3 h5, h6, rfl⟩
theorem Pr.join {L : En} {W : St} {O : List Addr} (h : Pr f Hz H L W O) (hl : L.length = W.length) {l : List (Addr × Cell)} (g : PG f Hz H l) : Pr f Hz H (L ++ [some (.gs (lkp l))]) W (O ++ l.map (·.1)) := by
  induction h with
  | nil => exact .gs l rfl g
  | gs _ _ _ => cases hl
  | skip p ih => exact .skip (ih (Nat.succ.inj hl))
  | dat d p ih => exact .dat d (ih (Nat.succ.inj hl))
  | ob q1 q2 q3 p ih => exact .ob q1 q2 q3 (ih (Nat.succ.inj hl))
theorem Pr.more {e : En} {σ : St} {O : List Addr} (h : Pr f Hz H e σ O) (hl : e.length = σ.length) (n : Nat) : Pr f Hz H (e ++ List.replicate n none) (σ ++ List.replicate n none) O := by
  induction h with
  | nil =>
    rw [List.nil_append, List.nil_append]
    induction n with
    | zero => exact .nil
    | succ n ih => exact .skip ih
  | gs _ _ _ => cases hl
  | skip _ ih => exact .skip (ih (Nat.succ.inj hl))
  | dat d _ ih => exact .dat d (ih (Nat.succ.inj hl))
  | ob a b c _ ih => exact .ob a b c (ih (Nat.succ.inj hl))
theorem Sy.more {L e : En} {W σ : St} (y : Sy f L W e σ Hz H) (hl : e.length = σ.length) (n : Nat) (hf : f' = { f with n := σ.length + n }) : Sy f' L W (e ++ List.replicate n none) (σ ++ List.replicate n none) Hz H := by
  subst hf
  obtain ⟨⟨O1, O2, p1, p2, nd, fr⟩, sm, tz, nw, kp, ka, az, tp, ln⟩ := y
  exact ⟨⟨O1, O2, p1.n, (p2.more hl n).n, nd, fr⟩, sm, tz, nw, kp, ka, az, tp, by simp⟩
theorem Sy.moreG {L e : En} {W σ : St} {G : Gh} (y : Sy f L W (e ++ [some (.gs G)]) σ Hz H) (hl : e.length = σ.length) (n : Nat) (hf : f' = { f with n := σ.length + n }) :
    Sy f' L W (e ++ List.replicate n none ++ [some (.gs G)]) (σ ++ List.replicate n none) Hz H := by
  subst hf
  obtain ⟨⟨O1, O2, p1, p2, nd, fr⟩, sm, tz, nw, kp, ka, az, tp, ln⟩ := y
  obtain ⟨e0, l, r, h1, h2, h3, rfl, h5, h6, rfl⟩ := p2.split (n := e.length) (by rw [List.getElem?_append_right (Nat.le_refl _), Nat.sub_self]; rfl)
  have e1 : e = e0 := (List.append_inj' h1 rfl).1
  subst e1
  have q := (h5.more hl n).join (by simp [hl]) h6
  exact ⟨⟨O1, _, p1.n, q.n, nd, fr⟩, sm, tz, nw, kp, ka, az, tp, by simp⟩
end
theorem outs_app : ∀ {args e e0 t : En}, e = e0 ++ t → args.length ≤ e0.length → outsOf args e = outsOf args e0
  | [], e, e0, t, _, _ => by rw [outs_nil, outs_nil]
  | a :: as, e, [], t, _, h => by cases h
  | a :: as, e, x :: e0, t, he, h => by
    subst he
    rw [List.cons_append, outsOf, outsOf, outs_app rfl (Nat.le_of_succ_le_succ h)]
def retP (args : En) (P : Vl → En → Prop) : Po := ⟨fun e => P (.dat .none) (outsOf args e), fun b e => notOwn b = true ∧ P b (outsOf args e), fun _ => False, fun _ => False⟩
theorem retP_nx {args : En} {P : Vl → En → Prop} {e : En} : (retP args P).nx e = P (.dat .none) (outsOf args e) := rfl
theorem retP_rtD {args : En} {P : Vl → En → Prop} {d : PyData} {e : En} : (retP args P).rt (.dat d) e = P (.dat d) (outsOf args e) := by simp [retP, notOwn]
theorem retP_rtO {args : En} {P : Vl → En → Prop} {o : Ob} {e : En} : (retP args P).rt (.ob o) e = P (.ob o) (outsOf args e) := by simp [retP, notOwn]
theorem notOwn_dat {d : PyData} : notOwn (.dat d) = true := rfl
theorem notOwn_ob {o : Ob} : notOwn (.ob o) = true := rfl
/-- the shared objects of a slot's content -/
def gsAt (P : Gh → Prop) : Option (Option B) → Prop
  | some (some (.gs G)) => P G
  | _ => False
theorem gsAt_gs {P : Gh → Prop} {G : Gh} : gsAt P (some (some (.gs G))) = P G := rfl
theorem gsAt_ex {P : Gh → Prop} {x : Option (Option B)} (h : gsAt P x) : ∃ G, x = some (some (.gs G)) ∧ P G := by
  unfold gsAt at h
  split at h
  · exact ⟨_, rfl, h⟩
  · exact h.elim
def retG (n : Nat) (args : En) (P : Vl → En → Gh → Prop) : Po := ⟨fun e => gsAt (fun G => P (.dat .none) (outsOf args e) G) e[n]?, fun b e => notOwn b = true ∧ gsAt (fun G => P b (outsOf args e) G) e[n]?, fun _ => False, fun _ => False⟩
theorem retG_nx {n : Nat} {args : En} {P : Vl → En → Gh → Prop} {e : En} : (retG n args P).nx e = gsAt (fun G => P (.dat .none) (outsOf args e) G) e[n]? := rfl
theorem retG_rtD {n : Nat} {args : En} {P : Vl → En → Gh → Prop} {d : PyData} {e : En} : (retG n args P).rt (.dat d) e = gsAt (fun G => P (.dat d) (outsOf args e) G) e[n]? := by simp [retG, notOwn]
theorem retG_rtO {n : Nat} {args : En} {P : Vl → En → Gh → Prop} {o : Ob} {e : En} : (retG n args P).rt (.ob o) e = gsAt (fun G => P (.ob o) (outsOf args e) G) e[n]? := by simp [retG, notOwn]
/-- a def's body -/
theorem fn_run {K : PySem.W.Frag} {F : FSp} {t : TS} {S : WS} {N : List Str} {vs : List V} {H : Hp} {Q : VK} {E : XK} (h : spD K F vs H Q E) (hs : ∀ A Hz, SS ⟨K, A, Hz, H, N.length⟩ t S)
    (hw : ∀ args P, args.length = vs.length → F args P → S (retP args P) (args ++ List.replicate (N.length - args.length) none)) (hN : vs.length ≤ N.length) : t { nx := fun _ H' => Q .non H', rt := Q } (start N vs) H := by
  obtain ⟨args, A, Hz, P, y, hl, hF, hQ⟩ := h
  have g : Gv A args (vs.map some) := by
    obtain ⟨O1, O2, p1, p2, _⟩ := y.ex
    exact p2.gv (L2 := []) (by rw [List.append_nil]) (by rw [List.length_map]; exact hl)
  have hw' := hw args _ hl hF
  rw [hl] at hw'
  refine (hs A Hz).run hw' (y.more (by rw [List.length_map]; exact hl) (N.length - vs.length) (by rw [List.length_map, Nat.add_sub_cancel' hN])) ⟨?_, ?_, fun a => a.elim, fun a => a.elim⟩
  · intro e σ Hz' H' hP s1 y1
    exact hQ _ _ hP .non Hz' H' (y1.outs g (by rw [List.length_map])) Dp.non
  · intro b e σ v Hz' H' hP s1 y1 l1
    exact hQ _ _ hP.2 v Hz' H' (y1.outs g (by rw [List.length_map])) (val_not rfl l1 hP.1)
theorem fnG_run {K : PySem.W.Frag} {F : GSp} {t : TS} {S : WS} {N : List Str} {vs : List V} {H : Hp} {Q : VK} {E : XK} (h : spG K F vs H Q E) (hs : ∀ A Hz, SS ⟨K, A, Hz, H, N.length⟩ t S)
    (hw : ∀ args G P, args.length = vs.length → F args G P → S (retG N.length args P) (args ++ List.replicate (N.length - args.length) none ++ [some (.gs G)])) (hN : vs.length ≤ N.length) : t { nx := fun _ H' => Q .non H', rt := Q } (start N vs) H := by
  obtain ⟨args, G, A, Hz, P, y, hl, hF, hQ⟩ := h
  have hl' : args.length = (vs.map some).length := by rw [List.length_map]; exact hl
  have g : Gv A args (vs.map some) := by
    obtain ⟨O1, O2, p1, p2, _⟩ := y.ex
    exact p2.gv rfl hl'
  have hw' := hw args G _ hl hF
  rw [hl] at hw'
  have key : ∀ {L : En} {W : St} {e : En} {σ : St} {G' : Gh} {Hz' H' : Hp}, Sy ⟨K, A, Hz, H, N.length⟩ L W e σ Hz' H' → e[N.length]? = some (some (.gs G')) → Sy ⟨K, A, Hz, H, vs.length⟩ L W (outsOf args e ++ [some (.gs G')]) (vs.map some) Hz' H' := fun y1 he => by
    obtain ⟨⟨O1, O2, p1, p2, nd, fr⟩, sm, tz, nw, kp, ka, az, tp, ln⟩ := y1
    obtain ⟨e0, l, r, h1, h2, h3, h4, h5, h6, h7⟩ := p2.split he
    subst h4 h7
    obtain ⟨O', c1, c2⟩ := pr_outs g p2
    obtain ⟨O3, c3, c4⟩ := pr_outs g h5
    subst h1
    have eo : outsOf args (e0 ++ [some (B.gs (lkp l))]) = outsOf args e0 := outs_app rfl (by rw [h2, ln, hl]; exact hN)
    rw [eo]
    have q := c4.join (by rw [outsOf_len, hl']) h6
    have sub : (O1 ++ (O3 ++ l.map (·.1))).Sublist (O1 ++ (r ++ l.map (·.1))) := List.Sublist.append (List.Sublist.refl _) (List.Sublist.append c3 (List.Sublist.refl _))
    exact ⟨⟨O1, _, p1.n, q.n, sub.nodup nd, fun a ha => fr a (sub.subset ha)⟩, sm, tz, nw, kp, ka, az, tp, by rw [List.length_map]⟩
  refine (hs A Hz).run hw' (y.moreG hl' (N.length - vs.length) (by rw [List.length_map, Nat.add_sub_cancel' hN])) ⟨?_, ?_, fun a => a.elim, fun a => a.elim⟩
  · intro e σ Hz' H' hP s1 y1
    obtain ⟨G', he, hP⟩ := gsAt_ex hP
    exact hQ _ _ _ hP (by rw [outsOf_len, hl]) .non Hz' H' (key y1 he) Dp.non
  · intro b e σ v Hz' H' hP s1 y1 l1
    obtain ⟨G', he, hP2⟩ := gsAt_ex hP.2
    exact hQ _ _ _ hP2 (by rw [outsOf_len, hl]) v Hz' H' (key y1 he) (val_not rfl l1 hP.1)
/-! ### calls -/
section
variable {f : Fr} {ta : TA} {A : WA} {F : FSp} {E : XK}
def dats (ds : List PyData) : En := ds.map fun d => some (.dat d)
theorem dats_len (ds : List PyData) : (dats ds).length = ds.length := by simp [dats]
theorem pr_dats {f' : Fr} {Hz H : Hp} (hK : f'.K = f.K) : ∀ {ds : List PyData} {vs : List V}, DpAll f.K Hz vs ds → Pr f' Hz H (dats ds) (vs.map some) []
  | [], _, .nil => .nil
  | d :: ds, _, .cons h1 h2 => .dat (by rw [hK]; exact h1) (pr_dats hK h2)
/-- what a call keeps of the caller's state -/
theorem Sy.called {L e : En} {W σ : St} {Hz H Hz' H' : Hp} {A' : List Addr} {m : Nat} {b : Vl} {v : V} {outs : En} {W0 : St} (y : Sy f L W e σ Hz H) (y' : Sy ⟨f.K, A', Hz, H, m⟩ (tmp b []) (tmv b v []) outs W0 Hz' H')
    {O1 O2 : List Addr} (p1 : Pr f Hz H L W O1) (p2 : Pr f Hz H e σ O2) (nd : (O1 ++ O2).Nodup) (fr : ∀ a ∈ O1 ++ O2, Hz a = none) (dj : ∀ a ∈ O1 ++ O2, a ∉ A') (hA : ∀ a ∈ A', a ∉ f.A → f.H0 a = none) (hb : notOwn b = true) :
    Sy f (tmp b L) (tmv b v W) e σ Hz' H' ∧ Same Hz Hz' ∧ ∃ O1', Pr f Hz' H' (tmp b L) (tmv b v W) O1' ∧ Pr f Hz' H' e σ O2 ∧ (O1' ++ O2).Nodup ∧ (∀ a ∈ O1' ++ O2, Hz' a = none ∧ (a ∈ O1 ++ O2 ∨ H a = none)) := by
  have s1 : Same Hz Hz' := y'.tz
  have keep : ∀ a ∈ O1 ++ O2, H' a = H a := fun a ha => by
    have h1 : H a ≠ none := by
      rcases List.mem_append.mp ha with q | q
      · exact p1.there a q
      · exact p2.there a q
    cases c : H a with
    | none => exact absurd c h1
    | some u => exact y'.kp a u (dj a ha) c
  have hz : ∀ a ∈ O1 ++ O2, Hz' a = none := fun a ha => by
    cases c : Hz' a with
    | none => rfl
    | some u =>
      rcases y'.nw a (by rw [c]; exact Option.some_ne_none _) with q | q
      · exact absurd (fr a ha) q
      · rcases List.mem_append.mp ha with r | r
        · exact absurd q (p1.there a r)
        · exact absurd q (p2.there a r)
  have k1 := p1.keep s1 (fun a ha => keep a (List.mem_append_left _ ha))
  have k2 := p2.keep s1 (fun a ha => keep a (List.mem_append_right _ ha))
  have base : ∀ {L1 : En} {W1 : St} {O : List Addr}, Pr f Hz' H' L1 W1 O → (O ++ O2).Nodup → (∀ a ∈ O ++ O2, Hz' a = none) → Sy f L1 W1 e σ Hz' H' := fun q1 q2 q3 =>
    ⟨⟨_, O2, q1, k2, q2, q3⟩, y'.sm, same_trans y.tz s1, fun a h => by
      rcases y'.nw a h with q | q
      · exact y.nw a q
      · right
        cases c : f.H0 a with
        | none => rfl
        | some u => exact absurd q (y.ka a (by rw [c]; exact Option.some_ne_none _)), fun a u h1 h2 => by
      by_cases c : a ∈ A'
      · rw [hA a c h1] at h2
        cases h2
      · exact y'.kp a u c (y.kp a u h1 h2), fun a h => y'.ka a (y.ka a h), fun a h => by
      obtain ⟨q1, q2⟩ := y.az a h
      refine ⟨q1, ?_⟩
      cases c : Hz' a with
      | none => rfl
      | some u =>
        rcases y'.nw a (by rw [c]; exact Option.some_ne_none _) with r | r
        · exact absurd q2 r
        · exact absurd r (y.ka a q1), y'.tp, y.ln⟩
  cases b with
  | own i => cases hb
  | gob n a => cases hb
  | dat d => exact ⟨base k1 nd hz, s1, O1, k1, k2, nd, fun a ha => ⟨hz a ha, .inl ha⟩⟩
  | ob o =>
    obtain ⟨R1, R2, r1, r2, rd, rf⟩ := y'.ex
    cases r1 with
    | @ob ra _ _ _ _ Rr q1 q2 q3 q4 =>
      have hn : H ra = none := q2 rfl
      have h0 : f.H0 ra = none := by
        cases c : f.H0 ra with
        | none => rfl
        | some u => exact absurd hn (y.ka ra (by rw [c]; exact Option.some_ne_none _))
      have pn : Pr f Hz' H' (some (.ob none o) :: L) (some (.ref ra) :: W) (ra :: O1) := .ob q1 (fun _ => h0) (fun j z => by cases z) k1
      have nin : ra ∉ O1 ++ O2 := fun c => by
        rcases List.mem_append.mp c with r | r
        · exact p1.there ra r hn
        · exact p2.there ra r hn
      have nd2 : ((ra :: O1) ++ O2).Nodup := List.nodup_cons.mpr ⟨nin, nd⟩
      have hz2 : ∀ a ∈ (ra :: O1) ++ O2, Hz' a = none := fun a ha => by
        rcases List.mem_cons.mp ha with rfl | ha
        · exact rf a List.mem_cons_self
        · exact hz a ha
      refine ⟨base pn nd2 hz2, s1, ra :: O1, pn, k2, nd2, fun a ha => ⟨hz2 a ha, ?_⟩⟩
      rcases List.mem_cons.mp ha with rfl | ha
      · exact .inr hn
      · exact .inl ha
/-- f(data, ..) -/
def wCall (F : FSp) (A : WA) (e : En) (P : Vl → En → Prop) : Prop := A e fun ds e1 => F (dats ds) fun b _ => notOwn b = true ∧ P b e1
theorem se_call (h : SA f ta A) : SE f (tCall (spD f.K F) [] E ta) (wCall F A) := ⟨fun {L W e σ Hz H Post Q} w y k => h.run w y fun ds e1 vs Hz1 H1 w1 s1 y1 d1 => by
  rw [List.append_nil]
  have yc : Sy ⟨f.K, [], Hz1, H1, vs.length⟩ [] [] (dats ds) (vs.map some) Hz1 H1 := ⟨⟨[], [], .nil, pr_dats rfl d1, List.nodup_nil, fun a ha => by cases ha⟩, y1.sm, same_refl, fun b h => .inl h, fun b u _ h => h, fun b h => h, (fun a ha => by cases ha), y1.tp, by rw [List.length_map]⟩
  refine ⟨dats ds, [], Hz1, _, yc, by rw [dats_len, dps_len d1], w1, fun b o hb v Hz' H' y' l' => ?_⟩
  obtain ⟨O1, O2, p1, p2, nd, fr⟩ := y1.ex
  obtain ⟨y2, s2, _⟩ := y1.called y' p1 p2 nd fr (fun a _ c => by cases c) (fun a c => by cases c) hb.1
  exact k _ _ _ _ _ hb.2 (same_trans s1 s2) y2 (by
    cases b with
    | dat d => exact l'
    | ob o => trivial
    | own i => cases hb.1
    | gob n a => cases hb.1)⟩
def out0 : En → Option Ob
  | some (.ob (some 0) o) :: _ => some o
  | _ => none
theorem out0_get {outs : En} {o : Ob} (h : out0 outs = some o) : outs[0]? = some (some (.ob (some 0) o)) := by
  unfold out0 at h
  split at h
  · cases h
    rfl
  · cases h
/-- f(x, data, ..), x an object of a slot that the call may change -/
def wCallO (F : FSp) (i : Nat) (A : WA) (e : En) (P : Vl → En → Prop) : Prop := match e[i]? with
  | some (some (.ob _ _)) => A e fun ds e1 => match e1[i]? with
    | some (some (.ob t o)) => F (some (.ob (some 0) o) :: dats ds) fun b outs => notOwn b = true ∧ ob1 (out0 outs) fun o' => P b (e1.set i (some (.ob t o')))
    | _ => False
  | _ => False
theorem se_callO {i : Nat} (h : SA f ta A) : SE f (tCall (spD f.K F) [] E (tCons (tVar i) ta)) (wCallO F i A) := ⟨fun {L W e σ Hz H Post Q} w y k => by
  unfold wCallO at w
  split at w
  · rename_i t0 o0 q0
    obtain ⟨a, ha, _, _⟩ := y.ob q0
    refine ⟨_, ha, h.run w y fun ds e1 vs Hz1 H1 w1 s1 y1 d1 => ?_⟩
    split at w1
    · rename_i t o q
      rw [List.append_nil]
      obtain ⟨O1, O2, p1, p2, nd, fr⟩ := y1.ex
      obtain ⟨a', O', h1, h2, h3, h4, h5, h6⟩ := p2.take q
      rw [ha] at h1
      cases h1
      have hz : Hz1 a = none := fr a (List.mem_append_right _ (h5.mem_iff.mpr List.mem_cons_self))
      have yc : Sy ⟨f.K, [a], Hz1, H1, (V.ref a :: vs).length⟩ [] [] (some (.ob (some 0) o) :: dats ds) ((V.ref a :: vs).map some) Hz1 H1 :=
        ⟨⟨[], [a], .nil, .ob h2 (fun z => by cases z) (fun j z => by cases z; rfl) (pr_dats rfl d1), by simp, fun b hb => by
          rw [List.nil_append, List.mem_singleton] at hb
          rw [hb]
          exact hz⟩, y1.sm, same_refl, fun b h => .inl h, fun b u _ h => h, fun b h => h, fun b hb => by
          rw [List.mem_singleton] at hb
          rw [hb]
          exact ⟨h2.there, hz⟩, y1.tp, by rw [List.length_map]⟩
      refine ⟨_, [a], Hz1, _, yc, by rw [List.length_cons, dats_len, List.length_cons, dps_len d1], w1, fun b outs hb v Hz' H' y' l' => ?_⟩
      obtain ⟨hb1, hb2⟩ := hb
      obtain ⟨o', qo, hb2⟩ := ob1_ex hb2
      replace qo := out0_get qo
      · have nd1 := perm_nodup nd h5
        have pm : (O1 ++ (a :: O')).Perm (a :: (O1 ++ O')) := List.perm_middle
        have nd2 := pm.nodup_iff.mp nd1
        have ndx := List.nodup_cons.mp nd2
        have yx : Sy f L W (e1.set i none) σ Hz1 H1 := ⟨⟨O1, O', p1, h6, ndx.2, fun b hb => fr b (by
          rcases List.mem_append.mp hb with r | r
          · exact List.mem_append_left _ r
          · exact List.mem_append_right _ (h5.mem_iff.mpr (List.mem_cons_of_mem _ r)))⟩, y1.sm, y1.tz, y1.nw, y1.kp, y1.ka, y1.az, y1.tp, y1.ln⟩
        obtain ⟨y2, s2, O1', g1, g2, g3, g4⟩ := yx.called y' p1 h6 ndx.2 (fun b hb => fr b (by
          rcases List.mem_append.mp hb with r | r
          · exact List.mem_append_left _ r
          · exact List.mem_append_right _ (h5.mem_iff.mpr (List.mem_cons_of_mem _ r)))) (fun b hb c => by
            rw [List.mem_singleton] at c
            exact ndx.1 (c ▸ hb)) (fun b hb c => by
            rw [List.mem_singleton] at hb
            rw [hb] at c ⊢
            cases t with
            | none => exact h3 rfl
            | some j => exact absurd (List.mem_of_getElem? (h4 j rfl)) c) hb1
        obtain ⟨ax, x1, x2, x3⟩ := y'.ob qo
        have ea : ax = a := by
          have z : ((V.ref a :: vs).map some)[0]? = some (some (V.ref a)) := rfl
          rw [z] at x1
          cases x1
          rfl
        subst ea
        have hi : i < (e1.set i none).length := by rw [List.length_set]; exact (List.getElem?_eq_some_iff.mp q).1
        obtain ⟨O3, c1, c2⟩ := g2.putO (i := i) x2 h3 h4 (by rw [List.getElem?_set_self (by rw [List.length_set] at hi; exact hi)])
        rw [List.set_set, set_self_some ha] at c2
        have na : ax ∉ O1' ++ O' := fun c => by
          rcases (g4 ax c).2 with r | r
          · exact ndx.1 r
          · exact h2.there r
        have pm2 : (O1' ++ O3).Perm (ax :: (O1' ++ O')) := (c1.append_left O1').trans List.perm_middle
        have y3 : Sy f (tmp b L) (tmv b v W) (e1.set i (some (.ob t o'))) σ Hz' H' := ⟨⟨O1', O3, g1, c2, pm2.nodup_iff.mpr (List.nodup_cons.mpr ⟨na, g3⟩), fun z hz => by
          rcases List.mem_cons.mp (pm2.mem_iff.mp hz) with rfl | r
          · exact x3
          · exact (g4 z r).1⟩, y2.sm, y2.tz, y2.nw, y2.kp, y2.ka, y2.az, y2.tp, y2.ln⟩
        exact k _ _ _ _ _ hb2 (same_trans s1 s2) y3 (by
          cases b with
          | dat d => exact l'
          | ob o => trivial
          | own i => cases hb1
          | gob n a => cases hb1)
    · exact w1.elim
  · exact w.elim⟩
/-! ### calls with shared objects -/
/-- where a call with shared objects starts, and what it leaves -/
theorem Sy.calledG {L e : En} {W σ : St} {Hz H : Hp} {G : Gh} {n : Nat} (y : Sy f L W e σ Hz H) (he : e[n]? = some (some (.gs G))) : ∃ A' : List Addr,
    (∀ {ds : List PyData} {vs : List V}, DpAll f.K Hz vs ds → Sy ⟨f.K, A', Hz, H, vs.length⟩ [] [] (dats ds ++ [some (.gs G)]) (vs.map some) Hz H) ∧
    ∀ {m : Nat} {b : Vl} {v : V} {outs : En} {W0 : St} {G' : Gh} {Hz' H' : Hp}, notOwn b = true → outs.length = W0.length → Sy ⟨f.K, A', Hz, H, m⟩ (tmp b []) (tmv b v []) (outs ++ [some (.gs G')]) W0 Hz' H' →
      Sy f (tmp b L) (tmv b v W) (e.set n (some (.gs G'))) σ Hz' H' ∧ Same Hz Hz' := by
  obtain ⟨O1, O2, p1, p2, nd, fr⟩ := y.ex
  obtain ⟨e0, l, r, rfl, h2, h3, rfl, h5, h6, rfl⟩ := p2.split he
  have nd1 := List.nodup_append.mp nd
  have nd2 := List.nodup_append.mp nd1.2.1
  refine ⟨l.map (·.1), fun {ds vs} d1 => ?_, fun {m b v outs W0 G' Hz' H'} hb ho y' => ?_⟩
  · have pd : Pr ⟨f.K, l.map (·.1), Hz, H, vs.length⟩ Hz H (dats ds) (vs.map some) [] := pr_dats rfl d1
    have g : PG ⟨f.K, l.map (·.1), Hz, H, vs.length⟩ Hz H l := ⟨h6.ok, fun p hp => .inl (List.mem_map.mpr ⟨p, hp, rfl⟩)⟩
    refine ⟨⟨[], _, .nil, pd.join (by rw [dats_len, List.length_map, dps_len d1]) g, by rw [List.nil_append, List.nil_append]; exact nd2.2.1, fun a ha => ?_⟩, y.sm, same_refl, fun b h => .inl h, fun b u _ h => h, fun b h => h, fun a ha => ?_, y.tp, by rw [List.length_map]⟩
    · rw [List.nil_append, List.nil_append] at ha
      exact fr a (List.mem_append_right _ (List.mem_append_right _ ha))
    · obtain ⟨p, hp, rfl⟩ := List.mem_map.mp ha
      exact ⟨(h6.ok p hp).there, fr p.1 (List.mem_append_right _ (List.mem_append_right _ (List.mem_map.mpr ⟨p, hp, rfl⟩)))⟩
  · obtain ⟨R1, R2, c1, c2, cd, cf⟩ := y'.ex
    obtain ⟨o0, l', r', k1, k2, k3, rfl, k5, k6, rfl⟩ := c2.split (n := outs.length) (by rw [List.getElem?_append_right (Nat.le_refl _), Nat.sub_self]; rfl)
    have s1 : Same Hz Hz' := y'.tz
    have cd1 := List.nodup_append.mp cd
    have cd2 := List.nodup_append.mp cd1.2.1
    -- the caller's own objects
    have out : ∀ a ∈ O1 ++ r, a ∉ l.map (·.1) := fun a ha hl => by
      rcases List.mem_append.mp ha with q | q
      · exact nd1.2.2 a q a (List.mem_append_right _ hl) rfl
      · exact nd2.2.2 a q a hl rfl
    have th : ∀ a ∈ O1 ++ r, H a ≠ none := fun a ha => by
      rcases List.mem_append.mp ha with q | q
      · exact p1.there a q
      · exact h5.there a q
    have keep : ∀ a ∈ O1 ++ r, H' a = H a := fun a ha => by
      cases c : H a with
      | none => exact absurd c (th a ha)
      | some u => exact y'.kp a u (out a ha) c
    have hz : ∀ a ∈ O1 ++ r, Hz' a = none := fun a ha => by
      cases c : Hz' a with
      | none => rfl
      | some u =>
        rcases y'.nw a (by rw [c]; exact Option.some_ne_none _) with q | q
        · refine absurd (fr a ?_) q
          rcases List.mem_append.mp ha with z | z
          · exact List.mem_append_left _ z
          · exact List.mem_append_right _ (List.mem_append_left _ z)
        · exact absurd q (th a ha)
    have new0 : ∀ a, H a = none → f.H0 a = none := fun a h => by
      cases c : f.H0 a with
      | none => rfl
      | some u => exact absurd h (y.ka a (by rw [c]; exact Option.some_ne_none _))
    have q1 := p1.keep s1 (fun a ha => keep a (List.mem_append_left _ ha))
    have q2 := h5.keep s1 (fun a ha => keep a (List.mem_append_right _ ha))
    have g' : PG f Hz' H' l' := ⟨k6.ok, fun p hp => by
      rcases k6.own p hp with z | z
      · obtain ⟨p0, hp0, e0⟩ := List.mem_map.mp z
        rw [← e0]
        exact h6.own p0 hp0
      · exact .inr (new0 _ z)⟩
    have lk : ∀ a ∈ l'.map (·.1), a ∉ O1 ++ r := fun a ha hc => by
      obtain ⟨p, hp, rfl⟩ := List.mem_map.mp ha
      rcases k6.own p hp with z | z
      · exact out _ hc z
      · exact th _ hc z
    have lz : ∀ a ∈ l'.map (·.1), Hz' a = none := fun a ha => cf a (List.mem_append_right _ (List.mem_append_right _ ha))
    have pe := q2.join h2 g'
    have ese : (e0 ++ [some (B.gs (lkp l))]).set n (some (.gs (lkp l'))) = e0 ++ [some (.gs (lkp l'))] := by
      rw [h3, ← h2, List.set_append_right _ _ (Nat.le_refl _), Nat.sub_self]
      rfl
    rw [ese]
    have ndr : (O1 ++ r).Nodup := List.nodup_append.mpr ⟨nd1.1, nd2.1, fun a ha b hb => nd1.2.2 a ha b (List.mem_append_left _ hb)⟩
    have base : ∀ {L1 : En} {W1 : St} {O : List Addr}, Pr f Hz' H' L1 W1 O → (O ++ (r ++ l'.map (·.1))).Nodup → (∀ a ∈ O ++ (r ++ l'.map (·.1)), Hz' a = none) → Sy f L1 W1 (e0 ++ [some (.gs (lkp l'))]) σ Hz' H' := fun q1 q2 q3 =>
      ⟨⟨_, _, q1, pe, q2, q3⟩, y'.sm, same_trans y.tz s1, fun a h => by
        rcases y'.nw a h with q | q
        · exact y.nw a q
        · exact .inr (new0 a q), fun a u h1 h2 => by
        by_cases c : a ∈ l.map (·.1)
        · obtain ⟨p, hp, rfl⟩ := List.mem_map.mp c
          rcases h6.own p hp with z | z
          · exact absurd z h1
          · rw [z] at h2; cases h2
        · exact y'.kp a u c (y.kp a u h1 h2), fun a h => y'.ka a (y.ka a h), fun a h => by
        obtain ⟨q1, q2⟩ := y.az a h
        refine ⟨q1, ?_⟩
        cases c : Hz' a with
        | none => rfl
        | some u =>
          rcases y'.nw a (by rw [c]; exact Option.some_ne_none _) with r | r
          · exact absurd q2 r
          · exact absurd r (y.ka a q1), y'.tp, y.ln⟩
    have nd3 : (O1 ++ (r ++ l'.map (·.1))).Nodup := by
      rw [← List.append_assoc]
      exact List.nodup_append.mpr ⟨ndr, cd2.2.1, fun a ha b hb e => lk b hb (e ▸ ha)⟩
    have z3 : ∀ a ∈ O1 ++ (r ++ l'.map (·.1)), Hz' a = none := fun a ha => by
      rw [← List.append_assoc] at ha
      rcases List.mem_append.mp ha with z | z
      · exact hz a z
      · exact lz a z
    cases b with
    | own i => cases hb
    | gob n a => cases hb
    | dat d => exact ⟨base q1 nd3 z3, s1⟩
    | ob o =>
      cases c1 with
      | @ob ra _ _ _ _ Rr w1 w2 w3 w4 =>
        have hn : H ra = none := w2 rfl
        have pn : Pr f Hz' H' (some (.ob none o) :: L) (some (.ref ra) :: W) (ra :: O1) := .ob w1 (fun _ => new0 ra hn) (fun j z => by cases z) q1
        have nin : ra ∉ O1 ++ (r ++ l'.map (·.1)) := fun c => by
          rw [← List.append_assoc] at c
          rcases List.mem_append.mp c with z | z
          · exact th ra z hn
          · exact cd1.2.2 ra List.mem_cons_self ra (List.mem_append_right _ z) rfl
        refine ⟨base pn (List.nodup_cons.mpr ⟨nin, nd3⟩) (fun a ha => ?_), s1⟩
        rcases List.mem_cons.mp ha with rfl | ha
        · exact cf a (List.mem_append_left _ List.mem_cons_self)
        · exact z3 a ha
/-- f(data, ..) with shared objects -/
def wCallG (F : GSp) (n : Nat) (A : WA) (e : En) (P : Vl → En → Prop) : Prop := A e fun ds e1 => gsAt (fun G => F (dats ds) G fun b _ G' => notOwn b = true ∧ P b (e1.set n (some (.gs G')))) e1[n]?
theorem se_callG {F : GSp} {n : Nat} (h : SA f ta A) : SE f (tCall (spG f.K F) [] E ta) (wCallG F n A) := ⟨fun {L W e σ Hz H Post Q} w y k => h.run w y fun ds e1 vs Hz1 H1 w1 s1 y1 d1 => by
  rw [List.append_nil]
  obtain ⟨G, he, w1⟩ := gsAt_ex w1
  obtain ⟨A', st, en⟩ := y1.calledG he
  refine ⟨dats ds, G, A', Hz1, _, st d1, by rw [dats_len, dps_len d1], w1, fun b outs G' hb ho v Hz' H' y' l' => ?_⟩
  obtain ⟨y2, s2⟩ := en hb.1 (by rw [ho, List.length_map]) y'
  exact k _ _ _ _ _ hb.2 (same_trans s1 s2) y2 (by
    cases b with
    | dat d => exact l'
    | ob o => trivial
    | own i => cases hb.1
    | gob n a => cases hb.1)⟩
end
end DL


set_option Elab.async false
set_option linter.all false
set_option maxRecDepth 100000
set_option maxHeartbeats 4000000
/-! From promises by hand to promises over the layer. -/
namespace DL
open PySem L2 TG
open Classical in
noncomputable def grown (Hz H H' : Hp) : Hp := fun b => if H b = none then H' b else Hz b
section
variable {K : PySem.W.Frag} {A : List Addr} {Hz H H' : Hp} {args : En} {W : St}
theorem pr_nones {f : Fr} {Hz' H' : Hp} : ∀ {e : En} {σ : St}, e.length = σ.length → Pr f Hz' H' (e.map fun _ => none) σ []
  | [], [], _ => .nil
  | [], _ :: _, h => by cases h
  | _ :: _, [], h => by cases h
  | _ :: _, _ :: _, h => .skip (pr_nones (Nat.succ.inj h))
theorem Sy.grow (y : Sy ⟨K, A, Hz, H, W.length⟩ [] [] args W Hz H) (hl : args.length = W.length) (s : Same H H') : Sy ⟨K, A, Hz, H, W.length⟩ [] [] (args.map fun _ => none) W (grown Hz H H') H' ∧ Same Hz (grown Hz H H') := by
  have s1 : Same Hz (grown Hz H H') := fun b o q => by
    unfold grown
    rw [if_neg (by rw [y.sm b o q]; exact Option.some_ne_none _)]
    exact q
  obtain ⟨O1, O2, p1, p2, nd, fr⟩ := y.ex
  refine ⟨⟨⟨[], [], .nil, pr_nones hl, List.nodup_nil, fun a ha => by cases ha⟩, ?_, s1, ?_, fun b u _ h => s b u h, ?_, ?_, ?_, rfl⟩, s1⟩
  · intro b o q
    unfold grown at q
    by_cases c : H b = none
    · rw [if_pos c] at q
      exact q
    · rw [if_neg c] at q
      exact s b o (y.sm b o q)
  · intro b q
    by_cases c : H b = none
    · exact .inr c
    · unfold grown at q
      rw [if_neg c] at q
      exact .inl q
  · intro b q
    cases c : H b with
    | none => exact absurd c q
    | some u => rw [s b u c]; exact Option.some_ne_none _
  · intro a ha
    obtain ⟨q1, q2⟩ := y.az a ha
    refine ⟨q1, ?_⟩
    unfold grown
    rw [if_neg q1]
    exact q2
  · intro b u q c
    unfold grown
    cases e : H b with
    | none => rw [if_pos rfl]; exact q
    | some u' =>
      rw [if_neg (Option.some_ne_none _)]
      rw [s b u' e] at q
      cases q
      exact y.tp b u e c
/-- a def that keeps the heap and gives data of tuples -/
theorem hand_dat {args : En} {vs : List V} {P : Vl → En → Prop} {Q : VK} {d' : PyData} {v' : V} (y : Sy ⟨K, A, Hz, H, vs.length⟩ [] [] args (vs.map some) Hz H)
    (hQ : ∀ b outs, P b outs → ∀ v Hz' H', Sy ⟨K, A, Hz, H, vs.length⟩ (tmp b []) (tmv b v []) outs (vs.map some) Hz' H' → Val ⟨K, A, Hz, H, vs.length⟩ b v [] Hz' → Q v H')
    (hl : args.length = vs.length) (hP : P (.dat d') (args.map fun _ => none)) (s : Same H H') (h : Dp K H' v' d') (p : pT d' = true) : Q v' H' := by
  have e : vs.length = (vs.map some).length := by rw [List.length_map]
  rw [e] at y
  obtain ⟨y1, s1⟩ := y.grow (by rw [← e]; exact hl) s
  rw [← e] at y1
  exact hQ _ _ hP v' _ H' y1 (y1.dpz p h)
theorem sy_dat {args : En} {vs : List V} {i : Nat} {d : PyData} (y : Sy ⟨K, A, Hz, H, vs.length⟩ [] [] args (vs.map some) Hz H) (h : args[i]? = some (some (.dat d))) : ∃ v, vs[i]? = some v ∧ Dp K H v d := by
  obtain ⟨v, h1, h2⟩ := y.get h
  rw [List.getElem?_map] at h1
  cases c : vs[i]? with
  | none => rw [c] at h1; cases h1
  | some x =>
    rw [c] at h1
    cases h1
    exact ⟨v, rfl, dp_mono y.sm _ _ h2⟩
/-- one argument -/
theorem sy_one {vs : List V} {d : PyData} (y : Sy ⟨K, A, Hz, H, vs.length⟩ [] [] [some (.dat d)] (vs.map some) Hz H) (hl : 1 = vs.length) : ∃ v, vs = [v] ∧ Dp K H v d := by
  obtain ⟨v, h1, h2⟩ := sy_dat (i := 0) y rfl
  match vs, hl, h1 with
  | [x], _, h1 => cases h1; exact ⟨v, rfl, h2⟩
end
/-! ### the row of draws -/
def rowL (ns : List Int) (i s t : Int) : List PyData := [.list (ns.map PyData.int), .int i, .int s, .int t]
def IsRow (o : Ob) : Prop := ∃ (ns : List Int) (i s t : Int), o = .lst (rowL ns i s t) ∧ ns.length ≤ 63 ∧ 0 ≤ i
def F_law_taken : FSp := fun args P => ∃ (o : Ob) (m : Int), args = [some (.ob (some 0) o), some (.dat (.int m))] ∧ IsRow o ∧ (0 < m ∧ m < 1073741824) ∧ ∀ (d : Int) (o' : Ob), IsRow o' → 0 ≤ d → d < m → P (.dat (.int d)) [some (.ob (some 0) o'), none]
theorem rowL_eq (ns : List Int) (i s t : Int) : rowL ns i s t = [.list (ns.map PyData.int), .int i, .int s, .int t] := rfl
def F_law_pick : FSp := fun args P => ∃ (o : Ob) (ds : List PyData), args = [some (.ob (some 0) o), some (.dat (.list ds))] ∧ IsRow o ∧ (0 < ds.length ∧ ds.length < 1000) ∧ ∀ (d : PyData) (o' : Ob), IsRow o' → d ∈ ds → P (.dat d) [some (.ob (some 0) o'), none]
end DL


set_option Elab.async false
set_option linter.all false
set_option maxRecDepth 100000
set_option maxHeartbeats 4000000
/-! Dicts with keys ints and texts over the layer of values. -/
namespace DL
open PySem L2 TG
def valD {κ : Type} [DecidableEq κ] (kvs : List (κ × PyData)) (k : κ) : Option PyData := (kvs.find? fun kv => decide (kv.1 = k)).map (·.2)
def putD {κ : Type} [DecidableEq κ] (kvs : List (κ × PyData)) (k : κ) (d : PyData) : List (κ × PyData) :=
  if (kvs.any fun kv => decide (kv.1 = k)) = true then kvs.map (fun kv => if kv.1 = k then (kv.1, d) else kv) else kvs ++ [(k, d)]
def mergeD (kvs more : List (Key × PyData)) : List (Key × PyData) := more.foldl (fun acc kv => putD acc kv.1 kv.2) kvs
section
variable {κ : Type} [DecidableEq κ] {K : PySem.W.Frag} {Hz : Hp}
theorem KvR.nil : KvR K Hz ([] : List (κ × V)) [] := ⟨rfl, .nil⟩
theorem kv_cons {p : κ × V} {q : κ × PyData} {ks : List (κ × V)} {kvs : List (κ × PyData)} (h : KvR K Hz (p :: ks) (q :: kvs)) : p.1 = q.1 ∧ Dp K Hz p.2 q.2 ∧ KvR K Hz ks kvs := by
  obtain ⟨h1, h2⟩ := h
  simp only [List.map_cons, List.cons.injEq] at h1
  simp only [List.map_cons] at h2
  cases h2 with
  | cons a b => exact ⟨h1.1, a, h1.2, b⟩
theorem KvR.cons {p : κ × V} {q : κ × PyData} {ks : List (κ × V)} {kvs : List (κ × PyData)} (h1 : p.1 = q.1) (h2 : Dp K Hz p.2 q.2) (h : KvR K Hz ks kvs) : KvR K Hz (p :: ks) (q :: kvs) :=
  ⟨by simp only [List.map_cons, h1, h.1], .cons h2 h.2⟩
theorem KvR.val : ∀ {ks : List (κ × V)} {kvs : List (κ × PyData)} (h : KvR K Hz ks kvs) (k : κ), (valD kvs k = none ∧ valV ks k = none) ∨ ∃ v d, valD kvs k = some d ∧ valV ks k = some v ∧ Dp K Hz v d
  | [], [], h, k => .inl ⟨rfl, rfl⟩
  | [], _ :: _, h, k => by cases h.1
  | _ :: _, [], h, k => by cases h.1
  | p :: ks, q :: kvs, h, k => by
    obtain ⟨h1, h2, h3⟩ := kv_cons h
    by_cases c : p.1 = k
    · have c' : q.1 = k := by rw [← h1]; exact c
      refine .inr ⟨p.2, q.2, ?_, ?_, h2⟩
      · unfold valD
        rw [List.find?_cons_of_pos (by simpa using c')]
        rfl
      · unfold valV
        rw [List.find?_cons_of_pos (by simpa using c)]
        rfl
    · have c' : ¬ q.1 = k := by rw [← h1]; exact c
      have e1 : valD (q :: kvs) k = valD kvs k := by unfold valD; rw [List.find?_cons_of_neg (by simpa using c')]
      have e2 : valV (p :: ks) k = valV ks k := by unfold valV; rw [List.find?_cons_of_neg (by simpa using c)]
      rw [e1, e2]
      exact KvR.val h3 k
theorem KvR.any : ∀ {ks : List (κ × V)} {kvs : List (κ × PyData)} (h : KvR K Hz ks kvs) (k : κ), (ks.any fun kv => decide (kv.1 = k)) = kvs.any fun kv => decide (kv.1 = k)
  | [], [], h, k => rfl
  | [], _ :: _, h, k => by cases h.1
  | _ :: _, [], h, k => by cases h.1
  | p :: ks, q :: kvs, h, k => by
    obtain ⟨h1, h2, h3⟩ := kv_cons h
    rw [List.any_cons, List.any_cons, h1, KvR.any h3 k]
theorem KvR.map : ∀ {ks : List (κ × V)} {kvs : List (κ × PyData)} (h : KvR K Hz ks kvs) {k : κ} {v : V} {d : PyData}, Dp K Hz v d →
    KvR K Hz (ks.map fun kv => if kv.1 = k then (kv.1, v) else kv) (kvs.map fun kv => if kv.1 = k then (kv.1, d) else kv)
  | [], [], h, k, v, d, hd => .nil
  | [], _ :: _, h, k, v, d, hd => by cases h.1
  | _ :: _, [], h, k, v, d, hd => by cases h.1
  | p :: ks, q :: kvs, h, k, v, d, hd => by
    obtain ⟨h1, h2, h3⟩ := kv_cons h
    have ih := KvR.map h3 (k := k) hd
    rw [List.map_cons, List.map_cons]
    by_cases c : p.1 = k
    · rw [if_pos c, if_pos (h1 ▸ c)]
      exact .cons h1 hd ih
    · rw [if_neg c, if_neg (h1 ▸ c)]
      exact .cons h1 h2 ih
theorem KvR.app {ks ks' : List (κ × V)} {kvs kvs' : List (κ × PyData)} (h : KvR K Hz ks kvs) (h' : KvR K Hz ks' kvs') : KvR K Hz (ks ++ ks') (kvs ++ kvs') :=
  ⟨by rw [List.map_append, List.map_append, h.1, h'.1], by rw [List.map_append, List.map_append]; exact dps_app h.2 h'.2⟩
theorem KvR.put {ks : List (κ × V)} {kvs : List (κ × PyData)} (h : KvR K Hz ks kvs) (k : κ) {v : V} {d : PyData} (hd : Dp K Hz v d) : KvR K Hz (putK ks k v) (putD kvs k d) := by
  unfold putK putD
  rw [h.any k]
  split
  · exact h.map hd
  · exact h.app (.cons rfl hd .nil)
theorem KvR.len {ks : List (κ × V)} {kvs : List (κ × PyData)} (h : KvR K Hz ks kvs) : ks.length = kvs.length := by
  have := congrArg List.length h.1
  rwa [List.length_map, List.length_map] at this
theorem KvR.mono {Hz' : Hp} {ks : List (κ × V)} {kvs : List (κ × PyData)} (h : KvR K Hz ks kvs) (s : Same Hz Hz') : KvR K Hz' ks kvs := ⟨h.1, dps_mono s _ _ h.2⟩
end
theorem KvR.merge {K : PySem.W.Frag} {Hz : Hp} : ∀ {ms : List (Key × V)} {mds : List (Key × PyData)} {ks : List (Key × V)} {kvs : List (Key × PyData)}, KvR K Hz ms mds → KvR K Hz ks kvs → KvR K Hz (mergeK ks ms) (mergeD kvs mds)
  | [], [], _, _, _, h => h
  | [], _ :: _, _, _, h, _ => by cases h.1
  | _ :: _, [], _, _, h, _ => by cases h.1
  | p :: ms, q :: mds, ks, kvs, h, g => by
    obtain ⟨h1, h2, h3⟩ := kv_cons h
    show KvR K Hz (mergeK (putK ks p.1 p.2) ms) (mergeD (putD kvs q.1 q.2) mds)
    rw [h1]
    exact KvR.merge h3 (g.put _ h2)
/-- a key as data -/
def keyD : PyData → Option Key
  | .int i => some (.inl i)
  | .str x => some (.inr x)
  | _ => none
theorem key_dp {K : PySem.W.Frag} {Hz : Hp} {v : V} {d : PyData} {k : Key} (h : Dp K Hz v d) (e : keyD d = some k) : v = kV k := by
  cases h with
  | int i => cases e; rfl
  | str x => cases e; rfl
  | _ => cases e
theorem keyD_int {i : Int} : keyD (.int i) = some (.inl i) := rfl
theorem keyD_str {x : Str} : keyD (.str x) = some (.inr x) := rfl
def dkC : Option Cell → Option (List (Key × PyData))
  | some (.ob (.dK kvs)) => some kvs
  | _ => none
def dkG : Option (Option B) → Addr → Option (List (Key × PyData))
  | some (some (.gs G)), a => dkC (G a)
  | _, _ => none
/-- the dict of a value -/
def dkOf : Vl → En → Option (List (Key × PyData))
  | .ob (.dK kvs), _ => some kvs
  | .own i, e => match e[i]? with
    | some (some (.ob _ (.dK kvs))) => some kvs
    | _ => none
  | .gob n a, e => dkG e[n]? a
  | _, _ => none
theorem dk_gob {n : Nat} {a : Addr} {e : En} : dkOf (.gob n a) e = dkG e[n]? a := rfl
theorem dkG_gs {G : Gh} {a : Addr} : dkG (some (some (.gs G))) a = dkC (G a) := rfl
theorem dkC_dK {kvs : List (Key × PyData)} : dkC (some (.ob (.dK kvs))) = some kvs := rfl
def dkS : Option (Option B) → Option (List (Key × PyData))
  | some (some (.ob _ (.dK kvs))) => some kvs
  | _ => none
theorem dk_ob {kvs : List (Key × PyData)} {e : En} : dkOf (.ob (.dK kvs)) e = some kvs := rfl
theorem dk_own {i : Nat} {e : En} : dkOf (.own i) e = dkS e[i]? := by unfold dkOf dkS; rfl
theorem dkS_ob {t : Option Nat} {kvs : List (Key × PyData)} : dkS (some (some (.ob t (.dK kvs)))) = some kvs := rfl
section
variable {f : Fr} {td ty te : TE} {Ed Ey E : WE}
theorem Sy.dk {L e : En} {W σ : St} {Hz H : Hp} {b : Vl} {v : V} {kvs : List (Key × PyData)} (y : Sy f (tmp b L) (tmv b v W) e σ Hz H) (hv : Val f b v σ Hz) (h : dkOf b e = some kvs) : ∃ a ks, v = .ref a ∧ H a = some (.dK ks) ∧ KvR f.K Hz ks kvs := by
  cases b with
  | dat d' => cases h
  | ob o =>
    cases o with
    | dK ds =>
      cases h
      obtain ⟨a, ea, ⟨xs, h1, h2⟩, _⟩ := Sy.top y
      cases ea
      exact ⟨a, xs, rfl, h1, h2⟩
    | _ => cases h
  | own i =>
    rw [dk_own] at h
    generalize q : e[i]? = x at h
    unfold dkS at h
    split at h
    · cases h
      obtain ⟨a, e1, ⟨xs, h1, h2⟩, _⟩ := y.ob q
      have hv' : σ[i]? = some (some v) := hv
      rw [hv'] at e1
      cases e1
      exact ⟨a, xs, rfl, h1, h2⟩
    · cases h
  | gob n a =>
    have hv' : v = .ref a := hv
    subst hv'
    rw [dk_gob] at h
    generalize q : e[n]? = x at h
    unfold dkG at h
    split at h
    · rename_i G
      generalize q2 : G a = c at h
      unfold dkC at h
      split at h
      · cases h
        obtain ⟨ks, h1, h2⟩ := (Sy.gget (Sy.un (b := .gob n a) y) q q2).1
        exact ⟨a, ks, rfl, h1, h2⟩
      · cases h
    · cases h
def wDNewK (e : En) (P : Vl → En → Prop) : Prop := P (.ob (.dK [])) e
theorem se_dnewK : SE f tDNewK wDNewK := ⟨fun {L W e σ Hz H Post Q} w y k p hp => k _ _ _ _ _ w same_refl (y.newO (o := .dK []) hp ⟨[], upd_same, .nil⟩) trivial⟩
/-- d[k] -/
def wDGet (Ed Ey : WE) (e : En) (P : Vl → En → Prop) : Prop := Ed e fun b e1 => wFz Ey e1 fun d e2 => ob1 (keyD d) fun k => ob1 (dkOf b e2) fun kvs => ob1 (valD kvs k) fun d => P (.dat d) e2
theorem se_dget (hd : SE f td Ed) (hy : SE f ty Ey) : SE f (tDGet td ty) (wDGet Ed Ey) := ⟨fun {L W e σ Hz H Post Q} w y k => hd.run w y fun b e1 v Hz1 H1 w1 s1 y1 l1 => fz_run hy w1 y1 fun d e2 v2 Hz2 H2 w2 s2 y2 d2 => by
  obtain ⟨ky, c1, w2⟩ := ob1_ex w2
  obtain ⟨kvs, c2, w2⟩ := ob1_ex w2
  obtain ⟨dv, c3, w2⟩ := ob1_ex w2
  obtain ⟨a, ks, rfl, h1, h2⟩ := y2.dk (l1.mono s2) c2
  rcases h2.val ky with ⟨q1, q2⟩ | ⟨v', d', q1, q2, q3⟩
  · rw [q1] at c3; cases c3
  · rw [q1] at c3
    cases c3
    rw [key_dp d2 c1]
    exact ⟨a, v', rfl, by rw [← q2]; exact DGet.k h1, k _ _ _ _ _ w2 (same_trans s1 s2) y2.un q3⟩⟩
/-- k in d, k not in d -/
def wDIn (neg : Bool) (Ey Ed : WE) (e : En) (P : Vl → En → Prop) : Prop := wFz Ey e fun d e1 => Ed e1 fun b e2 => ob1 (keyD d) fun k => ob1 (dkOf b e2) fun kvs => P (.dat (.bool (if neg then !(valD kvs k).isSome else (valD kvs k).isSome))) e2
theorem val_isSome {κ : Type} [DecidableEq κ] {K : PySem.W.Frag} {Hz : Hp} {ks : List (κ × V)} {kvs : List (κ × PyData)} (h : KvR K Hz ks kvs) (k : κ) : (valV ks k).isSome = (valD kvs k).isSome := by
  rcases h.val k with ⟨q1, q2⟩ | ⟨v', d', q1, q2, q3⟩
  · rw [q1, q2]; rfl
  · rw [q1, q2]; rfl
theorem se_din (hy : SE f ty Ey) (hd : SE f td Ed) : SE f (tDIn ty td) (wDIn false Ey Ed) := ⟨fun {L W e σ Hz H Post Q} w y k => fz_run hy w y fun d e1 v Hz1 H1 w1 s1 y1 d1 => hd.run w1 y1 fun b e2 v2 Hz2 H2 w2 s2 y2 l2 => by
  obtain ⟨ky, c1, w2⟩ := ob1_ex w2
  obtain ⟨kvs, c2, w2⟩ := ob1_ex w2
  obtain ⟨a, ks, rfl, h1, h2⟩ := y2.dk l2 c2
  rw [key_dp d1 c1]
  refine ⟨a, _, rfl, DGet.k h1, ?_⟩
  rw [val_isSome h2]
  exact k _ _ _ _ _ w2 (same_trans s1 s2) y2.un (Dp.bl _)⟩
theorem se_dnotin (hy : SE f ty Ey) (hd : SE f td Ed) : SE f (tDNotIn ty td) (wDIn true Ey Ed) := ⟨fun {L W e σ Hz H Post Q} w y k => fz_run hy w y fun d e1 v Hz1 H1 w1 s1 y1 d1 => hd.run w1 y1 fun b e2 v2 Hz2 H2 w2 s2 y2 l2 => by
  obtain ⟨ky, c1, w2⟩ := ob1_ex w2
  obtain ⟨kvs, c2, w2⟩ := ob1_ex w2
  obtain ⟨a, ks, rfl, h1, h2⟩ := y2.dk l2 c2
  rw [key_dp d1 c1]
  refine ⟨a, _, rfl, DGet.k h1, ?_⟩
  rw [val_isSome h2]
  exact k _ _ _ _ _ w2 (same_trans s1 s2) y2.un (Dp.bl _)⟩
/-- d[k] = v, d the dict of a slot -/
def putS (P : Po) (j : Nat) (k : Key) (d : PyData) (e : En) : Option (Option B) → Prop
  | some (some (.ob t (.dK kvs))) => kvs.length ≤ 100000 ∧ P.nx (e.set j (some (.ob t (.dK (putD kvs k d)))))
  | _ => False
theorem putS_ob {P : Po} {j : Nat} {k : Key} {d : PyData} {e : En} {t : Option Nat} {kvs : List (Key × PyData)} : putS P j k d e (some (some (.ob t (.dK kvs)))) = (kvs.length ≤ 100000 ∧ P.nx (e.set j (some (.ob t (.dK (putD kvs k d)))))) := rfl
theorem var_run {L e : En} {W σ : St} {Hz H : Hp} {j : Nat} {P : Vl → En → Prop} (w : wVar j e P) (y : Sy f L W e σ Hz H) : ∃ v b, σ[j]? = some (some v) ∧ P b e := by
  unfold wVar at w
  generalize q : e[j]? = x at w
  unfold vrS at w
  split at w
  · obtain ⟨v', e1', e2⟩ := y.get q
    exact ⟨v', _, e1', w⟩
  · obtain ⟨v', e1', e2⟩ := y.ob q
    exact ⟨_, _, e1', w⟩
  · exact w.elim
def wDPut (j : Nat) (Ey Ev : WE) (P : Po) (e : En) : Prop := wFz Ev e fun d e1 => wVar j e1 fun _ e1 => wFz Ey e1 fun dk e2 => ob1 (keyD dk) fun k => putS P j k d e2 e2[j]?
theorem ss_dput {j : Nat} (hy : SE f ty Ey) (hv : SE f te E) : SS f (sDPut (tVar j) ty te) (wDPut j Ey E) := ⟨fun {D P e σ Hz H} w y o => fz_run hv w y fun d e1 v Hz1 H1 w1 s1 y1 d1 => by
  obtain ⟨vd, b, hvd, w1⟩ := var_run w1 y1
  refine ⟨vd, hvd, fz_run hy w1 y1 fun dk e2 v2 Hz2 H2 w2 s2 y2 d2 => ?_⟩
  obtain ⟨ky, c1, w2⟩ := ob1_ex w2
  generalize q : e2[j]? = x at w2
  unfold putS at w2
  split at w2
  · obtain ⟨a, h1, ⟨ks, h2, h3⟩, h4⟩ := y2.ob q
    rw [hvd] at h1
    cases h1
    rw [key_dp d2 c1]
    exact ⟨a, _, rfl, DPut.k h2 (line_lt (by rw [h3.len]; exact w2.1)), o.nx w2.2 (same_trans s1 s2) (y2.wr q hvd ⟨_, upd_same, h3.put _ (dp_mono s2 _ _ d1)⟩)⟩
  · exact w2.elim⟩
/-- d.get(k), d.get(k, x), d the dict of a slot -/
def get1S (P : Vl → En → Prop) (k : Key) (e : En) : Option (Option B) → Prop
  | some (some (.ob _ (.dK kvs))) => P (.dat ((valD kvs k).getD .none)) e
  | _ => False
theorem get1S_ob {P : Vl → En → Prop} {k : Key} {e : En} {t : Option Nat} {kvs : List (Key × PyData)} : get1S P k e (some (some (.ob t (.dK kvs)))) = P (.dat ((valD kvs k).getD .none)) e := rfl
/-- {k: v, ..} -/
def wPairs : List (WE × WE) → En → (List (PyData × PyData) → En → Prop) → Prop
  | [], e, P => P [] e
  | (Ek, Ev) :: r, e, P => wFz Ek e fun k e1 => wFz Ev e1 fun v e2 => wPairs r e2 fun ps e3 => P ((k, v) :: ps) e3
inductive SP (f : Fr) : List (TE × TE) → List (WE × WE) → Prop
  | nil : SP f [] []
  | cons {tk tv : TE} {Ek Ev : WE} {trs : List (TE × TE)} {Es : List (WE × WE)} : SE f tk Ek → SE f tv Ev → SP f trs Es → SP f ((tk, tv) :: trs) ((Ek, Ev) :: Es)
theorem SP.run {trs : List (TE × TE)} {Es : List (WE × WE)} (h : SP f trs Es) : ∀ {L W e σ Hz H Post Q}, wPairs Es e Post → Sy f L W e σ Hz H →
    (∀ ps e' vs Hz' H', Post ps e' → Same Hz Hz' → Sy f L W e' σ Hz' H' → DpAll f.K Hz' (vs.map (·.1)) (ps.map (·.1)) → DpAll f.K Hz' (vs.map (·.2)) (ps.map (·.2)) → Q vs H') → tPairs trs σ H Q := by
  induction h with
  | nil => intro L W e σ Hz H Post Q w y k; exact k _ _ _ _ _ w same_refl y .nil .nil
  | cons h1 h2 _ ih =>
    intro L W e σ Hz H Post Q w y k
    exact fz_run h1 w y fun d1 e1 v1 Hz1 H1 w1 s1 y1 q1 => fz_run h2 w1 y1 fun d2 e2 v2 Hz2 H2 w2 s2 y2 q2 => ih w2 y2 fun ps e3 vs Hz3 H3 w3 s3 y3 q3 q4 =>
      k _ _ _ _ _ w3 (same_trans s1 (same_trans s2 s3)) y3 (.cons (dp_mono (same_trans s2 s3) _ _ q1) q3) (.cons (dp_mono s3 _ _ q2) q4)
def keysD : List (PyData × PyData) → Option (List (Key × PyData))
  | [] => some []
  | (k, v) :: r => match keyD k, keysD r with
    | some k, some r => some ((k, v) :: r)
    | _, _ => none
theorem keys_dp {K : PySem.W.Frag} {Hz : Hp} : ∀ {ps : List (PyData × PyData)} {vs : List (V × V)} {kvs : List (Key × PyData)}, DpAll K Hz (vs.map (·.1)) (ps.map (·.1)) → DpAll K Hz (vs.map (·.2)) (ps.map (·.2)) → keysD ps = some kvs →
    ∃ ks : List (Key × V), vs = ks.map (fun kv => (kV kv.1, kv.2)) ∧ KvR K Hz ks kvs ∧ ks.length = ps.length
  | [], [], kvs, _, _, e => by cases e; exact ⟨[], rfl, .nil, rfl⟩
  | [], _ :: _, kvs, h, _, e => by cases h
  | _ :: _, [], kvs, h, _, e => by cases h
  | (k, v) :: ps, (x, y) :: vs, kvs, h1, h2, e => by
    simp only [List.map_cons] at h1 h2
    cases h1 with
    | cons a1 a2 =>
      cases h2 with
      | cons b1 b2 =>
        unfold keysD at e
        cases c : keyD k with
        | none => rw [c] at e; simp at e
        | some ky =>
          cases c2 : keysD ps with
          | none => rw [c, c2] at e; simp at e
          | some r =>
            rw [c, c2] at e
            cases e
            obtain ⟨ks, e1, e2, e3⟩ := keys_dp a2 b2 c2
            refine ⟨(ky, y) :: ks, ?_, .cons rfl b1 e2, by simp [e3]⟩
            rw [e1, key_dp a1 c]
            rfl
def wDisp (Es : List (WE × WE)) (e : En) (P : Vl → En → Prop) : Prop := wPairs Es e fun ps e1 => ob1 (keysD ps) fun kvs => ps.length ≤ 15 ∧ P (.ob (.dK (mergeD [] kvs))) e1
theorem se_disp {trs : List (TE × TE)} {Es : List (WE × WE)} (h : SP f trs Es) : SE f (tDisp trs) (wDisp Es) := ⟨fun {L W e σ Hz H Post Q} w y k p hp => by
  have y0 := y.newO (o := .dK []) (u := .dK []) hp ⟨[], upd_same, .nil⟩
  refine h.run w y0 fun ps e1 vs Hz1 H1 w1 s1 y1 q1 q2 => ?_
  obtain ⟨kvs, c, w1⟩ := ob1_ex w1
  obtain ⟨ks, e2, e3, e4⟩ := keys_dp q1 q2 c
  obtain ⟨a, ea, ⟨xs, h1, h2⟩, _⟩ := y1.top
  cases ea
  have hx : xs = [] := by
    have := h2.len
    cases xs with
    | nil => rfl
    | cons _ _ => simp at this
  rw [hx] at h1
  exact ⟨h1, ks, e2, by rw [e4]; exact w1.1, k _ _ _ _ _ w1.2 s1 (y1.wrT (o' := .dK (mergeD [] kvs)) ⟨_, upd_same, e3.merge .nil⟩) trivial⟩⟩
end
/-! ### dicts with tuple keys -/
def keyT : PyData → Option NestedKey
  | .tuple ds => (keysN ds).map NestedKey.tup
  | _ => none
theorem keyT_ref {K : PySem.W.Frag} {Hz : Hp} {v : V} {d : PyData} {k : NestedKey} (h : Dp K Hz v d) (e : keyT d = some k) (hk : k.depth ≤ 8) : ∃ b, v = .ref b ∧ KeyAt K Hz b k := by
  cases d with
  | tuple ds =>
    obtain ⟨a, xs, rfl, h1, h2⟩ := dp_tup h
    exact ⟨a, rfl, _, by unfold keyN; exact e, .tup h1 h2, hk⟩
  | _ => cases e
abbrev nk (a b : Int) : NestedKey := .tup [.num a, .num b]
theorem keyT_2 (a b : Int) : keyT (.tuple [.int a, .int b]) = some (nk a b) := by simp [keyT, keysN, keyN]
theorem nk_depth (a b : Int) : (nk a b).depth ≤ 8 := by simp [NestedKey.depth, NestedKey.depthAll]
theorem nk_inj {a b c d : Int} : nk a b = nk c d ↔ a = c ∧ b = d := by simp
/-- the dict of a value -/
def dnS (P : Program) (w : World) (x : Option (Option B)) (g : List (NestedKey × PyData) → Prop) : Prop := ∃ t kvs, x = some (some (.ob t (.dN P w kvs))) ∧ g kvs
theorem dnS_ob {P : Program} {w : World} {t : Option Nat} {kvs : List (NestedKey × PyData)} {g : List (NestedKey × PyData) → Prop} : dnS P w (some (some (.ob t (.dN P w kvs)))) g = g kvs := by
  unfold dnS
  apply propext
  constructor
  · rintro ⟨t', kvs', e, h⟩
    cases e
    exact h
  · intro h
    exact ⟨t, kvs, rfl, h⟩
section
variable {f : Fr} {P : Program} {w : World} {td ty te tx : TE} {Ed Ey E Ex : WE}
def wNNew (P : Program) (w : World) (e : En) (Q : Vl → En → Prop) : Prop := Q (.ob (.dN P w [])) e
theorem se_nnew : SE f (tNNew P w) (wNNew P w) := ⟨fun {L W e σ Hz H Post Q} wp y k p hp => k _ _ _ _ _ wp same_refl (y.newO (o := .dN P w []) hp ⟨[], upd_same, (fun _ h => by cases h), .nil⟩) trivial⟩
theorem kn_val {K : PySem.W.Frag} {Hz : Hp} {ks : NEs} {kvs : List (NestedKey × PyData)} (h : KvR K Hz (ks.map fun e => (e.1, e.2.2)) kvs) (k : NestedKey) : (valD kvs k = none ∧ valN ks k = none) ∨ ∃ v d, valD kvs k = some d ∧ valN ks k = some v ∧ Dp K Hz v d := by
  have e : valV (ks.map fun e => (e.1, e.2.2)) k = valN ks k := by
    unfold valV valN
    rw [List.find?_map, Option.map_map]
    rfl
  rcases h.val k with ⟨q1, q2⟩ | ⟨v, d, q1, q2, q3⟩
  · exact .inl ⟨q1, by rw [← e]; exact q2⟩
  · exact .inr ⟨v, d, q1, by rw [← e]; exact q2, q3⟩
theorem keys_same {K : PySem.W.Frag} {Hz H : Hp} {ks : NEs} (h : KeysAt K Hz ks) (s : Same Hz H) : KeysAt K H ks := fun e he => (h e he).mono s
/-- d[k], d of slot j -/
def wNGet (P : Program) (w : World) (j : Nat) (Ey : WE) (e : En) (Q : Vl → En → Prop) : Prop := wVar j e fun _ e => wFz Ey e fun d e2 => ob1 (keyT d) fun k => k.depth ≤ 8 ∧ dnS P w e2[j]? fun kvs => ob1 (valD kvs k) fun d => Q (.dat d) e2
theorem se_nget {j : Nat} (hy : SE f ty Ey) : SE f (tNGet f.K P w (tVar j) ty) (wNGet P w j Ey) := ⟨fun {L W e σ Hz H Post Q} wp y k => by
  obtain ⟨vd, b0, hvd, w1⟩ := var_run wp y
  refine ⟨vd, hvd, fz_run hy w1 y fun d e2 v2 Hz2 H2 w2 s2 y2 d2 => ?_⟩
  obtain ⟨ky, c1, hk, t, kvs, q, w2⟩ := ob1_ex w2
  obtain ⟨dv, c3, w2⟩ := ob1_ex w2
  obtain ⟨a, h1, ⟨ks, h2, h3, h4⟩, _⟩ := y2.ob q
  rw [hvd] at h1
  cases h1
  obtain ⟨b, rfl, hb⟩ := keyT_ref d2 c1 hk
  rcases kn_val h4 ky with ⟨q1, q2⟩ | ⟨v', d', q1, q2, q3⟩
  · rw [q1] at c3; cases c3
  · rw [q1] at c3
    cases c3
    exact ⟨a, ks, b, ky, v', rfl, ⟨rfl, h2, keys_same h3 y2.sm, hb.mono y2.sm⟩, q2, k _ _ _ _ _ w2 s2 y2 q3⟩⟩
/-- k in d, k not in d -/
def wNIn (P : Program) (w : World) (neg : Bool) (Ey : WE) (j : Nat) (e : En) (Q : Vl → En → Prop) : Prop := wFz Ey e fun d e1 => wVar j e1 fun _ e2 => ob1 (keyT d) fun k => k.depth ≤ 8 ∧ dnS P w e2[j]? fun kvs => Q (.dat (.bool (if neg then !(valD kvs k).isSome else (valD kvs k).isSome))) e2
theorem kn_some {K : PySem.W.Frag} {Hz : Hp} {ks : NEs} {kvs : List (NestedKey × PyData)} (h : KvR K Hz (ks.map fun e => (e.1, e.2.2)) kvs) (k : NestedKey) : (valN ks k).isSome = (valD kvs k).isSome := by
  rcases kn_val h k with ⟨q1, q2⟩ | ⟨v, d, q1, q2, q3⟩
  · rw [q1, q2]; rfl
  · rw [q1, q2]; rfl
theorem se_nin {j : Nat} (hy : SE f ty Ey) : SE f (tNIn f.K P w ty (tVar j)) (wNIn P w false Ey j) := ⟨fun {L W e σ Hz H Post Q} wp y k => fz_run hy wp y fun d e1 v Hz1 H1 w1 s1 y1 d1 => by
  obtain ⟨vd, b0, hvd, w1⟩ := var_run w1 y1
  refine ⟨vd, hvd, ?_⟩
  obtain ⟨ky, c1, hk, t, kvs, q, w2⟩ := ob1_ex w1
  obtain ⟨a, h1, ⟨ks, h2, h3, h4⟩, _⟩ := y1.ob q
  rw [hvd] at h1
  cases h1
  obtain ⟨b, rfl, hb⟩ := keyT_ref d1 c1 hk
  refine ⟨a, ks, b, ky, rfl, ⟨rfl, h2, keys_same h3 y1.sm, hb.mono y1.sm⟩, ?_⟩
  rw [kn_some h4]
  exact k _ _ _ _ _ w2 s1 y1 (Dp.bl _)⟩
theorem se_nnotin {j : Nat} (hy : SE f ty Ey) : SE f (tNNotIn f.K P w ty (tVar j)) (wNIn P w true Ey j) := ⟨fun {L W e σ Hz H Post Q} wp y k => fz_run hy wp y fun d e1 v Hz1 H1 w1 s1 y1 d1 => by
  obtain ⟨vd, b0, hvd, w1⟩ := var_run w1 y1
  refine ⟨vd, hvd, ?_⟩
  obtain ⟨ky, c1, hk, t, kvs, q, w2⟩ := ob1_ex w1
  obtain ⟨a, h1, ⟨ks, h2, h3, h4⟩, _⟩ := y1.ob q
  rw [hvd] at h1
  cases h1
  obtain ⟨b, rfl, hb⟩ := keyT_ref d1 c1 hk
  refine ⟨a, ks, b, ky, rfl, ⟨rfl, h2, keys_same h3 y1.sm, hb.mono y1.sm⟩, ?_⟩
  rw [kn_some h4]
  exact k _ _ _ _ _ w2 s1 y1 (Dp.bl _)⟩
/-- d[k] = v -/
def wNPut (P : Program) (w : World) (j : Nat) (Ey Ev : WE) (Q : Po) (e : En) : Prop := wFz Ev e fun d e1 => wVar j e1 fun _ e1 => wFz Ey e1 fun dk e2 => ob1 (keyT dk) fun k => k.depth ≤ 8 ∧ ∃ t kvs, e2[j]? = some (some (.ob t (.dN P w kvs))) ∧ kvs.length ≤ 100000 ∧ Q.nx (e2.set j (some (.ob t (.dN P w (putD kvs k d)))))
theorem putN_map (ks : NEs) (k : NestedKey) (b : Addr) (v : V) : (putN ks k b v).map (fun e => (e.1, e.2.2)) = putK (ks.map fun e => (e.1, e.2.2)) k v := by
  unfold putN putK
  have e : ((ks.map fun e => (e.1, e.2.2)).any fun kv => decide (kv.1 = k)) = ks.any fun e => decide (e.1 = k) := by rw [List.any_map]; rfl
  rw [e]
  split
  · rw [List.map_map, List.map_map]
    refine List.map_congr_left fun x _ => ?_
    show (fun e : NestedKey × Addr × V => (e.1, e.2.2)) (if x.1 = k then (x.1, x.2.1, v) else x) = if x.1 = k then (x.1, v) else (x.1, x.2.2)
    split <;> rfl
  · rw [List.map_append]
    rfl
theorem putN_keys {K : PySem.W.Frag} {Hz : Hp} {ks : NEs} {k : NestedKey} {b : Addr} {v : V} (h : KeysAt K Hz ks) (hk : KeyAt K Hz b k) : KeysAt K Hz (putN ks k b v) := by
  unfold putN
  split
  · intro e he
    obtain ⟨x, hx, rfl⟩ := List.mem_map.mp he
    have := h x hx
    split
    · exact this
    · exact this
  · intro e he
    rcases List.mem_append.mp he with q | q
    · exact h e q
    · rw [List.mem_singleton] at q
      rw [q]
      exact hk
theorem ss_nput {j : Nat} (hy : SE f ty Ey) (hv : SE f te E) : SS f (sNPut f.K P w (tVar j) ty te) (wNPut P w j Ey E) := ⟨fun {D Q e σ Hz H} wp y o => fz_run hv wp y fun d e1 v Hz1 H1 w1 s1 y1 d1 => by
  obtain ⟨vd, b, hvd, w1⟩ := var_run w1 y1
  refine ⟨vd, hvd, fz_run hy w1 y1 fun dk e2 v2 Hz2 H2 w2 s2 y2 d2 => ?_⟩
  obtain ⟨ky, c1, hk, t, kvs, q, hl, w2⟩ := ob1_ex w2
  obtain ⟨a, h1, ⟨ks, h2, h3, h4⟩, _⟩ := y2.ob q
  rw [hvd] at h1
  cases h1
  obtain ⟨b', rfl, hb⟩ := keyT_ref d2 c1 hk
  have hlen := h4.len
  rw [List.length_map] at hlen
  refine ⟨a, ks, b', ky, rfl, ⟨rfl, h2, keys_same h3 y2.sm, hb.mono y2.sm⟩, line_lt (by omega), o.nx w2 (same_trans s1 s2) (y2.wr q hvd ⟨_, upd_same, putN_keys h3 hb, ?_⟩)⟩
  rw [putN_map]
  exact h4.put _ (dp_mono s2 _ _ d1)⟩
/-- d.get(k, x) -/
def wNGet2 (P : Program) (w : World) (j : Nat) (Ey Ex : WE) (e : En) (Q : Vl → En → Prop) : Prop := dnS P w e[j]? fun _ => wFz Ey e fun d e2 => wFz Ex e2 fun dx e3 => ob1 (keyT d) fun k => k.depth ≤ 8 ∧ dnS P w e3[j]? fun kvs => Q (.dat ((valD kvs k).getD dx)) e3
theorem se_nget2 {j : Nat} (hy : SE f ty Ey) (hx : SE f tx Ex) : SE f (tNGet2 f.K P w (tVar j) ty tx) (wNGet2 P w j Ey Ex) := ⟨fun {L W e σ Hz H Post Q} wp y k => by
  obtain ⟨t, kvs0, q0, w1⟩ := wp
  obtain ⟨a, h1, ⟨ks0, h2, h3, h4⟩, _⟩ := y.ob q0
  refine ⟨_, h1, a, ks0, rfl, ⟨h2, keys_same h3 y.sm⟩, fz_run hy w1 y fun d e2 v2 Hz2 H2 w2 s2 y2 d2 => fz_run hx w2 y2 fun dx e3 v3 Hz3 H3 w3 s3 y3 d3 => ?_⟩
  obtain ⟨ky, c1, hk, t, kvs, q, w3⟩ := ob1_ex w3
  obtain ⟨a', g1, ⟨ks, g2, g3, g4⟩, _⟩ := y3.ob q
  rw [h1] at g1
  cases g1
  obtain ⟨b, rfl, hb⟩ := keyT_ref (dp_mono s3 _ _ d2) c1 hk
  refine ⟨ks, b, ky, ⟨rfl, g2, keys_same g3 y3.sm, hb.mono y3.sm⟩, ?_⟩
  rcases kn_val g4 ky with ⟨q1, q2⟩ | ⟨v', d', q1, q2, q3⟩
  · rw [q1] at w3
    rw [q2]
    exact k _ _ _ _ _ w3 (same_trans s2 s3) y3 d3
  · rw [q1] at w3
    rw [q2]
    exact k _ _ _ _ _ w3 (same_trans s2 s3) y3 q3⟩
end
/-! ### the law -/
def spLaw (K : PySem.W.Frag) : Sp := fun vs H Q _ => ∃ (a : Addr) (ns : List Int), vs = [.ref a] ∧ SqL K H a (ns.map V.int) ∧ ns.length ≤ 63 ∧ ∀ H', Q (.bl true) H'
def F_law : FSp := fun args P => ∃ ns : List Int, args = [some (.dat (.list (ns.map PyData.int)))] ∧ ns.length ≤ 63 ∧ P (.dat (.bool true)) [none]
theorem law_imp {K : PySem.W.Frag} (vs : List V) (H : Hp) (Q : VK) (E : XK) (h : spLaw K vs H Q E) : spD K F_law vs H Q E := by
  obtain ⟨a, ns, rfl, hS, hl, q⟩ := h
  refine ⟨[some (.dat (.list (ns.map PyData.int)))], [], H, fun b outs => b = .dat (.bool true) ∧ outs = [none], ⟨⟨[], [], .nil, .dat (.lst hS (ints_dps ns)) .nil, List.nodup_nil, fun a ha => by cases ha⟩, same_refl, same_refl, fun b h => .inl h, fun b u _ h => h, fun b h => h, (fun a ha => by cases ha), fun b u h _ => h, rfl⟩, rfl, ⟨ns, rfl, hl, rfl, rfl⟩, ?_⟩
  rintro b outs ⟨rfl, rfl⟩ v Hz' H' y' l'
  obtain rfl := val_bool l'
  exact q H'
/-- the law with shared objects: none at its start -/
def F_lawG : GSp := fun args G P => ∃ ns : List Int, args = [some (.dat (.list (ns.map PyData.int)))] ∧ G = (fun _ => none) ∧ ns.length ≤ 63 ∧ ∀ G', P (.dat (.bool true)) [none] G'
theorem law_impG {K : PySem.W.Frag} (vs : List V) (H : Hp) (Q : VK) (E : XK) (h : spLaw K vs H Q E) : spG K F_lawG vs H Q E := by
  obtain ⟨a, ns, rfl, hS, hl, q⟩ := h
  refine ⟨[some (.dat (.list (ns.map PyData.int)))], fun _ => none, [], H, fun b outs G => b = .dat (.bool true) ∧ outs = [none], ⟨⟨[], [], .nil, .dat (.lst hS (ints_dps ns)) (.gs [] rfl ⟨fun p hp => (by cases hp), fun p hp => by cases hp⟩), List.nodup_nil, fun a ha => by cases ha⟩, same_refl, same_refl, fun b h => .inl h, fun b u _ h => h, fun b h => h, (fun a ha => by cases ha), fun b u h _ => h, rfl⟩, rfl, ⟨ns, rfl, rfl, hl, fun _ => ⟨rfl, rfl⟩⟩, ?_⟩
  rintro b outs G' ⟨rfl, rfl⟩ _ v Hz' H' y' l'
  obtain rfl := val_bool l'
  exact q H'
theorem isRow_new {ns : List Int} {s : Int} (h : ns.length ≤ 63) : IsRow (.lst [.list (ns.map PyData.int), .int 0, .int s, .int 0]) := ⟨ns, 0, s, 0, rfl, h, Int.le_refl 0⟩
end DL


set_option Elab.async false
set_option linter.all false
set_option maxRecDepth 100000
set_option maxHeartbeats 4000000
/-! Comprehensions with two fors, lists times an int, over the layer of values. -/
namespace DL
open PySem L2 TG
theorem wipe_sub {σ : L2.St} {vs vs1 : List Nat} (h : ∀ i ∈ vs1, i ∈ vs) : wipe (wipe σ vs1) vs = wipe σ vs := by
  refine wipe_congr (wipe_length _ _) fun n hn => ?_
  rw [wipe_get, if_neg (fun c => hn (h n c.1))]
/-- the inner turns -/
def Lc2I (Gt1 : WG) (T1 : WT) (E : WE) (vs1 : List Nat) (acc : List PyData) (out : List PyData → En → Prop) (its1 : List PyData) (e5 : En) : Prop := ∃ Inv1 : Nat → List PyData → En → Prop, Inv1 0 acc (wipeE e5 vs1) ∧
  (∀ j d1 acc1 e6, its1[j]? = some d1 → Inv1 j acc1 e6 → acc1.length ≤ 100000 ∧ Gt1 (.dat d1) e6 fun e7 => T1 e7 fun b e8 => if b = true then wFz E e8 fun y e9 => Inv1 (j + 1) (acc1 ++ [y]) (wipeE e9 vs1) else Inv1 (j + 1) acc1 (wipeE e8 vs1)) ∧
  ∀ acc1 e6, Inv1 its1.length acc1 e6 → out acc1 e6
def Lc2B (Gt : WG) (T : WT) (G1 : WI) (Gt1 : WG) (T1 : WT) (E : WE) (vs vs1 : List Nat) (P : Vl → En → Prop) (its : List PyData) (e1 : En) : Prop := ∃ Inv : Nat → List PyData → En → Prop, Inv 0 [] (wipeE e1 vs) ∧
  (∀ i d acc e2, its[i]? = some d → Inv i acc e2 → Gt (.dat d) e2 fun e3 => T e3 fun b e4 => if b = true then G1 e4 (Lc2I Gt1 T1 E vs1 acc fun acc1 e6 => Inv (i + 1) acc1 (wipeE e6 vs)) else Inv (i + 1) acc (wipeE e4 vs)) ∧
  ∀ acc e2, Inv its.length acc e2 → e2.length = e1.length ∧ P (.ob (.lst acc)) (back e1 vs (wipeE e2 vs))
def wLc2 (G : WI) (Gt : WG) (T : WT) (G1 : WI) (Gt1 : WG) (T1 : WT) (E : WE) (vs vs1 : List Nat) (e : En) (P : Vl → En → Prop) : Prop := G e (Lc2B Gt T G1 Gt1 T1 E vs vs1 P)
theorem lc2_use {G : WI} {Gt : WG} {T : WT} {G1 : WI} {Gt1 : WG} {T1 : WT} {E : WE} {vs vs1 : List Nat} {e : En} {P : Vl → En → Prop} (h : G e (Lc2B Gt T G1 Gt1 T1 E vs vs1 P)) : wLc2 G Gt T G1 Gt1 T1 E vs vs1 e P := h
section
variable {f : Fr} {te : TE} {E : WE} {tt tt1 : TT} {T T1 : WT} {wi wi1 : TI} {G G1 : WI} {g g1 : TG} {Gt Gt1 : WG} {sl sl1 : List Nat}
theorem se_lc2 {vs vs1 : List Nat} (hi : SI f wi G) (hg : SG f g Gt sl) (ht : ST f tt T) (hi1 : SI f wi1 G1) (hg1 : SG f g1 Gt1 sl1) (ht1 : ST f tt1 T1) (he : SE f te E) (hv : ∀ i ∈ sl, i ∈ vs) (hv1 : ∀ i ∈ sl1, i ∈ vs1) (hvv : ∀ i ∈ vs1, i ∈ vs) (hn : vs.all (fun v => Nat.blt v f.n) = true := by rfl) (hn1 : vs1.all (fun v => Nat.blt v f.n) = true := by rfl) :
    SE f (tLc2 wi g tt wi1 g1 tt1 te vs vs1) (wLc2 G Gt T G1 Gt1 T1 E vs vs1) := ⟨fun {L W e σ Hz H Post Q} w y k => hi.run w y fun J its e1 Hz1 H1 w1 s1 y1 hw D hD => by
  have hb : ∀ v ∈ vs, v < f.n := fun v h => Nat.le_of_ble_eq_true (List.all_eq_true.mp hn v h)
  have hb1 : ∀ v ∈ vs1, v < f.n := fun v h => Nat.le_of_ble_eq_true (List.all_eq_true.mp hn1 v h)
  obtain ⟨Inv, i0, step, fin⟩ := w1
  have ys : Sy f (some (.ob none (.lst [])) :: L) (some (.ref D) :: W) (wipeE e1 vs) (wipe σ vs) Hz1 (upd H1 D (.lst [])) := (y1.newO (o := .lst []) hD ⟨[], upd_same, .nil⟩).wiped vs hb
  refine ⟨fun i m H => m = its.length - i ∧ i ≤ its.length ∧ ∃ acc e Hz, Inv i acc e ∧ Same Hz1 Hz ∧ Sy f (some (.ob none (.lst acc)) :: L) (some (.ref D) :: W) e (wipe σ vs) Hz H,
    ⟨its.length, rfl, Nat.zero_le _, [], _, Hz1, i0, same_refl, ys⟩, ?_⟩
  rintro i m H ⟨rfl, hi', acc, e2, Hz2, i2, s2, y2⟩
  by_cases hlt : i < its.length
  · refine .inr ⟨hw.go i H hlt (same_trans s2 y2.sm), fun H' => ∃ acc e Hz, Inv (i + 1) acc e ∧ Same Hz1 Hz ∧ Sy f (some (.ob none (.lst acc)) :: L) (some (.ref D) :: W) e (wipe σ vs) Hz H',
      fun H' ⟨acc, e, Hz, a, b, c⟩ => ⟨its.length - (i + 1), by omega, rfl, hlt, acc, e, Hz, a, b, c⟩, fun x H' hy => ?_⟩
    have st := step i _ acc e2 (List.getElem?_eq_getElem hlt) i2
    refine step_item hw s2 y2 hy (List.getElem?_eq_getElem hlt) hg st fun e3 σ3 Hz3 H3 w3 s3 y3 c3 => ?_
    have cw : wipe σ3 vs = wipe σ vs := by rw [c3 vs hv, wipe_wipe]
    refine ⟨cw, ht.run w3 y3 fun b e4 Hz4 H4 w4 s4 y4 => ?_⟩
    by_cases c : b = true
    · rw [if_pos c] at w4 ⊢
      refine hi1.run w4 y4 fun J1 its1 e5 Hz5 H5 w5 s5 y5 hw1 => ?_
      obtain ⟨Inv1, j0, step1, fin1⟩ := w5
      refine ⟨fun j m H => m = its1.length - j ∧ j ≤ its1.length ∧ ∃ acc e Hz, Inv1 j acc e ∧ Same Hz5 Hz ∧ Sy f (some (.ob none (.lst acc)) :: L) (some (.ref D) :: W) e (wipe σ3 vs1) Hz H,
        ⟨its1.length, rfl, Nat.zero_le _, acc, _, Hz5, j0, same_refl, y5.wiped vs1 hb1⟩, ?_⟩
      rintro j m H ⟨rfl, hj', acc1, e6, Hz6, j6, s6, y6⟩
      by_cases hlt1 : j < its1.length
      · refine .inr ⟨hw1.go j H hlt1 (same_trans s6 y6.sm), fun H' => ∃ acc e Hz, Inv1 (j + 1) acc e ∧ Same Hz5 Hz ∧ Sy f (some (.ob none (.lst acc)) :: L) (some (.ref D) :: W) e (wipe σ3 vs1) Hz H',
          fun H' ⟨acc, e, Hz, a, b, c⟩ => ⟨its1.length - (j + 1), by omega, rfl, hlt1, acc, e, Hz, a, b, c⟩, fun x H' hy => ?_⟩
        obtain ⟨hl, st1⟩ := step1 j _ acc1 e6 (List.getElem?_eq_getElem hlt1) j6
        refine step_item hw1 s6 y6 hy (List.getElem?_eq_getElem hlt1) hg1 st1 fun e7 σ7 Hz7 H7 w7 s7 y7 c7 => ?_
        have cw1 : wipe σ7 vs1 = wipe σ3 vs1 := by rw [c7 vs1 hv1, wipe_wipe]
        refine ⟨cw1, ht1.run w7 y7 fun b e8 Hz8 H8 w8 s8 y8 => ?_⟩
        by_cases c : b = true
        · rw [if_pos c] at w8 ⊢
          refine fz_run he w8 y8 fun d e9 v Hz9 H9 w9 s9 y9 d9 => ?_
          obtain ⟨a, ea, ⟨xs, hx, hd⟩, _⟩ := y9.top
          cases ea
          refine ⟨xs, hx, line_lt (by rw [dps_len hd]; exact hl), acc1 ++ [d], wipeE e9 vs1, Hz9, w9, same_trans s6 (same_trans s7 (same_trans s8 s9)), ?_⟩
          have y10 := (y9.wrT (u := .lst (xs ++ [v])) (o' := .lst (acc1 ++ [d])) ⟨_, upd_same, dps_snoc hd d9⟩).wiped vs1 hb1
          rw [cw1] at y10
          exact y10
        · rw [if_neg c] at w8 ⊢
          have y10 := y8.wiped vs1 hb1
          rw [cw1] at y10
          exact ⟨acc1, wipeE e8 vs1, Hz8, w8, same_trans s6 (same_trans s7 s8), y10⟩
      · have : j = its1.length := by omega
        subst this
        have y7 := y6.wiped vs hb
        rw [wipe_sub hvv, cw] at y7
        exact .inl ⟨hw1.stop H (same_trans s6 y6.sm), acc1, wipeE e6 vs, Hz6, fin1 acc1 e6 j6, same_trans s2 (same_trans s3 (same_trans s4 (same_trans s5 s6))), y7⟩
    · rw [if_neg c] at w4 ⊢
      have y6 := y4.wiped vs hb
      rw [cw] at y6
      exact ⟨acc, wipeE e4 vs, Hz4, w4, same_trans s2 (same_trans s3 s4), y6⟩
  · have : i = its.length := by omega
    subst this
    obtain ⟨hl, hf⟩ := fin acc e2 i2
    refine .inl ⟨hw.stop H (same_trans s2 y2.sm), k _ _ _ _ _ hf (same_trans s1 s2) (Sy.back y1 s2 (y2.unwipe hb) (by rw [wipeE_len, hl]) vs) trivial⟩⟩
/-- xs * n -/
def wRep (Ea Eb : WE) (e : En) (P : Vl → En → Prop) : Prop := Ea e fun b1 e1 => wFz Eb e1 fun d e2 => ob1 (trk b1 e2) fun ds => match d with
  | .int k => (-(2 ^ 63) ≤ k ∧ k < 2 ^ 63) ∧ ds.length * k.toNat ≤ 100000 ∧ P (.ob (.lst (List.replicate k.toNat ds).flatten)) e2
  | _ => False
theorem dps_rep2 {K : PySem.W.Frag} {Hz : Hp} {xs : List V} {ds : List PyData} (h : DpAll K Hz xs ds) : ∀ n : Nat, DpAll K Hz (List.replicate n xs).flatten (List.replicate n ds).flatten
  | 0 => .nil
  | n + 1 => by
    rw [List.replicate_succ, List.replicate_succ, List.flatten_cons, List.flatten_cons]
    exact dps_app h (dps_rep2 h n)
theorem se_rep {ta tb : TE} {Ea Eb : WE} (ha : SE f ta Ea) (hb : SE f tb Eb) : SE f (tOp rRep ta tb) (wRep Ea Eb) := ⟨fun {L W e σ Hz H Post Q} w y k => ha.run w y fun b1 e1 v1 Hz1 H1 w1 s1 y1 l1 => fz_run hb w1 y1 fun d e2 v2 Hz2 H2 w2 s2 y2 d2 => by
  obtain ⟨ds, c, w2⟩ := ob1_ex w2
  obtain ⟨a, xs, rfl, h1, h2⟩ := y2.trk (l1.mono s2) c
  split at w2
  · cases d2
    obtain ⟨⟨w3, w4⟩, w5, w6⟩ := w2
    refine ⟨a, _, xs, rfl, rfl, h1, w3, w4, Evl.sz_of (by rw [dps_len h2]; exact w5), fun p hp => ?_⟩
    exact k _ _ _ _ _ w6 (same_trans s1 s2) (y2.un.newO (o := .lst _) hp ⟨_, upd_same, dps_rep2 h2 _⟩) trivial
  · exact w2.elim⟩
end
end DL


set_option Elab.async false
set_option linter.all false
set_option maxRecDepth 100000
set_option maxHeartbeats 4000000
/-! Dicts with keys of tuples of ints and strings (the hand layer's kind) as objects of the layer; promises by hand that give a new one. -/
namespace DL
open PySem L2 TG
def keysL : List PyData → Option (List Key)
  | [] => some []
  | d :: r => match keyD d, keysL r with
    | some k, some ks => some (k :: ks)
    | _, _ => none
theorem keysL_dp {K : PySem.W.Frag} {Hz : Hp} : ∀ {ds : List PyData} {vs : List V} {ks : List Key}, DpAll K Hz vs ds → keysL ds = some ks → vs = ks.map kV
  | [], _, _, .nil, e => by cases e; rfl
  | d :: r, _, ks, .cons h1 h2, e => by
    unfold keysL at e
    split at e
    · rename_i k ks' e1 e2
      cases e
      rw [key_dp h1 e1, keysL_dp h2 e2]
      rfl
    · cases e
theorem keysL_2 (a b : Int) : keysL [.int a, .int b] = some [.inl a, .inl b] := rfl
def dtOf : Vl → En → Option (List (List Key × PyData))
  | .ob (.dT kvs), _ => some kvs
  | .own i, e => match e[i]? with
    | some (some (.ob _ (.dT kvs))) => some kvs
    | _ => none
  | _, _ => none
def dtS : Option (Option B) → Option (List (List Key × PyData))
  | some (some (.ob _ (.dT kvs))) => some kvs
  | _ => none
theorem dt_own {i : Nat} {e : En} : dtOf (.own i) e = dtS e[i]? := by unfold dtOf dtS; rfl
theorem dt_ob {kvs : List (List Key × PyData)} {e : En} : dtOf (.ob (.dT kvs)) e = some kvs := rfl
theorem dtS_ob {t : Option Nat} {kvs : List (List Key × PyData)} : dtS (some (some (.ob t (.dT kvs)))) = some kvs := rfl
section
variable {f : Fr} {td tx : TE} {ta : TA} {Ed Ex : WE} {A : WA}
theorem Sy.dt {L e : En} {W σ : St} {Hz H : Hp} {b : Vl} {v : V} {kvs : List (List Key × PyData)} (y : Sy f (tmp b L) (tmv b v W) e σ Hz H) (hv : Val f b v σ Hz) (h : dtOf b e = some kvs) : ∃ a ks, v = .ref a ∧ H a = some (.dT ks) ∧ KvR f.K Hz ks kvs := by
  cases b with
  | dat d' => cases h
  | ob o =>
    cases o with
    | dT ds =>
      cases h
      obtain ⟨a, ea, ⟨xs, h1, h2⟩, _⟩ := Sy.top y
      cases ea
      exact ⟨a, xs, rfl, h1, h2⟩
    | _ => cases h
  | own i =>
    rw [dt_own] at h
    generalize q : e[i]? = x at h
    unfold dtS at h
    split at h
    · cases h
      obtain ⟨a, e1, ⟨xs, h1, h2⟩, _⟩ := y.ob q
      have hv' : σ[i]? = some (some v) := hv
      rw [hv'] at e1
      cases e1
      exact ⟨a, xs, rfl, h1, h2⟩
    · cases h
  | gob n a => cases h
/-- d.get((..), x) -/
def wTGet2 (Ed : WE) (A : WA) (Ex : WE) (e : En) (P : Vl → En → Prop) : Prop := Ed e fun b e1 => ob1 (dtOf b e1) fun _ => A e1 fun ds e2 => ds.length ≤ 100000 ∧ wFz Ex e2 fun dx e3 => ob1 (keysL ds) fun k => ob1 (dtOf b e3) fun kvs => P (.dat ((valD kvs k).getD dx)) e3
theorem se_tget2 (hd : SE f td Ed) (ha : SA f ta A) (hx : SE f tx Ex) : SE f (tDGet2 td (tTup ta) tx) (wTGet2 Ed A Ex) := ⟨fun {L W e σ Hz H Post Q} w y k => hd.run w y fun b e1 v Hz1 H1 w1 s1 y1 l1 => by
  obtain ⟨kvs0, c0, w1⟩ := ob1_ex w1
  obtain ⟨a, ks0, rfl, g1, g2⟩ := y1.dt l1 c0
  refine ⟨a, rfl, .inr ⟨ks0, .inl g1⟩, ha.run w1 y1 fun ds e2 vs Hz2 H2 w2 s2 y2 d2 => ⟨Evl.sz_of (by rw [dps_len d2]; exact w2.1), fun p hp => ?_⟩⟩
  have s3 := same_new (y2.hz hp) (.tup vs)
  refine fz_run hx w2.2 (y2.newT (u := .tup vs) hp) fun dx e3 v3 Hz3 H3 w3 s4 y4 d4 => ?_
  obtain ⟨ky, c1, w3⟩ := ob1_ex w3
  obtain ⟨kvs, c2, w3⟩ := ob1_ex w3
  obtain ⟨a', ks, ea, h1, h2⟩ := y4.dt (l1.mono (same_trans s2 (same_trans s3 s4))) c2
  cases ea
  have hb : H3 p = some (.tup (ky.map kV)) := by
    rw [← keysL_dp d2 c1]
    exact y4.sm _ _ (s4 _ _ upd_same)
  refine ⟨valV ks ky, .inr ⟨ks, ky, p, .inl h1, rfl, hb, rfl⟩, ?_⟩
  rcases h2.val ky with ⟨q1, q2⟩ | ⟨v', d', q1, q2, q3⟩
  · rw [q1] at w3
    rw [q2]
    exact k _ _ _ _ _ w3 (same_trans s1 (same_trans s2 (same_trans s3 s4))) y4.un d4
  · rw [q1] at w3
    rw [q2]
    exact k _ _ _ _ _ w3 (same_trans s1 (same_trans s2 (same_trans s3 s4))) y4.un q3⟩
end
section
theorem dps_map {K : PySem.W.Frag} {Hz : Hp} {α : Type} {g : α → V} {d : α → PyData} : ∀ {l : List α}, (∀ e ∈ l, Dp K Hz (g e) (d e)) → DpAll K Hz (l.map g) (l.map d)
  | [], _ => .nil
  | a :: r, h => .cons (h a List.mem_cons_self) (dps_map fun e he => h e (List.mem_cons_of_mem _ he))
theorem val_of_mem {κ : Type} [DecidableEq κ] : ∀ {ks : List (κ × V)} {e : κ × V}, (ks.map (·.1)).Nodup → e ∈ ks → valV ks e.1 = some e.2
  | [], _, _, h => by cases h
  | x :: r, e, nd, h => by
    unfold valV
    rw [List.find?_cons]
    rw [List.map_cons, List.nodup_cons] at nd
    rcases List.mem_cons.mp h with rfl | h
    · simp
    · have : x.1 ≠ e.1 := fun c => nd.1 (by rw [c]; exact List.mem_map.mpr ⟨e, h, rfl⟩)
      rw [decide_eq_false this]
      exact val_of_mem nd.2 h
theorem val_map {κ : Type} [DecidableEq κ] (dt : κ → PyData) (k : κ) : ∀ ks : List (κ × V), valD (ks.map fun e => (e.1, dt e.1)) k = (valV ks k).map fun _ => dt k
  | [] => rfl
  | x :: r => by
    have ih := val_map dt k r
    unfold valD valV at ih ⊢
    rw [List.map_cons, List.find?_cons, List.find?_cons]
    by_cases c : x.1 = k
    · rw [decide_eq_true c]
      simp [c]
    · rw [decide_eq_false c]
      exact ih
end
/-! ### is True, is not True -/
def gIsB (neg : Bool) (d1 d2 : PyData) (P : Vl → Prop) : Prop := match d1, d2 with
  | .bool a, .bool b => P (.dat (.bool (if neg then !decide (a = b) else decide (a = b))))
  | _, _ => False
theorem sr_isB {f : Fr} : SR f rIsB (gIsB false) := ⟨fun {L W e σ Hz H x y d1 d2 Post Q} r1 r2 s h k => by
  unfold gIsB at h
  split at h
  · cases r1
    cases r2
    exact ⟨_, _, rfl, rfl, k _ _ _ _ h same_refl s (Dp.bl _)⟩
  · exact h.elim⟩
theorem sr_notB {f : Fr} : SR f rNotB (gIsB true) := ⟨fun {L W e σ Hz H x y d1 d2 Post Q} r1 r2 s h k => by
  unfold gIsB at h
  split at h
  · cases r1
    cases r2
    exact ⟨_, _, rfl, rfl, k _ _ _ _ h same_refl s (Dp.bl _)⟩
  · exact h.elim⟩
theorem eIsB (neg a b : Bool) (P : Vl → Prop) : gIsB neg (.bool a) (.bool b) P = P (.dat (.bool (if neg then !decide (a = b) else decide (a = b)))) := rfl
end DL


set_option Elab.async false
set_option linter.all false
set_option maxRecDepth 100000
set_option maxHeartbeats 4000000
/-! {e for x in it}, e an int: as the hand layer's own for truth values -/
namespace TG
open PySem PySem.Spec PyProof.Rows L2
/-- what a turn does to the new set -/
abbrev AddI (w : World) (B : Addr) (Nx : Hp → Prop) : V → Hp → Prop := fun y G => ∃ (c : Int) (S : Int → Bool) (n : Nat), y = .int c ∧ G B = some (SetO w B S n) ∧ n + 1 < scanBound ∧ Nx (upd G B (SetO w B (fun j => S j || decide (j = c)) (if S c = true then n else n + 1)))
abbrev emptyI (w : World) (B : Addr) : HO := SetO w B (fun _ => false) 0
def tSI (w : World) (wi : TI) (g : TG) (tt : TT) (te : TE) (vs : List Nat) : TE := fun σ G Q => wi σ G fun J G1 => ∀ B, G1 B = none →
  ∃ Z : Nat → Nat → Hp → Prop, (∃ m, Z 0 m (upd G1 B (emptyI w B))) ∧ ∀ i m G, Z i m G → (J.stop i G ∧ Q (.ref B) G) ∨ (J.go i G ∧ ∃ Nx : Hp → Prop, (∀ G', Nx G' → ∃ k, k < m ∧ Z (i + 1) k G') ∧
    ∀ x G', J.yld i G x G' → g x (wipe σ vs) G' fun τ G2 => wipe τ vs = wipe σ vs ∧ tt τ G2 fun b G3 => if b = true then te τ G3 (AddI w B Nx) else Nx G3)
section
variable {X : Cx}
theorem addI_ok {pins : List (Addr × Obj)} {τ : L2.St} {G : Hp} {s : Shared} {B : Addr} {S : Int → Bool} {n : Nat} {y : Int} {tk : Tok} {Er Q : Value → Shared → Prop} (I : Inv X pins τ G s) (hB : G B = some (SetO X.w B S n)) (hr : n + 1 < scanBound)
    (k : ∀ s', Inv X pins τ (upd G B (SetO X.w B (fun j => S j || decide (j = y)) (if S y = true then n else n + 1))) s' → Q .none s') :
    wpAny (model X.prog X.w) X.A (call (.builtin "set.add") [.ref B, .int y tk]) Q Er s := setR_add (setO_get I hB) hr fun h1 same new => by
  obtain ⟨o, _, _, _, ho, _⟩ := id new
  exact k _ (I.write (t' := s.toks + 1) (e := B) (by rw [hB]; trivial) (.inl rfl) (fun c v hc hv => (same.2 c hc).trans hv) ⟨o, ho⟩ (setO_new new))
abbrev BlkG (X : Cx) (scope : Scope) (J : Cx → Prop) : Prop := ∀ (s : Shared) (G : Hp) (C : Addr) (cl : List (PySem.Str × Addr)) (fp : List Addr), J (X.blk s G scope (compEnvC scope cl C X.env) fp)
theorem setcomp_core {pins : List (Addr × Obj)} {s : Shared} {σ : L2.St} {G : Hp} {Q : VK} {el tgt src : Expr} {fs : List Expr} {scope : Scope} {own : List (PySem.Str × Nat)} {p p' : Pos} {wi : TI} {g : TG} {tt : TT} {te : TE} {Qf : Value → Shared → Prop} {use : Option (Value → Sem Unit)}
    (calm : X.calm = true) (nd : X.N.Nodup) (I : Inv X pins σ G s) (wI : PI X tgt src wi) (blk : BlkOk X.N X.env.scope scope own) (wG : BlkG X scope fun Y => PG Y tgt g) (wT : BlkG X scope fun Y => PTs Y fs tt) (wE : BlkG X scope fun Y => PE Y el te)
    (plain : ∀ x, foldedSetIterable src X.env x = pure x) (h : tSI X.w wi g tt te (own.map (·.2)) σ G Q)
    (fin : ∀ B C s' m G', Inv X pins σ G' s' → Q (.ref B) G' → s'.heap.Ns C m → FpOk X pins G' C → compPost (model X.prog X.w) X.A X.xe use Qf (.ref B) C (.ok .next) s') :
    wpAny (model X.prog X.w) X.A (comprehension (.SetComp el [⟨tgt, src, fs, 0⟩] scope p) scope X.env p' (newSet (.type "set")) false (eval src X.env) use) Qf X.xe s := by
  have free : ∀ y ∈ scope.names, y.2 = .free → ∃ c, X.env.cells.lookup y.1 = some c := fun y hy e => by rcases blk.free y hy e with q | q <;> first | exact I.ok.has _ (.inl q) | exact I.ok.has _ (.inr q)
  refine wpAny_comprehension_free (use := use) rfl plain (closure_ok free) blk.kind (fun y hy e => by rw [blk.uniq y hy, e]) (thn (wI.run pins s σ G _ I h) fun _ _ hx => thn hx fun itv s2 hx2 => ?_)
  obtain ⟨it, fp, tn, J, G2, e0, I2, T, at2, fr2, rest⟩ := hx2
  subst e0
  refine PpSet.newSet_ok (newEnv_comp ?_)
  obtain ⟨B, hB⟩ : ∃ B, s2.heap.objs.size = B := ⟨_, rfl⟩
  have B0 : G2 B = none := I2.hok.fresh (Nat.le_of_eq hB)
  obtain ⟨Z, ⟨m0, z0⟩, turn⟩ := rest B B0
  obtain ⟨s3, e3⟩ : ∃ s3 : Shared, { s2 with heap := s2.heap.push (s0 X.w) } = s3 := ⟨_, rfl⟩
  have hp3 : s3.heap = s2.heap.push (s0 X.w) := by rw [← e3]
  have I3 : Inv X pins σ (upd G2 B (emptyI X.w B)) s3 := by
    subst hB e3
    exact I2.laid (t' := s2.toks) (fun c v q => Heap.get?_push_of_some _ q) (Nat.le_refl _) (setO_new (setR_fresh X.w))
  have fr3 : ∀ c ∈ fp, FpOk X pins (upd G2 B (emptyI X.w B)) c ∧ c < s3.heap.objs.size := fun c hc => by
    obtain ⟨o, q, _⟩ := T.obj _ _ at2 c hc
    have lt := Heap.lt_size q
    refine ⟨⟨?_, (fr2 c hc).2⟩, by rw [hp3, Heap.size_push]; exact Nat.lt_succ_of_lt lt⟩
    rw [upd_ne (by rw [← hB]; exact Nat.ne_of_lt lt)]
    exact (fr2 c hc).1
  have at3 : tn 0 s3.heap := T.keep _ _ _ at2 fun c _ o q => by rw [hp3]; exact Heap.get?_push_of_some _ q
  obtain ⟨cl, hcl⟩ : ∃ cl, cellsFrom (s3.heap.objs.size + 1) scope.names (cloFrom X.env.cells scope.names []) = cl := ⟨_, rfl⟩
  have I4 := block_start I3 blk nd fr3
  have dG := wG s3 (upd G2 B (emptyI X.w B)) s3.heap.objs.size cl fp
  have dT := wT s3 (upd G2 B (emptyI X.w B)) s3.heap.objs.size cl fp
  have dE := wE s3 (upd G2 B (emptyI X.w B)) s3.heap.objs.size cl fp
  have none3 : ∀ c ∈ fp, (upd G2 B (emptyI X.w B)) c = none := fun c hc => (fr3 c hc).1.1
  rw [hcl] at I4
  obtain ⟨s4, e4⟩ : ∃ s4 : Shared, { s3 with heap := pushCells (s3.heap.push { cls := .type "dict", data := .dict #[] }) scope.names } = s4 := ⟨_, rfl⟩
  rw [e4] at I4
  have at4 : tn 0 s4.heap := T.keep _ _ _ at3 fun c _ o q => by rw [← e4]; exact pushCells_keeps _ _ _ _ (Heap.get?_push_of_some _ q)
  have nC3 : ∀ G', Inv X pins σ G' s3 → True := fun _ _ => trivial
  obtain ⟨ce, hce⟩ : ∃ ce, compEnvC scope cl s3.heap.objs.size X.env = ce := ⟨_, rfl⟩
  have ceL : ce.locals = s3.heap.objs.size := by subst hce; rfl
  rw [hce] at I4 dG dT dE
  obtain ⟨G3, hG3⟩ : ∃ G3, upd G2 B (emptyI X.w B) = G3 := ⟨_, rfl⟩
  rw [hG3] at I3 I4 dG dT dE z0 none3 fr3
  have ok4 : ∀ {τ : L2.St} {G' : Hp} {s' : Shared}, Inv (X.blk s3 G3 scope ce fp) [] τ G' s' → (∀ c ∈ fp, G' c = none) → ∀ c ∈ fp, FpOk (X.blk s3 G3 scope ce fp) [] G' c := fun I' hn c hc =>
    ⟨hn c hc, (I'.ok.exf c hc).1, I'.ok.exfs c hc, .inl hc, fun x d q => (I'.ok.exf c hc).2 x d q, fun z hz => (List.not_mem_nil hz).elim⟩
  have loop : codeAny (model X.prog X.w) X.A (.compLoop (.SetComp el [⟨tgt, src, fs, 0⟩] scope p) 0 (.ref it) (.ref B) ce) (compPost (model X.prog X.w) X.A X.xe use Qf (.ref B) s3.heap.objs.size) s4 := by
    refine PpSet.compLoopS_any (fun n s' => ∃ i G', Inv (X.blk s3 G3 scope ce fp) [] (wipe σ (own.map (·.2))) G' s' ∧ tn i s'.heap ∧ (∀ c ∈ fp, G' c = none) ∧ Z i n G') (fun n s5 hI => ?_) m0 ⟨0, G3, I4, at4, none3, z0⟩
    obtain ⟨i, G5, I5, at5, none5, z5⟩ := hI
    rcases turn i n G5 z5 with ⟨stop, out⟩ | ⟨go, Nx, next, step⟩
    · refine thnF (T.done (X.blk s3 G3 scope ce fp) rfl rfl rfl calm i [] s5 _ G5 (fun _ _ => False) I5 (ok4 I5 none5) at5 stop) fun r s6 ⟨hr, I6⟩ => ?_
      subst hr
      have free6 : G5 s3.heap.objs.size = none := by
        have z : G5 ce.locals = none := I6.free
        rwa [ceL] at z
      obtain ⟨m, ns, _⟩ := I6.loc
      have ns : s6.heap.Ns ce.locals m := ns
      rw [ceL] at ns
      refine fin B s3.heap.objs.size s6 m G5 (I3.call' (ch := fp) I6.os I6.base I6.hok I6.bare fun c hc => ?_) out ns (I3.fpOk (Nat.le_refl _) free6)
      obtain ⟨a1, a2, a3, a4, a5, a6⟩ := (fr3 c hc).1
      exact ⟨a4, a2, a5, a6⟩
    · refine thnF (T.item (X.blk s3 G3 scope ce fp) rfl rfl rfl calm i [] s5 _ G5 (fun _ _ => False) I5 (ok4 I5 none5) at5 go) fun r s6 ⟨u, hr, h6⟩ => ?_
      subst hr
      refine thnF h6 fun _ s7 ⟨x, G7, I7, r7, y7, at7, none7⟩ => ?_
      refine thnF (dG.run _ s7 _ G7 x u _ (I7.pinned (ok4 I7 none7) (T.obj _ _ at7)) r7 (step x G7 y7)) fun _ s8 ⟨τ8, G8, I8, w8, q8⟩ => ?_
      have back : ∀ {s' : Shared} {G' : Hp}, Inv (X.blk s3 G3 scope ce fp) ([] ++ pinsAt fp s7.heap) τ8 G' s' → Nx G' → ∃ m, m < n ∧ ∃ i G', Inv (X.blk s3 G3 scope ce fp) [] (wipe σ (own.map (·.2))) G' s' ∧ tn i s'.heap ∧ (∀ c ∈ fp, G' c = none) ∧ Z i m G' := fun {s' G'} I' nx => by
        obtain ⟨k, hk, zk⟩ := next G' nx
        have pinned : ∀ c ∈ fp, ∀ o, s7.heap.get? c = some o → s'.heap.get? c = some o ∧ G' c = none := fun c hc o q => by
          have z := I'.pin (c, o) (List.mem_append_right _ (List.mem_append_right _ (mem_pinsAt hc q)))
          exact ⟨z.1, z.2.1⟩
        refine ⟨k, hk, i + 1, G', (I'.unpinned (pins := [])).weak (by rw [← w8, wipe_length]) (fun j v q => ?_), T.keep _ _ _ at7 fun c hc o q => (pinned c hc o q).1, fun c hc => ?_, zk⟩
        · rw [← w8] at q
          exact (wipe_some q).1
        · obtain ⟨o, q, _⟩ := T.obj _ _ at7 c hc
          exact (pinned c hc o q).2
      refine thnF (dT.run _ s8 τ8 G8 _ I8 q8) fun b s9 ⟨G9, I9, q9⟩ => ?_
      cases b with
      | false => exact back I9 q9
      | true =>
        refine thnF (dE.run _ s9 τ8 G9 _ I9 q9) fun z s10 ⟨y, G10, I10, r10, c, S, n', ey, hB10, room, nx⟩ => ?_
        subst ey
        obtain ⟨tk, rfl⟩ : ∃ t, z = Value.int c t := r10
        exact addI_ok (X := X.blk s3 G3 scope ce fp) I10 hB10 room fun s11 I11 => back I11 nx
  have := PpSet.codeAny_compStart_set loop (T.self X.A 0 _ _ _ at4 loop)
  subst e4
  subst hce
  subst hcl
  subst e3
  subst hB
  exact this
theorem pe_setI {el tgt src : Expr} {fs : List Expr} {scope : Scope} {own : List (PySem.Str × Nat)} {p : Pos} {wi : TI} {g : TG} {tt : TT} {te : TE} (calm : X.calm = true) (nd : X.N.Nodup) (wI : PI X tgt src wi) (blk : BlkOk X.N X.env.scope scope own)
    (wG : BlkG X scope fun Y => PG Y tgt g) (wT : BlkG X scope fun Y => PTs Y fs tt) (wE : BlkG X scope fun Y => PE Y el te) (plain : ∀ x, foldedSetIterable src X.env x = pure x := by intro _; rfl) : PE X (.SetComp el [⟨tgt, src, fs, 0⟩] scope p) (tSI X.w wi g tt te (own.map (·.2))) := ⟨fun pins s σ G Q I h => by
  rw [PpSet.eval_SetComp]
  refine setcomp_core calm nd I wI blk wG wT wE plain h fun B C s' m G' I' q ns f => ⟨m, ns, fun h2 sb => ?_⟩
  obtain ⟨f0, f1, f2, f3, f4, f5⟩ := f
  exact ⟨.ref B, G', I'.turned (t' := s'.toks) (fun c o hc e => (sb.2 c hc).trans e) f0 f1 f3 f4 f5, rfl, q⟩⟩
theorem pe_setIK {w : World} (hw : X.w = w) {el tgt src : Expr} {fs : List Expr} {scope : Scope} {own : List (PySem.Str × Nat)} {p : Pos} {wi : TI} {g : TG} {tt : TT} {te : TE} (calm : X.calm = true) (nd : X.N.Nodup) (wI : PI X tgt src wi) (blk : BlkOk X.N X.env.scope scope own)
    (wG : BlkG X scope fun Y => PG Y tgt g) (wT : BlkG X scope fun Y => PTs Y fs tt) (wE : BlkG X scope fun Y => PE Y el te) (plain : ∀ x, foldedSetIterable src X.env x = pure x := by intro _; rfl) : PE X (.SetComp el [⟨tgt, src, fs, 0⟩] scope p) (tSI w wi g tt te (own.map (·.2))) := by
  subst hw
  exact pe_setI calm nd wI blk wG wT wE plain
/-- a if t else b as a test -/
def tIfT (t a b : TT) : TT := fun σ H Q => t σ H fun c H1 => if c = true then a σ H1 Q else b σ H1 Q
theorem pt_ifExp {c a b : Expr} {p : Pos} {tc ta tb : TT} (hc : PT X c tc) (ha : PT X a ta) (hb : PT X b tb) : PT X (.IfExp c a b p) (tIfT tc ta tb) := ⟨fun pins s σ H Q I h => by
  show wpAny (model X.prog X.w) X.A (PySem.isTrue c X.env (eval c X.env) >>= fun k => if k = true then PySem.isTrue a X.env (eval a X.env) else PySem.isTrue b X.env (eval b X.env)) _ _ s
  refine wpAny_bind (thn (hc.run pins s σ H _ I h) fun d s1 ⟨H1, I1, q1⟩ => ?_)
  cases d with
  | true => exact ha.run pins s1 σ H1 Q I1 q1
  | false => exact hb.run pins s1 σ H1 Q I1 q1⟩
end
end TG


set_option Elab.async false
set_option linter.all false
set_option maxRecDepth 100000
set_option maxHeartbeats 4000000
/-! sorted(t), t a tuple of ints -/
namespace TG
open PySem PySem.Spec PyProof.Rows L2 SrtO
section
variable {P : Program} {w : World} {A : Around} {E : Value → Shared → Prop} {s : Shared}
theorem gather_tup {t : Addr} {us : List Value} {Q : List Value → Shared → Prop} (ht : IsTup s.heap t us.toArray) (hz : us.length ≤ sizeLine)
    (k : Q us { s with heap := (s.heap.push (seqObj "list" #[] 0)).update s.heap.objs.size (Obj.mapSeq (· ++ us.toArray)) }) : wpAny (model P w) A (collect (.ref t)) Q E s := by
  obtain ⟨o, ho, hcls, n, hdat⟩ := ht
  have ho2 : (s.heap.push (seqObj "list" #[] 0)).get? t = some o := Heap.get?_push_of_some _ ho
  have hnew : (s.heap.push (seqObj "list" #[] 0)).get? s.heap.objs.size = some (seqObj "list" #[] 0) := Heap.get?_push_size _ rfl
  unfold collect
  refine wpAny_bind (wpAny_runValue (codeAny_builtin entry_proto_collect' ?_))
  refine wpAny_bind (m := newList []) (wpAny_newList (wpAny_pure ⟨Code.quiet_builtin _ (by decide +kernel), codeAny_builtin entry_list_iadd' ?_⟩))
  change wpAny (model P w) _ (Builtin.List.listExtendWith (.ref s.heap.objs.size) (.ref t) (.ref s.heap.objs.size)) _ _ { s with heap := s.heap.push (seqObj "list" #[] 0) }
  unfold Builtin.List.listExtendWith
  refine wpAny_bind (wpAny_typeOf (T := "tuple") ⟨o, ho2, hcls⟩ ?_)
  rw [if_pos (by rw [show (Value.type "tuple" == Value.type "tuple") = true by rfl]; simp)]
  refine wpAny_bind (listItems_at ho2 hdat (wpAny_bind (listItems_at (xs := #[]) (n := 0) hnew rfl ?_)))
  rw [if_neg (by simp)]
  refine wpAny_bind (listUpdate_at (xs := #[]) (n := 0) hnew rfl ?_ (Nat.zero_le _) (by show (#[] ++ us.toArray).size ≤ sizeLine + 1; simp only [Array.size_append, List.size_toArray, List.length_nil]; omega))
  refine wpAny_pure (wpAny_bind (m := load s.heap.objs.size) (wpAny_load (get?_update_seq hnew _) ?_))
  change wpAny (model P w) A (pure ((#[] : Array Value) ++ us.toArray).toList) Q E _
  refine wpAny_pure ?_
  simpa using k
theorem sorted_tup {t : Addr} {us : List Value} {lt : Value → Value → Bool} {Q : Value → Shared → Prop} (O : Swo lt) (ht : IsTup s.heap t us.toArray) (hz : us.length ≤ sizeLine)
    (able : 2 ≤ us.length → ∀ (h₁ : Heap) (a : Addr), h₁.get? a = some (seqObj "list" us.toArray 0) → (∀ b o, s.heap.get? b = some o → b ≠ a ∧ h₁.get? b = some o) → SortableO P w ((A.in1).in1) { s with heap := h₁ } a us lt)
    (k : ∀ out : List Value, Srtd lt out → Stb lt out us → Q (.ref (s.heap.objs.size + 1)) { s with heap := sortedAll s.heap us out.toArray }) : wpAny (model P w) A (call (.builtin "sorted") [.ref t]) Q E s := by
  refine Calls.call_function_entry kind_sorted plain_sorted entry_sorted (args_sorted1 _) ?_
  unfold Builtin.«sorted»
  refine wpAny_bind (m := checkCount "sorted" 1 1 _) (wpAny_pure (wpAny_bind (gather_tup ht hz (wpAny_bind (wpAny_newList ?_ hz)))))
  obtain ⟨Z, hZ⟩ : ∃ Z, (s.heap.push (seqObj "list" #[] 0)).update s.heap.objs.size (Obj.mapSeq (· ++ us.toArray)) = Z := ⟨_, rfl⟩
  have zs : Z.objs.size = s.heap.objs.size + 1 := by rw [← hZ, Heap.size_update, size_push']
  have znew : (Z.push (seqObj "list" us.toArray 0)).get? (s.heap.objs.size + 1) = some (seqObj "list" us.toArray 0) := by
    rw [← zs]
    exact Heap.get?_push_size _ rfl
  have old : ∀ b o, s.heap.get? b = some o → b ≠ s.heap.objs.size + 1 ∧ (Z.push (seqObj "list" us.toArray 0)).get? b = some o := fun b o q => by
    have lt := Heap.lt_size q
    refine ⟨Nat.ne_of_lt (Nat.lt_succ_of_lt lt), Heap.get?_push_of_some _ ?_⟩
    rw [← hZ, Heap.get?_update_ne _ _ _ _ (Nat.ne_of_lt lt)]
    exact Heap.get?_push_of_some _ q
  have k2 : ∀ out : List Value, Srtd lt out → Stb lt out us → Q (.ref (s.heap.objs.size + 1)) { s with heap := sortedHeap (Z.push (seqObj "list" us.toArray 0)) (s.heap.objs.size + 1) us out.toArray } := by
    rw [← hZ]
    exact k
  rw [hZ]
  change wpAny (model P w) _ _ _ _ { s with heap := Z.push (seqObj "list" us.toArray 0) }
  rw [zs]
  refine wpAny_bind (wpAny_holding (wpAny_call_entry slot_list_sort ⟨_, znew, rfl⟩ entry_list_sort (list_sort_ord O znew hz (fun h2 => able h2 _ _ znew old) fun out h1 h2 => ⟨_, rfl, ?_⟩) (args_list_sort _)))
  exact wpAny_pure ⟨_, rfl, k2 out h1 h2⟩
end
def rSortIT (K : PySem.W.Frag) : List V → Hp → VK → Prop := fun vs H Q => ∃ (a : Addr) (ns : List Int), vs = [V.ref a] ∧ SqT K H a (ns.map V.int) ∧ ∀ (ns' : List Int) (p : Addr), ns'.Perm ns → ns'.Pairwise (· ≤ ·) → H p = none → Q (.ref p) (upd H p (.lst (ns'.map V.int)))
theorem cr_sortIT {X : Cx} {K : PySem.W.Frag} (hK : X.K = K) : CallR X (.builtin "sorted") (rSortIT K) := by
  subst hK
  intro pins s σ H vs us Q I r h
  obtain ⟨a, ns, rfl, ha, q⟩ := h
  obtain ⟨its, rv, tp, hz⟩ := I.tuple ha
  rw [Vals.ref1 r]
  refine sorted_tup swo_int tp (by rw [← rv.length]; exact hz) (fun h2 _ _ _ _ => ints_sortable rv.ints h2) fun out h1 h2 => ?_
  obtain ⟨b1, b2, b3⟩ := ints_out rv.ints h1 h2
  obtain ⟨ep, at'⟩ := sortedAll_at s.heap its out.toArray
  refine ⟨.ref _, upd H (s.heap.objs.size + 1) (.lst ((out.map iv).map V.int)), I.laid (t' := s.toks) (fun _ _ => sortedAll_old) (Nat.le_succ _) ⟨?_, out, ep, vals_of_ints b1, at'⟩, rfl, q _ _ b2 b3 (I.hok.fresh (Nat.le_succ _))⟩
  rw [List.length_map, b2.length_eq]
  rwa [List.length_map] at hz
end TG


set_option Elab.async false
set_option linter.all false
set_option maxRecDepth 100000
set_option maxHeartbeats 4000000
/-! A middle predicate between two statements. -/
namespace DL
open PySem L2 TG
def wCut (S U : WS) (P : Po) (e : En) : Prop := ∃ M : En → Prop, S { P with nx := M } e ∧ ∀ e', M e' → U P e'
theorem cut_use {S U : WS} {P : Po} {e : En} (M : En → Prop) (h : S { P with nx := M } e) (h' : ∀ e', M e' → U P e') : wCut S U P e := ⟨M, h, h'⟩
theorem ss_cut {f : Fr} {t u : TS} {S U : WS} (h1 : SS f t S) (h2 : SS f u U) : SS f (tSeq t u) (wCut S U) := ⟨fun {D P e σ Hz H} w y o => by
  obtain ⟨M, a, b⟩ := w
  exact h1.run a y ⟨fun p s1 y1 => h2.run (b _ p) y1 (o.mono s1), o.rt, o.bk, o.ct⟩⟩
/-! sorted(t), t a tuple of ints -/
def gSortT (d : PyData) (P : Vl → Prop) : Prop := match d with
  | .tuple ds => ob1 (intsD ds) fun ns => ∀ ns' : List Int, ns'.Perm ns → ns'.Pairwise (· ≤ ·) → P (.ob (.lst (ns'.map PyData.int)))
  | _ => False
theorem eSortT {ds : List PyData} {P : Vl → Prop} : gSortT (.tuple ds) P = ob1 (intsD ds) fun ns => ∀ ns' : List Int, ns'.Perm ns → ns'.Pairwise (· ≤ ·) → P (.ob (.lst (ns'.map PyData.int))) := rfl
theorem sc_sortT {f : Fr} : SC f (rSortIT f.K) gSortT := ⟨fun {L W e σ Hz H x d Post Q} r s h k => by
  unfold gSortT at h
  split at h
  · obtain ⟨ns, c, h⟩ := ob1_ex h
    obtain ⟨a, xs, rfl, q1, q2⟩ := rep_tup s.sm r
    rw [intsD_eq c] at q2
    rw [dps_ints q2] at q1
    exact ⟨a, ns, rfl, q1, fun ns' p h1 h2 hp => k _ _ _ _ (h ns' h1 h2) same_refl (s.newO (o := .lst _) hp ⟨_, upd_same, ints_dps ns'⟩) trivial⟩
  · exact h.elim⟩
/-! list(range(n)) -/
def wListRg (E : WE) (e : En) (P : Vl → En → Prop) : Prop := wFz E e fun d e1 => match d with
  | .int n => (0 ≤ n ∧ n ≤ 100000) ∧ P (.ob (.lst (rangeD 0 n.toNat))) e1
  | _ => False
theorem se_listRg {f : Fr} {te : TE} {E : WE} (h : SE f te E) : SE f (tLstRg (tRg1 te)) (wListRg E) := ⟨fun {L W e σ Hz H Post Q} w y k => fz_run h w y fun d e1 v Hz1 H1 h1 s1 y1 d1 => by
  split at h1
  · rename_i n
    cases d1
    obtain ⟨⟨n0, n1⟩, h1⟩ := h1
    refine ⟨n, rfl, RgOk.of_le (Int.le_refl 0) (by omega) (by omega) n0, fun p hp => k _ _ _ _ _ h1 s1 (y1.newO (o := .lst _) hp ⟨_, upd_same, ?_⟩) trivial⟩
    unfold rgV rangeD
    rw [Int.sub_zero]
    exact dps_map fun e _ => .int _
  · exact h1.elim⟩
/-! a if t else b as a test -/
def wIfT (T A B : WT) (e : En) (P : Bool → En → Prop) : Prop := T e fun c e1 => if c = true then A e1 P else B e1 P
theorem st_ifT {f : Fr} {t a b : TT} {T A B : WT} (ht : ST f t T) (ha : ST f a A) (hb : ST f b B) : ST f (tIfT t a b) (wIfT T A B) := ⟨fun {L W e σ Hz H Post Q} w y k => ht.run w y fun c e1 Hz1 H1 w1 s1 y1 => by
  by_cases h : c = true
  · rw [if_pos h] at w1 ⊢
    exact ha.run w1 y1 fun b2 e2 Hz2 H2 w2 s2 y2 => k _ _ _ _ w2 (same_trans s1 s2) y2
  · rw [if_neg h] at w1 ⊢
    exact hb.run w1 y1 fun b2 e2 Hz2 H2 w2 s2 y2 => k _ _ _ _ w2 (same_trans s1 s2) y2⟩
/-! sorted({e for x in it}), e an int -/
def setOb (w : World) (B : Addr) (S : Int → Bool) (n : Nat) : Ob := .ext fun _ _ u => u = some (SetO w B S n)
theorem setOb_ok {K : PySem.W.Frag} {Hz H : Hp} {w : World} {B : Addr} {S : Int → Bool} {n : Nat} (h : H B = some (SetO w B S n)) : OkOb K Hz H B (setOb w B S n) :=
  ⟨by rw [h]; exact Option.some_ne_none _, fun u hu => by rw [h] at hu; cases hu; rfl, h, fun _ _ => h⟩
def ScB (Gt : WG) (T : WT) (E : WE) (vs : List Nat) (P : Vl → En → Prop) (its : List PyData) (e1 : En) : Prop := ∃ Inv : Nat → List Int → En → Prop, Inv 0 [] (wipeE e1 vs) ∧
  (∀ i d acc e2, its[i]? = some d → Inv i acc e2 → acc.length ≤ 62 ∧ Gt (.dat d) e2 fun e3 => T e3 fun b e4 => if b = true then wFz E e4 fun y e5 => ∃ k : Int, y = .int k ∧ Inv (i + 1) (acc ++ [k]) (wipeE e5 vs) else Inv (i + 1) acc (wipeE e4 vs)) ∧
  ∀ acc e2, Inv its.length acc e2 → e2.length = e1.length ∧ acc.length < 64 ∧ ∀ ns' : List Int, ns'.Pairwise (· < ·) → (∀ k, k ∈ ns' ↔ k ∈ acc) → P (.ob (.lst (ns'.map PyData.int))) (back e1 vs (wipeE e2 vs))
def wSc (G : WI) (Gt : WG) (T : WT) (E : WE) (vs : List Nat) (e : En) (P : Vl → En → Prop) : Prop := G e (ScB Gt T E vs P)
theorem sc_use {G : WI} {Gt : WG} {T : WT} {E : WE} {vs : List Nat} {e : En} {P : Vl → En → Prop} (h : G e (ScB Gt T E vs P)) : wSc G Gt T E vs e P := h
theorem sc_acc {Gt : WG} {T : WT} {E : WE} {vs : List Nat} {its : List PyData} {e1 e0 : En} {P : Vl → En → Prop} (acc : Nat → List Int) (h0 : acc 0 = []) (he : e0 = wipeE e1 vs) (hl : ∀ i, i < its.length → (acc i).length ≤ 62)
    (hs : ∀ i d, its[i]? = some d → Gt (.dat d) e0 fun e3 => T e3 fun b e4 => if b = true then wFz E e4 fun y e5 => ∃ k : Int, y = .int k ∧ acc (i + 1) = acc i ++ [k] ∧ wipeE e5 vs = e0 else acc (i + 1) = acc i ∧ wipeE e4 vs = e0)
    (h64 : (acc its.length).length < 64) (hP : ∀ ns' : List Int, ns'.Pairwise (· < ·) → (∀ k, k ∈ ns' ↔ k ∈ acc its.length) → P (.ob (.lst (ns'.map PyData.int))) (back e1 vs (wipeE e0 vs))) : ScB Gt T E vs P its e1 := by
  refine ⟨fun i ac e => acc i = ac ∧ e = e0, ⟨h0, he.symm⟩, ?_, ?_⟩
  · rintro i d ac e2 hd ⟨rfl, rfl⟩
    exact ⟨hl i (List.getElem?_eq_some_iff.mp hd).1, hs i d hd⟩
  · rintro ac e2 ⟨rfl, rfl⟩
    exact ⟨by rw [he, wipeE_len], h64, hP⟩
section
variable {f : Fr} {te : TE} {E : WE} {tt : TT} {T : WT} {wi : TI} {G : WI} {g : TG} {Gt : WG} {sl : List Nat}
theorem se_sortC {w : World} {vs : List Nat} (hi : SI f wi G) (hg : SG f g Gt sl) (ht : ST f tt T) (he : SE f te E) (hv : ∀ i ∈ sl, i ∈ vs) (hnv : vs.all (fun v => Nat.blt v f.n) = true := by rfl) : SE f (tCB (rSortedSet w) (tCons (tSI w wi g tt te vs) tNil)) (wSc G Gt T E vs) := ⟨fun {L W e σ Hz H Post Q} wp y k => hi.run wp y fun J its e1 Hz1 H1 w1 s1 y1 hw B hB => by
  have hb : ∀ v ∈ vs, v < f.n := fun v h => Nat.le_of_ble_eq_true (List.all_eq_true.mp hnv v h)
  obtain ⟨Inv, i0, step, fin⟩ := w1
  have ys : Sy f (some (.ob none (setOb w B (fun _ => false) 0)) :: L) (some (.ref B) :: W) (wipeE e1 vs) (wipe σ vs) Hz1 (upd H1 B (emptyI w B)) := (y1.newO (o := setOb w B (fun _ => false) 0) hB (setOb_ok upd_same)).wiped vs hb
  refine ⟨fun i m H => m = its.length - i ∧ i ≤ its.length ∧ ∃ acc S n e Hz, Inv i acc e ∧ n ≤ acc.length ∧ (∀ k, S k = decide (k ∈ acc)) ∧ Same Hz1 Hz ∧ Sy f (some (.ob none (setOb w B S n)) :: L) (some (.ref B) :: W) e (wipe σ vs) Hz H,
    ⟨its.length, rfl, Nat.zero_le _, [], _, _, _, Hz1, i0, Nat.le_refl _, fun k => by simp, same_refl, ys⟩, ?_⟩
  rintro i m H ⟨rfl, hi', acc, S, n, e2, Hz2, i2, hn, hS, s2, y2⟩
  by_cases hlt : i < its.length
  · refine .inr ⟨hw.go i H hlt (same_trans s2 y2.sm), fun H' => ∃ acc S n e Hz, Inv (i + 1) acc e ∧ n ≤ acc.length ∧ (∀ k, S k = decide (k ∈ acc)) ∧ Same Hz1 Hz ∧ Sy f (some (.ob none (setOb w B S n)) :: L) (some (.ref B) :: W) e (wipe σ vs) Hz H',
      fun H' ⟨acc, S, n, e, Hz, a, a2, a3, b, c⟩ => ⟨its.length - (i + 1), by omega, rfl, hlt, acc, S, n, e, Hz, a, a2, a3, b, c⟩, fun x H' hy => ?_⟩
    obtain ⟨hl, st⟩ := step i _ acc e2 (List.getElem?_eq_getElem hlt) i2
    refine step_item hw s2 y2 hy (List.getElem?_eq_getElem hlt) hg st fun e3 σ3 Hz3 H3 w3 s3 y3 c3 => ?_
    have cw : wipe σ3 vs = wipe σ vs := by rw [c3 vs hv, wipe_wipe]
    refine ⟨cw, ht.run w3 y3 fun b e4 Hz4 H4 w4 s4 y4 => ?_⟩
    by_cases c : b = true
    · rw [if_pos c] at w4 ⊢
      refine fz_run he w4 y4 fun d e5 v Hz5 H5 w5 s5 y5 d5 => ?_
      obtain ⟨kk, rfl, w5⟩ := w5
      cases d5
      obtain ⟨a, ea, ho, _⟩ := y5.top
      cases ea
      refine ⟨kk, S, n, rfl, ho.2.2.1, by unfold scanBound; omega, acc ++ [kk], (fun j => S j || decide (j = kk)), (if S kk = true then n else n + 1), wipeE e5 vs, Hz5, w5, ?_, fun j => ?_, same_trans s2 (same_trans s3 (same_trans s4 s5)), ?_⟩
      · rw [List.length_append, List.length_singleton]
        split <;> omega
      · show (S j || decide (j = kk)) = _
        rw [hS j, Bool.eq_iff_iff]
        simp
      · have y6 := (y5.wrT (u := SetO w B (fun j => S j || decide (j = kk)) (if S kk = true then n else n + 1)) (setOb_ok upd_same)).wiped vs hb
        rw [cw] at y6
        exact y6
    · rw [if_neg c] at w4 ⊢
      have y6 := y4.wiped vs hb
      rw [cw] at y6
      exact ⟨acc, S, n, wipeE e4 vs, Hz4, w4, hn, hS, same_trans s2 (same_trans s3 s4), y6⟩
  · have : i = its.length := by omega
    subst this
    obtain ⟨hl, h64, hf⟩ := fin acc e2 i2
    obtain ⟨a, ea, ho, _⟩ := y2.top
    cases ea
    refine .inl ⟨hw.stop H (same_trans s2 y2.sm), B, S, n, rfl, ho.2.2.1, by omega, fun ns' q h3 h4 h5 hq => ?_⟩
    have y7 := Sy.back y1 s2 (y2.unwipe hb) (by rw [wipeE_len, hl]) vs
    exact k _ _ _ _ _ (hf ns' h3 fun kk => by rw [h4 kk, hS kk, decide_eq_true_iff]) (same_trans s1 s2) (y7.pop.newO (o := .lst _) hq ⟨_, upd_same, ints_dps ns'⟩) trivial⟩
end
/-! slices -/
theorem cut_to (xs : List PyData) (n : Nat) : cutD xs none (some (n : Int)) = xs.take n := by
  show (xs.drop 0).take (HT.sIx xs.length xs.length (some (n : Int)) - 0) = xs.take n
  rw [HT.sIx_nat, List.drop_zero, Nat.sub_zero, ← List.take_eq_take_min]
theorem cut_from (xs : List PyData) (n : Nat) : cutD xs (some (n : Int)) none = xs.drop n := by
  show (xs.drop (HT.sIx xs.length 0 (some (n : Int)))).take (xs.length - HT.sIx xs.length 0 (some (n : Int))) = xs.drop n
  rw [HT.sIx_nat]
  by_cases c : n ≤ xs.length
  · rw [Nat.min_eq_left c, List.take_of_length_le (by rw [List.length_drop]; omega)]
  · rw [Nat.min_eq_right (by omega), List.drop_eq_nil_of_le (Nat.le_refl _), List.drop_eq_nil_of_le (by omega), List.take_nil]
theorem cut_from1 (xs : List PyData) : cutD xs (some 1) none = xs.drop 1 := cut_from xs 1
theorem cut_initial (xs : List PyData) : cutD xs none (some (-1)) = xs.dropLast := by
  show (xs.drop 0).take ((if (-1 : Int) < 0 then ((-1 : Int) + (xs.length : Int)).toNat else 0) - 0) = xs.dropLast
  rw [List.drop_zero, Nat.sub_zero, if_pos (by decide), List.dropLast_eq_take]
  congr 1
  omega
end DL


set_option Elab.async false
set_option linter.all false
set_option maxRecDepth 100000
set_option maxHeartbeats 4000000
/-! enumerate(str) in a for, over the hand layer -/
namespace TG
open PySem PySem.Spec PyProof.Rows L2
/-- the signs of a text at each turn, each in a new pair -/
def IteS (z : Str) : It :=
  ⟨fun i H => i < z.cps.size, fun i H v H' => ∃ T c, v = .ref T ∧ H T = none ∧ H' = upd H T (.tup [.int (i : Nat), .str ⟨#[c]⟩]) ∧ z.cps[i]? = some c, fun i H => z.cps.size = i⟩
theorem strIter_at {h h' : Heap} {a : Addr} {ty : String} {x : Str} {t : Tok} {i : Nat} (y : h.IsStrIter a ty x t i) (k : ∀ o, h.get? a = some o → h'.get? a = some o) : h'.IsStrIter a ty x t i :=
  let ⟨o, ho, r⟩ := y; ⟨o, k o ho, r⟩
theorem drawsS {prog : Program} {w : World} {A : Around} (hh : A.handled = none) (it : Addr) (x : Str) (t : Tok) (ty : String) (hty : ty = "str_ascii_iterator" ∨ ty = "str_iterator") :
    Draws prog w A it [it] x.cps.size (fun i v => ∃ c u, x.cps[i]? = some c ∧ v = .str ⟨#[c]⟩ u) (fun i h => h.IsStrIter it ty x t i) := by
  rcases hty with e | e
  · rw [e]; exact Draws.strAscii hh it x t
  · rw [e]; exact Draws.strWide hh it x t
theorem turn_enumS {P : Program} {w : World} {K : PySem.W.Frag} {elts : List Expr} {kk : Nat} {tpos : Pos} (e it : Addr) (x : Str) (t : Tok) (ty : String) (hty : ty = "str_ascii_iterator" ∨ ty = "str_iterator") :
    Turn P w K (.Tuple elts kk tpos) (IteS x) [e, it] e (fun i h => (∃ old, IsEnum h e it ((i : Nat) : Int) old) ∧ h.IsStrIter it ty x t i ∧ e ≠ it) where
  mem := by simp
  obj := fun i h st b hb => by
    obtain ⟨⟨old, he⟩, ⟨o, ho, hc, hd⟩, _⟩ := st
    have e' : b = e ∨ b = it := by simpa using hb
    rcases e' with z | z
    · rw [z]; exact ⟨_, he, fun v q => nomatch q⟩
    · rw [z]; exact ⟨o, ho, fun v q => by rw [hd] at q; cases q⟩
  keep := fun i h h' st k => let ⟨⟨old, he⟩, hi, hne⟩ := st; ⟨⟨old, k e (by simp) _ he⟩, strIter_at hi fun o q => k it (by simp) o q, hne⟩
  item := by
    intro X hP hw hK hc i pins s σ H E I hf st hg
    subst hP hw hK
    obtain ⟨⟨old, he⟩, hit, hne⟩ := st
    have hel : e < s.heap.objs.size := Heap.lt_size he
    have hil : it < s.heap.objs.size := by obtain ⟨_, q, _⟩ := hit; exact Heap.lt_size q
    have D := drawsS (prog := X.prog) (w := X.w) (A := X.A.in1) (I.ok.hd hc) it x t ty hty
    refine wpAny_pyNext_enum_itemD D he hit hg hne (by simp [hne]) fun x' h' tk hP' ho hit' hT hsz hk => ?_
    obtain ⟨c, u, hcx, rfl⟩ := hP'
    refine ⟨_, rfl, wpAny_letOwnedTupleGo_enum (s := { s with heap := h', toks := tk + 1 }) ho fun h'' he' sb => ?_⟩
    have hT2 : h''.get? s.heap.objs.size = some { cls := .type "tuple", data := .seq #[.int i tk, .str ⟨#[c]⟩ u] } := (sb.2 _ (Nat.ne_of_gt hel)).trans hT
    have new : ObjOk X.prog X.w (upd H s.heap.objs.size (.tup [.int (i : Nat), .str ⟨#[c]⟩])) h'' s.heap.objs.size (.tup [.int (i : Nat), .str ⟨#[c]⟩]) :=
      ⟨by show 2 ≤ sizeLine; decide, [.int i tk, .str ⟨#[c]⟩ u], .cons ⟨_, rfl⟩ (.cons ⟨_, rfl⟩ .nil), ⟨_, hT2, rfl, _, rfl⟩⟩
    have I1 : Inv X pins σ (upd H s.heap.objs.size (.tup [.int (i : Nat), .str ⟨#[c]⟩])) { s with heap := h'', toks := tk + 1 } :=
      I.turnedNew (ch := [e, it]) (fun b ob hb q => (sb.2 b (fun z => hb (by simp [z]))).trans (hk b ob (fun z => hb (by simp [z])) (fun z => hb (by simp [z])) q)) hf (Nat.le_refl _) new
    refine ⟨.ref s.heap.objs.size, _, I1, rfl, ⟨_, c, rfl, I.hok.fresh (Nat.le_refl _), rfl, hcx⟩, ⟨⟨.str ⟨#[c]⟩ u, ?_⟩, strIter_at hit' fun o q => (sb.2 it (Ne.symm hne)).trans q, hne⟩, fun b hb => ?_⟩
    · have e1 : ((i + 1 : Nat) : Int) = (i : Int) + 1 := by omega
      rw [e1]; exact he'
    · have hb' : b < s.heap.objs.size := by
        have e' : b = e ∨ b = it := by simpa using hb
        rcases e' with z | z
        · rw [z]; exact hel
        · rw [z]; exact hil
      rw [upd_ne (Nat.ne_of_lt hb')]
      exact (hf b hb).1
  done := by
    intro X hP hw hK hc i pins s σ H E I hf st hg
    subst hP hw hK
    obtain ⟨⟨old, he⟩, hit, hne⟩ := st
    obtain ⟨f0, f1, f2, f3, f4, f5⟩ := hf it (by simp)
    have D := drawsS (prog := X.prog) (w := X.w) (A := X.A.in1) (I.ok.hd hc) it x t ty hty
    have hi : x.cps.size = i := hg
    rw [← hi] at hit
    exact wpAny_pyNext_enum_endD D he hit fun h' eb => ⟨rfl, I.turned (t' := s.toks) (fun b o hb q => eb b o hb q) f0 f1 f3 f4 f5⟩
  self := fun A i s Q E st h => let ⟨⟨_, he⟩, _⟩ := st; wpAny_pyIter_enum he h
def iEnumS (ta : TA) : TI := fun σ H R => ta σ H fun vs H1 => ∃ z, vs = [.str z] ∧ R (IteS z) H1
theorem pi_enumS {X : Cx} {e : Expr} {ta : TA} {p pos tpos : Pos} {elts : List Expr} {kk : Nat} (hg : Gl X "enumerate") (hm : X.mg "enumerate" = none) (ha : PA X [e] ta) (hs : starEach [e] X.env = [(false, eval e X.env)] := by rfl) :
    PI X (.Tuple elts kk tpos) (.Call (.Name "enumerate" p) [e] [] pos) (iEnumS ta) := by
  refine ⟨fun pins s σ H R I h => ?_⟩
  refine Call_ (ld_blt I hg hm boot_enumerate (PyProof.Rows.callWith_type1 (thn (ha.run pos pins s σ H _ I h) fun us s1 ⟨vs, H1, I1, r1, q1⟩ => ?_) hs rfl))
  obtain ⟨z, ex, q⟩ := q1
  subst ex
  cases r1 with
  | cons r rr =>
    cases rr
    obtain ⟨t, rfl⟩ := r
    refine call_enumerate_str fun h' he hit hsz hk => wpAny_pyIter_enum he ?_
    have I2 : Inv X pins σ H1 { s1 with heap := h' } := I1.kept (t' := s1.toks) hk
    have hty : strIterType z = "str_ascii_iterator" ∨ strIterType z = "str_iterator" := by
      unfold strIterType
      split
      · exact .inl rfl
      · exact .inr rfl
    refine ⟨s1.heap.objs.size + 1, [s1.heap.objs.size + 1, s1.heap.objs.size], _, _, H1, rfl, I2, turn_enumS (s1.heap.objs.size + 1) s1.heap.objs.size z t (strIterType z) hty, ⟨⟨.none, he⟩, hit, Nat.succ_ne_self _⟩, fun b hb => ?_, q⟩
    have e' : b = s1.heap.objs.size + 1 ∨ b = s1.heap.objs.size := by simpa using hb
    have hle : s1.heap.objs.size ≤ b := by
      rcases e' with z | z
      · rw [z]; exact Nat.le_add_right _ _
      · rw [z]; exact Nat.le_refl _
    exact I1.fpOk hle (I1.hok.fresh hle)
end TG


set_option Elab.async false
set_option linter.all false
set_option maxRecDepth 100000
set_option maxHeartbeats 4000000
/-! Strings in the layer; calls of built-ins of two ints; a datum of the top. -/
namespace DL
open PySem L2 TG
variable {f : Fr} {te : TE} {E : WE}
def gAddS (d1 d2 : PyData) (P : Vl → Prop) : Prop := match d1, d2 with
  | .str i, .str j => i.length + j.length ≤ sizeLine ∧ P (.dat (.str (i ++ j)))
  | _, _ => False
theorem eAddS {i j : Str} {P : Vl → Prop} : gAddS (.str i) (.str j) P = (i.length + j.length ≤ sizeLine ∧ P (.dat (.str (i ++ j)))) := rfl
theorem sr_addS : SR f (fun x y H Q => ∃ i j, x = .str i ∧ y = .str j ∧ i.length + j.length ≤ sizeLine ∧ Q (.str (i ++ j)) H) gAddS := ⟨fun {L W e σ Hz H x y d1 d2 Post Q} r1 r2 s h k => by
  unfold gAddS at h
  split at h
  · cases r1
    cases r2
    exact ⟨_, _, rfl, rfl, h.1, k _ _ _ _ h.2 same_refl s (Dp.str _)⟩
  · exact h.elim⟩
def gInS (neg : Bool) (d1 d2 : PyData) (P : Vl → Prop) : Prop := match d1, d2 with
  | .str x, .str z => ∃ c, x = ⟨#[c]⟩ ∧ P (.dat (.bool (if neg then !decide (c ∈ z.cps.toList) else decide (c ∈ z.cps.toList))))
  | _, _ => False
theorem eInS {neg : Bool} {x z : Str} {P : Vl → Prop} : gInS neg (.str x) (.str z) P = (∃ c, x = ⟨#[c]⟩ ∧ P (.dat (.bool (if neg then !decide (c ∈ z.cps.toList) else decide (c ∈ z.cps.toList))))) := rfl
theorem sr_inS : SR f (fun x y H Q => ∃ (c : Nat) (z : Str), x = .str ⟨#[c]⟩ ∧ y = .str z ∧ Q (.bl (decide (c ∈ z.cps.toList))) H) (gInS false) := ⟨fun {L W e σ Hz H x y d1 d2 Post Q} r1 r2 s h k => by
  unfold gInS at h
  split at h
  · obtain ⟨c, rfl, h⟩ := h
    cases r1
    cases r2
    exact ⟨_, _, rfl, rfl, k _ _ _ _ h same_refl s (Dp.bl _)⟩
  · exact h.elim⟩
theorem sr_notInS : SR f (fun x y H Q => ∃ (c : Nat) (z : Str), x = .str ⟨#[c]⟩ ∧ y = .str z ∧ Q (.bl (!decide (c ∈ z.cps.toList))) H) (gInS true) := ⟨fun {L W e σ Hz H x y d1 d2 Post Q} r1 r2 s h k => by
  unfold gInS at h
  split at h
  · obtain ⟨c, rfl, h⟩ := h
    cases r1
    cases r2
    exact ⟨_, _, rfl, rfl, k _ _ _ _ h same_refl s (Dp.bl _)⟩
  · exact h.elim⟩
def gLenS (d : PyData) (P : Vl → Prop) : Prop := match d with
  | .str z => z.length ≤ sizeLine ∧ P (.dat (.int z.length))
  | _ => False
theorem eLenS {z : Str} {P : Vl → Prop} : gLenS (.str z) P = (z.length ≤ sizeLine ∧ P (.dat (.int z.length))) := rfl
theorem sc_lenS : SC f (fun xs H Q => ∃ z, xs = [.str z] ∧ z.length ≤ sizeLine ∧ Q (.int z.length) H) gLenS := ⟨fun {L W e σ Hz H x d Post Q} r s h k => by
  unfold gLenS at h
  split at h
  · cases r
    exact ⟨_, rfl, h.1, k _ _ _ _ h.2 same_refl s (Dp.int _)⟩
  · exact h.elim⟩
def wSlS (E : WE) (A B : WO) (e : En) (P : Vl → En → Prop) : Prop := wFz E e fun d e1 => A e1 fun lo e2 => B e2 fun hi e3 => match d with
  | .str z => z.length ≤ sizeLine ∧ P (.dat (.str (cutS z lo hi))) e3
  | _ => False
theorem se_slS {tl th : TO} {A B : WO} (h : SE f te E) (hl : SO f tl A) (hh : SO f th B) : SE f (tSl rSlS te tl th) (wSlS E A B) := ⟨fun {L W e σ Hz H Post Q} w y k =>
  fz_run h w y fun d e1 v Hz1 H1 w1 s1 y1 d1 => hl.run w1 y1 fun lo e2 Hz2 H2 w2 s2 y2 => hh.run w2 y2 fun hi e3 Hz3 H3 w3 s3 y3 => by
    split at w3
    · cases d1
      exact ⟨_, rfl, w3.1, k _ _ _ _ _ w3.2 (same_trans s1 (same_trans s2 s3)) y3 (Dp.str _)⟩
    · exact w3.elim⟩
/-- a built-in of two ints -/
def wI2 (g : Int → Int → V) (A : WA) (e : En) (P : Vl → En → Prop) : Prop := A e fun ds e1 => match ds with
  | [.int i, .int j] => P (.dat (vD (g i j))) e1
  | _ => False
theorem se_cbI2 {r : List V → Hp → VK → Prop} {g : Int → Int → V} {ta : TA} {A : WA} (hr : ∀ i j H Q, Q (g i j) H → r [.int i, .int j] H Q) (hg : ∀ i j, scV (g i j) = true) (h : SA f ta A) : SE f (tCB r ta) (wI2 g A) := ⟨fun {L W e σ Hz H Post Q} w y k => h.run w y fun ds e1 vs Hz1 H1 h1 s1 y1 d1 => by
  split at h1
  · cases d1 with
    | cons a1 a2 =>
      cases a1
      cases a2 with
      | cons b1 b2 =>
        cases b1
        cases b2
        exact hr _ _ _ _ (k _ _ _ _ _ h1 s1 y1 (dp_sc (hg _ _)))
  · exact h1.elim⟩
def gMx (i j : Int) : V := .int (if j > i then j else i)
def gMn (i j : Int) : V := .int (if j < i then j else i)
def gGcd (i j : Int) : V := .int ((Nat.gcd i.natAbs j.natAbs : Nat) : Int)
theorem se_max2 {ta : TA} {A : WA} (h : SA f ta A) : SE f (tCB (fun xs H Q => ∃ i j, xs = [.int i, .int j] ∧ Q (.int (if j > i then j else i)) H) ta) (wI2 gMx A) := se_cbI2 (fun i j H Q q => ⟨i, j, rfl, q⟩) (fun _ _ => rfl) h
theorem se_min2 {ta : TA} {A : WA} (h : SA f ta A) : SE f (tCB (fun xs H Q => ∃ i j, xs = [.int i, .int j] ∧ Q (.int (if j < i then j else i)) H) ta) (wI2 gMn A) := se_cbI2 (fun i j H Q q => ⟨i, j, rfl, q⟩) (fun _ _ => rfl) h
theorem se_gcd {ta : TA} {A : WA} (h : SA f ta A) : SE f (tCB rGcd ta) (wI2 gGcd A) := se_cbI2 (fun i j H Q q => ⟨i, j, rfl, q⟩) (fun _ _ => rfl) h
theorem evd_mx {i j : Int} : vD (gMx i j) = .int (if j > i then j else i) := rfl
theorem evd_mn {i j : Int} : vD (gMn i j) = .int (if j < i then j else i) := rfl
theorem evd_gcd {i j : Int} : vD (gGcd i j) = .int ((Nat.gcd i.natAbs j.natAbs : Nat) : Int) := rfl
/-- a datum that stands in the top -/
theorem se_gd {v : V} {d : PyData} (h : ∀ H, Dp f.K H v d) : SE f (tC v) (wC d) := ⟨fun w y k => k _ _ _ _ _ w same_refl y (h _)⟩
/-- the signs of a text -/
def sgD (z : Str) : List PyData := z.cps.toList.map fun c => .str ⟨#[c]⟩
theorem sgD_len (z : Str) : (sgD z).length = z.cps.size := by simp [sgD]
theorem sgD_get {z : Str} {i : Nat} {d : PyData} (h : (sgD z)[i]? = some d) : ∃ c, z.cps[i]? = some c ∧ d = .str ⟨#[c]⟩ := by
  unfold sgD at h
  rw [List.getElem?_map] at h
  cases hc : z.cps.toList[i]? with
  | none => rw [hc] at h; cases h
  | some c => rw [hc] at h; cases h; exact ⟨c, by rw [← hc]; simp, rfl⟩
theorem walk_str {K : PySem.W.Frag} {Hz : Hp} (z : Str) : Walk K (Its z) Hz (sgD z) where
  stop := fun H s => by show z.cps.size ≤ _; rw [sgD_len]; exact Nat.le_refl _
  go := fun i H hi s => by rw [sgD_len] at hi; exact hi
  yld := fun i H x H' d s y e => by
    obtain ⟨rfl, c, hc, rfl⟩ := y
    obtain ⟨c', hc', rfl⟩ := sgD_get e
    rw [hc] at hc'
    cases hc'
    exact .inl ⟨rfl, Dp.str _⟩
theorem walk_enumS {K : PySem.W.Frag} {Hz : Hp} (z : Str) : Walk K (IteS z) Hz (enumD (sgD z)) where
  stop := fun H s => by show z.cps.size = _; rw [enumD_len, sgD_len]
  go := fun i H hi s => by rw [enumD_len, sgD_len] at hi; exact hi
  yld := fun i H x H' d s y e => by
    obtain ⟨T, c, rfl, h1, rfl, hc⟩ := y
    obtain ⟨dx, e1, rfl⟩ := enumD_get e
    obtain ⟨c', hc', rfl⟩ := sgD_get e1
    rw [hc] at hc'
    cases hc'
    exact .inr ⟨T, _, _, rfl, h1, rfl, rfl, .cons (.int _) (.cons (Dp.str _) .nil)⟩
def wIStr (E : WE) (e : En) (P : List PyData → En → Prop) : Prop := wFz E e fun d e1 => match d with
  | .str z => P (sgD z) e1
  | _ => False
theorem si_str (h : SE f te E) : SI f (iStr te) (wIStr E) := ⟨fun {L W e σ Hz H Post R} w y k => fz_run h w y fun d e1 v Hz1 H1 h1 s1 y1 d1 => by
  split at h1
  · cases d1
    exact ⟨_, rfl, k _ _ _ _ _ h1 s1 y1 (walk_str _)⟩
  · exact h1.elim⟩
def wIEnumS (E : WE) (e : En) (P : List PyData → En → Prop) : Prop := wFz E e fun d e1 => match d with
  | .str z => P (enumD (sgD z)) e1
  | _ => False
theorem si_enumS (h : SE f te E) : SI f (iEnumS (tCons te tNil)) (wIEnumS E) := ⟨fun {L W e σ Hz H Post R} w y k => fz_run h w y fun d e1 v Hz1 H1 h1 s1 y1 d1 => by
  split at h1
  · cases d1
    exact ⟨_, rfl, k _ _ _ _ _ h1 s1 y1 (walk_enumS _)⟩
  · exact h1.elim⟩
end DL


set_option Elab.async false
set_option linter.all false
set_option maxRecDepth 100000
set_option maxHeartbeats 4000000
/-! join, str of an int, int of a text. -/
namespace DL
open PySem L2 TG
def rJoinK (K : PySem.W.Frag) : V → List V → Hp → VK → Prop := fun x xs H Q => ∃ a p, ∃ ys : List Str, x = .str a ∧ xs = [.ref p] ∧ (SqL K H p (ys.map V.str) ∨ SqT K H p (ys.map V.str)) ∧ (ys.map (·.length)).sum + ys.length * a.length ≤ 16777216 ∧ Q (.str (Txt.join a ys)) H
theorem pe_joinK {X : Cx} {K : PySem.W.Frag} {o e : Expr} {to te : TE} (hK : X.K = K) {apos pos : Pos} (ho : PE X o to) (he : PE X e te) (hs : starEach [e] X.env = [(false, eval e X.env)] := by rfl) (hbase : attributeBase o "join" X.env (eval o X.env) = eval o X.env := by rfl) (hline : (apos.endLine == pos.line) = true := by rfl) :
    PE X (.Call (.Attribute o "join" apos) [e] [] pos) (tM1 (rJoinK K) to te) := by
  subst hK
  exact pe_join ho he hs hbase hline
variable {f : Fr} {te to : TE} {E Eo : WE}
def strsD : List PyData → Option (List Str)
  | [] => some []
  | .str i :: ds => (strsD ds).map (i :: ·)
  | _ :: _ => none
theorem strsD_map (ns : List Str) : strsD (ns.map PyData.str) = some ns := by
  induction ns with
  | nil => rfl
  | cons n ns ih => simp [strsD, ih]
theorem strsD_eq : ∀ {ds : List PyData} {ns : List Str}, strsD ds = some ns → ds = ns.map PyData.str
  | [], ns, h => by cases h; rfl
  | .str i :: ds, ns, h => by
    unfold strsD at h
    cases c : strsD ds with
    | none => rw [c] at h; cases h
    | some ms =>
      rw [c] at h
      cases h
      rw [strsD_eq c]
      rfl
  | .none :: _, _, h => by cases h
  | .int _ :: _, _, h => by cases h
  | .bool _ :: _, _, h => by cases h
  | .list _ :: _, _, h => by cases h
  | .tuple _ :: _, _, h => by cases h
  | .dict _ :: _, _, h => by cases h
theorem dps_strs {K : PySem.W.Frag} {Hz : Hp} : ∀ {ns : List Str} {vs : List V}, DpAll K Hz vs (ns.map PyData.str) → vs = ns.map V.str
  | [], _, .nil => rfl
  | n :: ns, _, .cons h1 h2 => by
    cases h1
    rw [dps_strs h2]
    rfl
def jnS (a : Str) (d2 : PyData) (P : Vl → En → Prop) (e2 : En) : Prop := match d2 with
  | .list ds => ob1 (strsD ds) fun ys => (ys.map (·.length)).sum + ys.length * a.length ≤ 16777216 ∧ P (.dat (.str (Txt.join a ys))) e2
  | .tuple ds => ob1 (strsD ds) fun ys => (ys.map (·.length)).sum + ys.length * a.length ≤ 16777216 ∧ P (.dat (.str (Txt.join a ys))) e2
  | _ => False
theorem eJnL {a : Str} {ds : List PyData} {P : Vl → En → Prop} {e2 : En} : jnS a (.list ds) P e2 = ob1 (strsD ds) fun ys => (ys.map (·.length)).sum + ys.length * a.length ≤ 16777216 ∧ P (.dat (.str (Txt.join a ys))) e2 := rfl
theorem eJnT {a : Str} {ds : List PyData} {P : Vl → En → Prop} {e2 : En} : jnS a (.tuple ds) P e2 = ob1 (strsD ds) fun ys => (ys.map (·.length)).sum + ys.length * a.length ≤ 16777216 ∧ P (.dat (.str (Txt.join a ys))) e2 := rfl
def wJoin (Eo E : WE) (e : En) (P : Vl → En → Prop) : Prop := wFz Eo e fun d1 e1 => match d1 with
  | .str a => wFz E e1 fun d2 e2 => jnS a d2 P e2
  | _ => False
theorem se_join (ho : SE f to Eo) (he : SE f te E) : SE f (tM1 (rJoinK f.K) to te) (wJoin Eo E) := ⟨fun {L W e σ Hz H Post Q} w y k => fz_run ho w y fun d1 e1 v1 Hz1 H1 h1 s1 y1 p1 => by
  split at h1
  · cases p1
    refine ⟨⟨_, rfl⟩, fz_run he h1 y1 fun d2 e2 v2 Hz2 H2 h2 s2 y2 p2 => ?_⟩
    unfold jnS at h2
    split at h2
    · obtain ⟨ys, c, h3, h4⟩ := ob1_ex h2
      rw [strsD_eq c] at p2
      cases p2 with
      | lst q1 q2 =>
        rw [dps_strs q2] at q1
        exact ⟨_, _, ys, rfl, rfl, .inl (sqL y2.sm q1), h3, k _ _ _ _ _ h4 (same_trans s1 s2) y2 (Dp.str _)⟩
    · obtain ⟨ys, c, h3, h4⟩ := ob1_ex h2
      rw [strsD_eq c] at p2
      cases p2 with
      | tup q1 q2 =>
        rw [dps_strs q2] at q1
        exact ⟨_, _, ys, rfl, rfl, .inr (sqT y2.sm q1), h3, k _ _ _ _ _ h4 (same_trans s1 s2) y2 (Dp.str _)⟩
    · exact h2.elim
  · exact h1.elim⟩
/-- str(i) -/
def gStrI (d : PyData) (P : Vl → Prop) : Prop := match d with
  | .int i => i.natAbs.log2 < 1920 ∧ P (.dat (.str (toString i)))
  | _ => False
theorem eStrI {i : Int} {P : Vl → Prop} : gStrI (.int i) P = (i.natAbs.log2 < 1920 ∧ P (.dat (.str (toString i)))) := rfl
theorem sc_strI : SC f (fun xs H Q => ∃ i, xs = [.int i] ∧ i.natAbs.log2 < 1920 ∧ Q (.str (toString i)) H) gStrI := ⟨fun {L W e σ Hz H x d Post Q} r s h k => by
  unfold gStrI at h
  split at h
  · cases r
    exact ⟨_, rfl, h.1, k _ _ _ _ h.2 same_refl s (Dp.str _)⟩
  · exact h.elim⟩
/-- int(text) -/
def gIntS (d : PyData) (P : Vl → Prop) : Prop := match d with
  | .str a => a.length ≤ 640 ∧ ob1 (PySem.intText? a) fun n => P (.dat (.int n))
  | _ => False
theorem eIntS {a : Str} {P : Vl → Prop} : gIntS (.str a) P = (a.length ≤ 640 ∧ ob1 (PySem.intText? a) fun n => P (.dat (.int n))) := rfl
theorem sc_intS : SC f (fun xs H Q => ∃ a n, xs = [.str a] ∧ PySem.intText? a = some n ∧ a.length ≤ 640 ∧ Q (.int n) H) gIntS := ⟨fun {L W e σ Hz H x d Post Q} r s h k => by
  unfold gIntS at h
  split at h
  · obtain ⟨h1, h⟩ := h
    obtain ⟨n, c, h⟩ := ob1_ex h
    cases r
    exact ⟨_, n, rfl, c, h1, k _ _ _ _ h same_refl s (Dp.int _)⟩
  · exact h.elim⟩
end DL


set_option Elab.async false
set_option linter.all false
set_option maxRecDepth 100000
set_option maxHeartbeats 4000000
/-! A written dict of one entry whose key is a tuple. -/
namespace DL
open PySem PySem.Spec PyProof.Rows L2 TG
def tNDisp (P : Program) (w : World) (K : PySem.W.Frag) (tk tv : TE) : TE := fun σ H Q => ∀ p, H p = none → tk σ (upd H p (dnO P w p [])) fun y H1 => tv σ H1 fun v H2 => ∃ b k, y = .ref b ∧ H2 p = some (dnO P w p []) ∧ KeyAt K H2 b k ∧ Q (.ref p) (upd H2 p (dnO P w p [(k, b, v)]))
theorem dictOne {X : Cx} {key value : Expr} {pos : Pos} {s : Shared} {Q : Value → Shared → Prop} (hu : (nestedKind X.prog X.w).room X.A)
    (h : wpAny (model X.prog X.w) X.A (evalPairs (pairTrees [some key] [value] X.env pos)) (fun vs s1 => ∃ e : NestedKey × Addr × Value, CarriesH (nestedKind X.prog X.w) s1.heap vs [e] ∧ s1.heap.DictOfH (nestedKind X.prog X.w) s.heap.objs.size [] ∧
      ∀ h' tk, h'.DictOfH (nestedKind X.prog X.w) s.heap.objs.size [e] → Heap.SameBut s.heap.objs.size s1.heap h' → Q (.ref s.heap.objs.size) { s1 with heap := h', toks := tk }) X.xe
      { s with heap := s.heap.push { cls := .type "dict", data := .dict #[] } }) :
    wpAny (model X.prog X.w) X.A (eval (.Dict [some key] [value] pos) X.env) Q X.xe s := by
  have hs : (evalEachOpt [some key] X.env).zip ((evalEach [value] X.env).map fun v => do let x ← v; standAt pos; pure x) = (pairTrees [some key] [value] X.env pos).map fun p => (some p.1, p.2) := rfl
  rw [arm_eval_Dict, hs, dictDisplay_pairs _ (by simp [pairTrees]) (by simp [pairTrees])]
  refine wpAny_bind (wpAny_standAt (wpAny_bind ?_))
  refine wpAny_subDictH (knd := nestedKind X.prog X.w) (Q := fun d s' => wpAny (model X.prog X.w) X.A (pure (Value.ref d)) Q X.xe s') hu (by simp [pairTrees]) ?_
  refine wpAny_mono h (fun vs s1 q => ?_) fun _ _ z => z
  obtain ⟨e, c1, c2, c3⟩ := q
  exact ⟨[e], c1, c2, fun h' tk a b => wpAny_pure (c3 h' tk a b)⟩
theorem pe_ndisp {X : Cx} {K : PySem.W.Frag} {P : Program} {w : World} {pos : Pos} {key value : Expr} {tk tv : TE} (hK : X.K = K) (hP : X.prog = P) (hw : X.w = w) (hu : X.A.units + 64 < cLine) (hk : PE X key tk) (hv : PE X value tv) :
    PE X (.Dict [some key] [value] pos) (tNDisp P w K tk tv) := by
  subst hK hP hw
  refine ⟨fun pins s σ H Q I q => ?_⟩
  have hn := I.hok.fresh (Nat.le_refl s.heap.objs.size)
  have I1 := I.laid (a := s.heap.objs.size) (o := dnO X.prog X.w s.heap.objs.size []) (h' := s.heap.push { cls := .type "dict", data := .dict #[] }) (t' := s.toks) (fun _ _ q => Heap.get?_push_of_some _ q) (Nat.le_refl _)
    (dn_ok ⟨Nat.zero_le _, beq_eq_false_iff_ne.mpr (Ne.symm (Nat.ne_of_lt I.big)), [], .nil, _, #[], 0, Heap.get?_push_size _ rfl, ⟨rfl, rfl, rfl⟩, rfl, rfl, List.nodup_nil⟩)
  refine dictOne (by show X.A.units + 8 < cLine; omega) ?_
  have q2 : tPairs [(tk, tv)] σ (upd H s.heap.objs.size (dnO X.prog X.w s.heap.objs.size [])) (fun ps H2 => match ps with
    | [(y, v)] => ∃ b k, y = .ref b ∧ H2 s.heap.objs.size = some (dnO X.prog X.w s.heap.objs.size []) ∧ KeyAt X.K H2 b k ∧ Q (.ref s.heap.objs.size) (upd H2 s.heap.objs.size (dnO X.prog X.w s.heap.objs.size [(k, b, v)]))
    | _ => False) := q _ hn
  refine thn ((pps_cons (pos := pos) hk hv pps_nil).run pins _ σ _ _ I1 q2) ?_
  rintro vs s2 ⟨ps, H2, I2, rel, h2⟩
  match ps, vs, rel, h2 with
  | [(y, v)], [(u1, u2)], .cons ⟨r1, r2⟩ .nil, ⟨b, k, e1, e2, e3, e4⟩ =>
    subst e1
    obtain rfl : u1 = Value.ref b := r1
    obtain ⟨z, hd, xs, r, dd⟩ := dn_at I2 e2 (fun _ h => by cases h)
    cases r
    refine ⟨(k, b, u2), ⟨rfl, rfl, e3.is I2, trivial⟩, dd, fun h' tk dd' hs => ⟨.ref s.heap.objs.size, _, ?_, rfl, e4⟩⟩
    obtain ⟨o, es, ep, g1, g2, g3, g4, g5, g6⟩ := dd'
    exact d_write I2 (by rw [e2]; exact True.intro) hs ⟨o, g1⟩ (dn_ok ⟨by show 1 ≤ sizeLine; decide, hd, _, .cons ⟨rfl, rfl, r2⟩ .nil, o, es, ep, g1, g2, g3, g4, g6⟩)
end DL


set_option Elab.async false
set_option linter.all false
set_option maxRecDepth 100000
set_option maxHeartbeats 4000000
/-! Instances, methods, shared lists and dicts over the layer of values. -/
namespace DL
open PySem L2 TG
/-! ### names of attributes -/
theorem char_inj {a b : Char} (h : a.toNat = b.toNat) : a = b := by
  apply Char.ext
  apply UInt32.toNat_inj.mp
  exact h
theorem ofString_inj {s t : String} (h : Str.ofString s = Str.ofString t) : s = t := by
  rw [Str.ofString_eq_toList, Str.ofString_eq_toList] at h
  injection h with h
  have h2 : s.toList.map Char.toNat = t.toList.map Char.toNat := by
    have := congrArg Array.toList h
    simpa using this
  have inj : ∀ {l m : List Char}, l.map Char.toNat = m.map Char.toNat → l = m := by
    intro l
    induction l with
    | nil => intro m h; cases m with
      | nil => rfl
      | cons _ _ => cases h
    | cons a l ih => intro m h; cases m with
      | nil => cases h
      | cons b m =>
        simp only [List.map_cons, List.cons.injEq] at h
        rw [char_inj h.1, ih h.2]
  exact String.toList_inj.mp (inj h2)
theorem beq_ofString (s t : String) : (Str.ofString s == Str.ofString t) = (s == t) := by
  by_cases h : s = t
  · subst h
    simp
  · rw [beq_eq_false_iff_ne.mpr h, beq_eq_false_iff_ne.mpr (fun c => h (ofString_inj c))]
theorem PF.get {K : PySem.W.Frag} {Hz : Hp} {fs : List (String × PyData)} {vs : List (Str × V)} (h : PF K Hz fs vs) {s : String} {d : PyData} (e : fs.lookup s = some d) : ∃ v, vs.lookup (Str.ofString s) = some v ∧ Dp K Hz v d := by
  induction h with
  | nil => cases e
  | @cons t v d' fs vs q p ih =>
    rw [List.lookup_cons] at e ⊢
    rw [beq_ofString]
    cases c : s == t with
    | true =>
      rw [c] at e
      cases e
      exact ⟨v, rfl, q⟩
    | false =>
      rw [c] at e
      exact ih e
theorem PF.no {K : PySem.W.Frag} {Hz : Hp} {fs : List (String × PyData)} {vs : List (Str × V)} (h : PF K Hz fs vs) {s : String} (e : fs.lookup s = none) : vs.lookup (Str.ofString s) = none := by
  induction h with
  | nil => rfl
  | @cons t v d' fs vs q p ih =>
    rw [List.lookup_cons] at e ⊢
    rw [beq_ofString]
    cases c : s == t with
    | true => rw [c] at e; cases e
    | false => rw [c] at e; exact ih e
def putA (s : String) (d : PyData) : List (String × PyData) → List (String × PyData)
  | [] => [(s, d)]
  | (t, x) :: r => if t = s then (t, d) :: r else (t, x) :: putA s d r
theorem putA_nil {s : String} {d : PyData} : putA s d [] = [(s, d)] := rfl
theorem putA_cons {s t : String} {d x : PyData} {r : List (String × PyData)} : putA s d ((t, x) :: r) = if t = s then (t, d) :: r else (t, x) :: putA s d r := rfl
theorem PF.put {K : PySem.W.Frag} {Hz : Hp} {fs : List (String × PyData)} {vs : List (Str × V)} (h : PF K Hz fs vs) {s : String} {d : PyData} {v : V} (q : Dp K Hz v d) : PF K Hz (putA s d fs) (putF (Str.ofString s) v vs) := by
  induction h with
  | nil => exact .cons q .nil
  | @cons t x d' fs vs q' p ih =>
    rw [putA_cons]
    show PF K Hz _ (if Str.ofString t = Str.ofString s then (Str.ofString t, v) :: vs else (Str.ofString t, x) :: putF (Str.ofString s) v vs)
    by_cases c : t = s
    · subst c
      rw [if_pos rfl, if_pos rfl]
      exact .cons q p
    · rw [if_neg c, if_neg (fun z => c (ofString_inj z))]
      exact .cons q' ih
theorem PF.len {K : PySem.W.Frag} {Hz : Hp} {fs : List (String × PyData)} {vs : List (Str × V)} (h : PF K Hz fs vs) : vs.length = fs.length := by
  induction h with
  | nil => rfl
  | cons _ _ ih => rw [List.length_cons, List.length_cons, ih]
/-! ### pointers -/
def unp : PyData → Option Addr
  | .dict [(.none, .int (.ofNat a))] => some a
  | _ => none
theorem unp_ptr {a : Addr} : unp (ptr a) = some a := rfl
theorem unp_eq {d : PyData} {a : Addr} (h : unp d = some a) : d = ptr a := by
  unfold unp at h
  split at h
  · cases h
    rfl
  · cases h
theorem dp_ptr {K : PySem.W.Frag} {Hz : Hp} {v : V} {a : Addr} (h : Dp K Hz v (ptr a)) : v = .ref a := by
  generalize e : ptr a = d at h
  cases h with
  | ptr b => rw [ptr_inj e]
  | dic _ => cases e
  | _ => cases e
/-- the object that a value points to -/
def ptrK (P : Addr → En → Prop) (b : Vl) (e : En) : Prop := match b with
  | .dat d => ob1 (unp d) fun a => P a e
  | .gob _ a => P a e
  | _ => False
theorem ptrK_dat {P : Addr → En → Prop} {d : PyData} {e : En} : ptrK P (.dat d) e = ob1 (unp d) fun a => P a e := rfl
theorem ptrK_gob {P : Addr → En → Prop} {n : Nat} {a : Addr} {e : En} : ptrK P (.gob n a) e = P a e := rfl
def insAt (C : Addr) (x : Option Cell) (g : List (String × PyData) → Prop) : Prop := ∃ fs, x = some (.ins C fs) ∧ g fs
theorem insAt_ins {C : Addr} {fs : List (String × PyData)} {g : List (String × PyData) → Prop} : insAt C (some (.ins C fs)) g = g fs := by
  apply propext
  constructor
  · rintro ⟨fs', e, h⟩
    cases e
    exact h
  · intro h
    exact ⟨fs, rfl, h⟩
def lstAt (x : Option Cell) (g : List PyData → Prop) : Prop := match x with
  | some (.ob (.lst ds)) => g ds
  | _ => False
theorem lstAt_lst {ds : List PyData} {g : List PyData → Prop} : lstAt (some (.ob (.lst ds))) g = g ds := rfl
def dnAt (P : Program) (w : World) (x : Option Cell) (g : List (NestedKey × PyData) → Prop) : Prop := ∃ kvs, x = some (.ob (.dN P w kvs)) ∧ g kvs
theorem dnAt_dN {P : Program} {w : World} {kvs : List (NestedKey × PyData)} {g : List (NestedKey × PyData) → Prop} : dnAt P w (some (.ob (.dN P w kvs))) g = g kvs := by
  apply propext
  constructor
  · rintro ⟨fs', e, h⟩
    cases e
    exact h
  · intro h
    exact ⟨kvs, rfl, h⟩
def dkAt (x : Option Cell) (g : List (Key × PyData) → Prop) : Prop := match x with
  | some (.ob (.dK kvs)) => g kvs
  | _ => False
theorem dkAt_dK {kvs : List (Key × PyData)} {g : List (Key × PyData) → Prop} : dkAt (some (.ob (.dK kvs))) g = g kvs := rfl
section
variable {f : Fr} {te td ty tx : TE} {E Ed Ey Ex : WE} {ta : TA} {A : WA}
/-- running to a pointer -/
theorem ptr_run (h : SE f te E) {L W e σ Hz H} {Post : Addr → En → Prop} {Q : VK} (w : E e (ptrK Post)) (y : Sy f L W e σ Hz H) (k : ∀ a e' Hz' H', Post a e' → Same Hz Hz' → Sy f L W e' σ Hz' H' → Q (.ref a) H') : te σ H Q :=
  h.run w y fun b e1 v Hz1 H1 w1 s1 y1 l1 => by
    cases b with
    | dat d =>
      rw [ptrK_dat] at w1
      obtain ⟨a, c, w1⟩ := ob1_ex w1
      have l1' : Dp f.K Hz1 v d := l1
      rw [unp_eq c] at l1'
      rw [dp_ptr l1']
      exact k _ _ _ _ w1 s1 y1
    | gob n a =>
      have l1' : v = .ref a := l1
      rw [l1']
      exact k _ _ _ _ w1 s1 y1
    | ob o => exact w1.elim
    | own i => exact w1.elim
/-- o.s -/
def wFld (n : Nat) (C : Addr) (s : String) (E : WE) (e : En) (P : Vl → En → Prop) : Prop := E e (ptrK fun a e1 => gsAt (fun G => insAt C (G a) fun fs => ob1 (fs.lookup s) fun d => P (.dat d) e1) e1[n]?)
theorem se_fld {n : Nat} {C : Addr} {s : String} (hc : Cls f.K C) (hn : NoAttr f.K C (Str.ofString s)) (h : SE f te E) : SE f (tFld f.K te (Str.ofString s)) (wFld n C s E) := ⟨fun {L W e σ Hz H Post Q} w y k => ptr_run h w y fun a e1 Hz1 H1 w1 s1 y1 => by
  obtain ⟨G, he, fs, hG, w1⟩ := gsAt_ex w1
  obtain ⟨d, hd, w1⟩ := ob1_ex w1
  obtain ⟨⟨dx, vs, hH, pf⟩, hz⟩ := y1.gget he hG
  obtain ⟨v, hv, dv⟩ := pf.get hd
  exact ⟨a, C, dx, vs, v, rfl, hH, hc, hn, hv, k _ _ _ _ _ w1 s1 y1 dv⟩⟩
/-- the object itself, to be read -/
def wDr (n : Nat) (E : WE) (e : En) (P : Vl → En → Prop) : Prop := E e (ptrK fun a e1 => P (.gob n a) e1)
theorem se_dr {n : Nat} (h : SE f te E) : SE f te (wDr n E) := ⟨fun {L W e σ Hz H Post Q} w y k => ptr_run h w y fun a e1 Hz1 H1 w1 s1 y1 => k (.gob n a) _ _ _ _ w1 s1 y1 rfl⟩
/-- a new object becomes a shared one -/
def toGK (n : Nat) (P : Vl → En → Prop) (b : Vl) (e1 : En) : Prop := match b with
  | .ob o => gsAt (fun G => ∀ p, G p = none → P (.dat (ptr p)) (e1.set n (some (.gs (upG G p (.ob o)))))) e1[n]?
  | .dat d => P (.dat d) e1
  | _ => False
theorem toGK_ob {n : Nat} {P : Vl → En → Prop} {o : Ob} {e1 : En} : toGK n P (.ob o) e1 = gsAt (fun G => ∀ p, G p = none → P (.dat (ptr p)) (e1.set n (some (.gs (upG G p (.ob o)))))) e1[n]? := rfl
theorem toGK_dat {n : Nat} {P : Vl → En → Prop} {d : PyData} {e1 : En} : toGK n P (.dat d) e1 = P (.dat d) e1 := rfl
def wToG (n : Nat) (E : WE) (e : En) (P : Vl → En → Prop) : Prop := E e (toGK n P)
theorem se_toG {n : Nat} (h : SE f te E) : SE f te (wToG n E) := ⟨fun {L W e σ Hz H Post Q} w y k => h.run w y fun b e1 v Hz1 H1 w1 s1 y1 l1 => by
  cases b with
  | dat d => exact k _ _ _ _ _ w1 s1 y1 l1
  | ob o =>
    rw [toGK_ob] at w1
    obtain ⟨G, he, w1⟩ := gsAt_ex w1
    obtain ⟨a, ea, _, _⟩ := Sy.top y1
    cases ea
    obtain ⟨y2, hn⟩ := Sy.gmv y1 he
    exact k _ _ _ _ _ (w1 a hn) s1 y2 (Dp.ptr a)
  | own i => exact w1.elim
  | gob n a => exact w1.elim⟩
/-- o.s = e -/
def wSFld (n : Nat) (C : Addr) (s : String) (E Eo : WE) (P : Po) (e : En) : Prop := wFz E e fun d e1 => Eo e1 (ptrK fun a e2 => gsAt (fun G => insAt C (G a) fun fs => fs.length < 1000 ∧ P.nx (e2.set n (some (.gs (upG G a (.ins C (putA s d fs))))))) e2[n]?)
theorem ss_fld {n : Nat} {C : Addr} {s : String} (hc : Cls f.K C) (hn : NoAttr f.K C (Str.ofString s)) (ho : SE f td Ed) (hv : SE f te E) : SS f (sFld f.K td te (Str.ofString s)) (wSFld n C s E Ed) := ⟨fun {D P e σ Hz H} w y o => fz_run hv w y fun d e1 v Hz1 H1 w1 s1 y1 d1 => ptr_run ho w1 y1 fun a e2 Hz2 H2 w2 s2 y2 => by
  obtain ⟨G, he, fs, hG, hl, w2⟩ := gsAt_ex w2
  obtain ⟨⟨dx, vs, hH, pf⟩, hz⟩ := y2.gget he hG
  refine ⟨a, C, dx, vs, rfl, hH, hc, hn, by rw [pf.len]; exact hl, o.nx w2 (same_trans s1 s2) (y2.gset he hG ⟨dx, _, upd_same, pf.put (dp_mono s2 _ _ d1)⟩)⟩⟩
/-- o.append(e), o shared -/
def wAppG (n : Nat) (Ed E : WE) (e : En) (P : Vl → En → Prop) : Prop := Ed e (ptrK fun a e1 => gsAt (fun G => lstAt (G a) fun _ => wFz E e1 fun d e2 => gsAt (fun G' => lstAt (G' a) fun ds => ds.length ≤ 100000 ∧ P (.dat .none) (e2.set n (some (.gs (upG G' a (.ob (.lst (ds ++ [d])))))))) e2[n]?) e1[n]?)
theorem lstAt_ex {x : Option Cell} {g : List PyData → Prop} (h : lstAt x g) : ∃ ds, x = some (.ob (.lst ds)) ∧ g ds := by
  unfold lstAt at h
  split at h
  · exact ⟨_, rfl, h⟩
  · exact h.elim
theorem dkAt_ex {x : Option Cell} {g : List (Key × PyData) → Prop} (h : dkAt x g) : ∃ ds, x = some (.ob (.dK ds)) ∧ g ds := by
  unfold dkAt at h
  split at h
  · exact ⟨_, rfl, h⟩
  · exact h.elim
theorem se_appG {n : Nat} (hd : SE f td Ed) (h : SE f te E) : SE f (tBM f.K "list" rAppend td (tCons te tNil)) (wAppG n Ed E) := ⟨fun {L W e σ Hz H Post Q} w y k => ptr_run hd w y fun a e1 Hz1 H1 w1 s1 y1 => by
  obtain ⟨G, he, w1⟩ := gsAt_ex w1
  obtain ⟨ds0, hG, w1⟩ := lstAt_ex w1
  obtain ⟨⟨xs, hx, _⟩, _⟩ := y1.gget he hG
  refine .inl ⟨rfl, xs, SqL.of hx⟩ |> fun z => ⟨z, ?_⟩
  refine fz_run h w1 y1 fun d e2 v Hz2 H2 w2 s2 y2 d2 => ?_
  obtain ⟨G', he', w2⟩ := gsAt_ex w2
  obtain ⟨ds, hG', hl, w2⟩ := lstAt_ex w2
  obtain ⟨⟨xs2, hx2, dv⟩, _⟩ := y2.gget he' hG'
  exact ⟨a, xs2, v, rfl, rfl, hx2, line_lt (by rw [dps_len dv]; exact hl), k _ _ _ _ _ w2 (same_trans s1 s2) (y2.gset he' hG' ⟨_, upd_same, dps_snoc dv d2⟩) Dp.non⟩⟩
/-! ### shared dicts -/
variable {P : Program} {w : World}
/-- d[k] -/
def wNGetG (P : Program) (w : World) (n : Nat) (Ed Ey : WE) (e : En) (Q : Vl → En → Prop) : Prop := Ed e (ptrK fun a e1 => wFz Ey e1 fun d e2 => ob1 (keyT d) fun k => k.depth ≤ 8 ∧ gsAt (fun G => dnAt P w (G a) fun kvs => ob1 (valD kvs k) fun d => Q (.dat d) e2) e2[n]?)
theorem se_ngetG {n : Nat} (hd : SE f td Ed) (hy : SE f ty Ey) : SE f (tNGet f.K P w td ty) (wNGetG P w n Ed Ey) := ⟨fun {L W e σ Hz H Post Q} wp y k => ptr_run hd wp y fun a e1 Hz1 H1 w1 s1 y1 => fz_run hy w1 y1 fun d e2 v2 Hz2 H2 w2 s2 y2 d2 => by
  obtain ⟨ky, c1, hk, w2⟩ := ob1_ex w2
  obtain ⟨G, he, kvs, hG, w2⟩ := gsAt_ex w2
  obtain ⟨dv, c3, w2⟩ := ob1_ex w2
  obtain ⟨⟨ks, h2, h3, h4⟩, _⟩ := y2.gget he hG
  obtain ⟨b, rfl, hb⟩ := keyT_ref d2 c1 hk
  rcases kn_val h4 ky with ⟨q1, q2⟩ | ⟨v', d', q1, q2, q3⟩
  · rw [q1] at c3; cases c3
  · rw [q1] at c3
    cases c3
    exact ⟨a, ks, b, ky, v', rfl, ⟨rfl, h2, keys_same h3 y2.sm, hb.mono y2.sm⟩, q2, k _ _ _ _ _ w2 (same_trans s1 s2) y2 q3⟩⟩
/-- k in d, k not in d -/
def wNInG (P : Program) (w : World) (n : Nat) (neg : Bool) (Ey Ed : WE) (e : En) (Q : Vl → En → Prop) : Prop := wFz Ey e fun d e1 => Ed e1 (ptrK fun a e2 => ob1 (keyT d) fun k => k.depth ≤ 8 ∧ gsAt (fun G => dnAt P w (G a) fun kvs => Q (.dat (.bool (if neg then !(valD kvs k).isSome else (valD kvs k).isSome))) e2) e2[n]?)
theorem se_ninG {n : Nat} (hy : SE f ty Ey) (hd : SE f td Ed) : SE f (tNIn f.K P w ty td) (wNInG P w n false Ey Ed) := ⟨fun {L W e σ Hz H Post Q} wp y k => fz_run hy wp y fun d e1 v Hz1 H1 w1 s1 y1 d1 => ptr_run hd w1 y1 fun a e2 Hz2 H2 w2 s2 y2 => by
  obtain ⟨ky, c1, hk, w2⟩ := ob1_ex w2
  obtain ⟨G, he, kvs, hG, w2⟩ := gsAt_ex w2
  obtain ⟨⟨ks, h2, h3, h4⟩, _⟩ := y2.gget he hG
  obtain ⟨b, rfl, hb⟩ := keyT_ref (dp_mono s2 _ _ d1) c1 hk
  refine ⟨a, ks, b, ky, rfl, ⟨rfl, h2, keys_same h3 y2.sm, hb.mono y2.sm⟩, ?_⟩
  rw [kn_some h4]
  exact k _ _ _ _ _ w2 (same_trans s1 s2) y2 (Dp.bl _)⟩
theorem se_nnotinG {n : Nat} (hy : SE f ty Ey) (hd : SE f td Ed) : SE f (tNNotIn f.K P w ty td) (wNInG P w n true Ey Ed) := ⟨fun {L W e σ Hz H Post Q} wp y k => fz_run hy wp y fun d e1 v Hz1 H1 w1 s1 y1 d1 => ptr_run hd w1 y1 fun a e2 Hz2 H2 w2 s2 y2 => by
  obtain ⟨ky, c1, hk, w2⟩ := ob1_ex w2
  obtain ⟨G, he, kvs, hG, w2⟩ := gsAt_ex w2
  obtain ⟨⟨ks, h2, h3, h4⟩, _⟩ := y2.gget he hG
  obtain ⟨b, rfl, hb⟩ := keyT_ref (dp_mono s2 _ _ d1) c1 hk
  refine ⟨a, ks, b, ky, rfl, ⟨rfl, h2, keys_same h3 y2.sm, hb.mono y2.sm⟩, ?_⟩
  rw [kn_some h4]
  exact k _ _ _ _ _ w2 (same_trans s1 s2) y2 (Dp.bl _)⟩
/-- d[k] = v -/
def wNPutG (P : Program) (w : World) (n : Nat) (Ed Ey Ev : WE) (Q : Po) (e : En) : Prop := wFz Ev e fun d e1 => Ed e1 (ptrK fun a e2 => wFz Ey e2 fun dk e3 => ob1 (keyT dk) fun k => k.depth ≤ 8 ∧ gsAt (fun G => dnAt P w (G a) fun kvs => kvs.length ≤ 100000 ∧ Q.nx (e3.set n (some (.gs (upG G a (.ob (.dN P w (putD kvs k d)))))))) e3[n]?)
theorem ss_nputG {n : Nat} (hd : SE f td Ed) (hy : SE f ty Ey) (hv : SE f te E) : SS f (sNPut f.K P w td ty te) (wNPutG P w n Ed Ey E) := ⟨fun {D Q e σ Hz H} wp y o => fz_run hv wp y fun d e1 v Hz1 H1 w1 s1 y1 d1 => ptr_run hd w1 y1 fun a e2 Hz2 H2 w2 s2 y2 => fz_run hy w2 y2 fun dk e3 v3 Hz3 H3 w3 s3 y3 d3 => by
  obtain ⟨ky, c1, hk, w3⟩ := ob1_ex w3
  obtain ⟨G, he, kvs, hG, hl, w3⟩ := gsAt_ex w3
  obtain ⟨⟨ks, h2, h3, h4⟩, _⟩ := y3.gget he hG
  obtain ⟨b', rfl, hb⟩ := keyT_ref d3 c1 hk
  have hlen := h4.len
  rw [List.length_map] at hlen
  refine ⟨a, ks, b', ky, rfl, ⟨rfl, h2, keys_same h3 y3.sm, hb.mono y3.sm⟩, line_lt (by omega), o.nx w3 (same_trans s1 (same_trans s2 s3)) (y3.gset he hG ⟨_, upd_same, putN_keys h3 hb, ?_⟩)⟩
  rw [putN_map]
  exact h4.put _ (dp_mono (same_trans s2 s3) _ _ d1)⟩
/-- d[k] = v, keys ints and texts -/
def wDPutG (n : Nat) (Ed Ey Ev : WE) (Q : Po) (e : En) : Prop := wFz Ev e fun d e1 => Ed e1 (ptrK fun a e2 => wFz Ey e2 fun dk e3 => ob1 (keyD dk) fun k => gsAt (fun G => dkAt (G a) fun kvs => kvs.length ≤ 100000 ∧ Q.nx (e3.set n (some (.gs (upG G a (.ob (.dK (putD kvs k d)))))))) e3[n]?)
theorem ss_dputG {n : Nat} (hd : SE f td Ed) (hy : SE f ty Ey) (hv : SE f te E) : SS f (sDPut td ty te) (wDPutG n Ed Ey E) := ⟨fun {D Q e σ Hz H} wp y o => fz_run hv wp y fun d e1 v Hz1 H1 w1 s1 y1 d1 => ptr_run hd w1 y1 fun a e2 Hz2 H2 w2 s2 y2 => fz_run hy w2 y2 fun dk e3 v3 Hz3 H3 w3 s3 y3 d3 => by
  obtain ⟨ky, c1, w3⟩ := ob1_ex w3
  obtain ⟨G, he, w3⟩ := gsAt_ex w3
  obtain ⟨kvs, hG, hl, w3⟩ := dkAt_ex w3
  obtain ⟨⟨ks, h2, h3⟩, _⟩ := y3.gget he hG
  rw [key_dp d3 c1]
  exact ⟨a, _, rfl, DPut.k h2 (line_lt (by rw [h3.len]; exact hl)), o.nx w3 (same_trans s1 (same_trans s2 s3)) (y3.gset he hG ⟨_, upd_same, h3.put _ (dp_mono (same_trans s2 s3) _ _ d1)⟩)⟩⟩
/-- {k: v}, k a tuple -/
def wNDisp (P : Program) (w : World) (Ek Ev : WE) (e : En) (Q : Vl → En → Prop) : Prop := wFz Ek e fun dk e1 => wFz Ev e1 fun dv e2 => ob1 (keyT dk) fun k => k.depth ≤ 8 ∧ Q (.ob (.dN P w [(k, dv)])) e2
theorem se_ndisp (hk : SE f ty Ey) (hv : SE f te E) : SE f (tNDisp P w f.K ty te) (wNDisp P w Ey E) := ⟨fun {L W e σ Hz H Post Q} wp y k p hp => by
  have y0 := y.newO (o := .dN P w []) (u := dnO P w p []) hp ⟨[], upd_same, (fun _ h => by cases h), .nil⟩
  refine fz_run hk wp y0 fun dk e1 v1 Hz1 H1 w1 s1 y1 d1 => fz_run hv w1 y1 fun dv e2 v2 Hz2 H2 w2 s2 y2 d2 => ?_
  obtain ⟨ky, c, hd, w2⟩ := ob1_ex w2
  obtain ⟨b, rfl, hb⟩ := keyT_ref (dp_mono s2 _ _ d1) c hd
  obtain ⟨a, ea, ⟨ks, h1, h2, h3⟩, _⟩ := y2.top
  cases ea
  have hx : ks = [] := by
    have := h3.len
    cases ks with
    | nil => rfl
    | cons _ _ => simp at this
  rw [hx] at h1
  refine ⟨b, ky, rfl, h1, hb.mono y2.sm, k _ _ _ _ _ w2 (same_trans s1 s2) (y2.wrT (o' := .dN P w [(ky, dv)]) ⟨[(ky, b, v2)], upd_same, fun e he => ?_, .cons rfl d2 .nil⟩) trivial⟩
  rw [List.mem_singleton.mp he]
  exact hb⟩
/-! ### methods, making -/
variable {F : GSp} {XE : XK}
/-- o.m(data, ..) -/
def wMeth (F : GSp) (n : Nat) (C : Addr) (m : String) (Eo : WE) (A : WA) (e : En) (P : Vl → En → Prop) : Prop := Eo e (ptrK fun a e1 => gsAt (fun G => insAt C (G a) fun fs => fs.lookup m = none ∧ A e1 fun ds e2 => gsAt (fun G => F (dats (ptr a :: ds)) G fun b _ G' => notOwn b = true ∧ P b (e2.set n (some (.gs G')))) e2[n]?) e1[n]?)
theorem se_meth {n : Nat} {C : Addr} {m : String} (ho : SE f td Ed) (h : SA f ta A) : SE f (tMeth C (Str.ofString m) (spG f.K F) [] XE td ta) (wMeth F n C m Ed A) := ⟨fun {L W e σ Hz H Post Q} w y k => ptr_run ho w y fun a e1 Hz1 H1 w1 s1 y1 => by
  obtain ⟨G0, he0, fs, hG0, hm, w1⟩ := gsAt_ex w1
  obtain ⟨⟨dx, vs0, hH, pf⟩, _⟩ := y1.gget he0 hG0
  refine ⟨a, dx, vs0, rfl, hH, pf.no hm, h.run w1 y1 fun ds e2 vs Hz2 H2 w2 s2 y2 d2 => ?_⟩
  rw [List.append_nil]
  obtain ⟨G, he, w2⟩ := gsAt_ex w2
  obtain ⟨A', st, en⟩ := y2.calledG he
  have d3 : DpAll f.K Hz2 (.ref a :: vs) (ptr a :: ds) := .cons (.ptr a) d2
  refine ⟨dats (ptr a :: ds), G, A', Hz2, _, st d3, by rw [dats_len, dps_len d3], w2, fun b outs G' hb ho v Hz' H' y' l' => ?_⟩
  obtain ⟨y3, s3⟩ := en hb.1 (by rw [ho, List.length_map]) y'
  exact k _ _ _ _ _ hb.2 (same_trans s1 (same_trans s2 s3)) y3 (by
    cases b with
    | dat d => exact l'
    | ob o => trivial
    | own i => cases hb.1
    | gob n a => cases hb.1)⟩
/-- C(data, ..) -/
def wMake (F : GSp) (n : Nat) (C : Addr) (A : WA) (e : En) (P : Vl → En → Prop) : Prop := A e fun ds e1 => gsAt (fun G => ∀ x, G x = none → F (dats (ptr x :: ds)) (upG G x (.ins C [])) fun b _ G' => b = .dat .none ∧ P (.dat (ptr x)) (e1.set n (some (.gs G')))) e1[n]?
theorem se_make {n : Nat} {C : Addr} (h : SA f ta A) : SE f (tMake C (spG f.K F) [] XE ta) (wMake F n C A) := ⟨fun {L W e σ Hz H Post Q} w y k => h.run w y fun ds e1 vs Hz1 H1 w1 s1 y1 d1 x dx nx ndx nex => by
  rw [List.append_nil]
  obtain ⟨G, he, w1⟩ := gsAt_ex w1
  have y2 := y1.newX (u := .own x) ndx rfl
  have nx2 : upd H1 dx (.own x) x = none := by rw [upd_ne (fun c => nex c.symm)]; exact nx
  have y3 := y2.gnew (u := .ins C dx []) (c := .ins C []) he nx2 ⟨dx, [], upd_same, .nil⟩
  have hx : G x = none := y1.gnone he nx
  have hn : n < e1.length := (List.getElem?_eq_some_iff.mp he).1
  have he3 : (e1.set n (some (.gs (upG G x (.ins C [])))))[n]? = some (some (.gs (upG G x (.ins C [])))) := by rw [List.getElem?_set_self hn]
  obtain ⟨A', st, en⟩ := y3.calledG he3
  have d3 : DpAll f.K Hz1 (.ref x :: vs) (ptr x :: ds) := .cons (.ptr x) d1
  refine ⟨dats (ptr x :: ds), _, A', Hz1, _, st d3, by rw [dats_len, dps_len d3], w1 x hx, fun b outs G' hb ho v Hz' H' y' l' => ?_⟩
  obtain ⟨rfl, hb⟩ := hb
  obtain ⟨y4, s4⟩ := en rfl (by rw [ho, List.length_map]) y'
  rw [List.set_set] at y4
  have l2 : Dp f.K Hz' v .none := l'
  cases l2
  exact ⟨rfl, k _ _ _ _ _ hb (same_trans s1 s4) y4 (Dp.ptr x)⟩⟩
end
end DL


set_option Elab.async false
set_option linter.all false
set_option maxRecDepth 100000
set_option maxHeartbeats 4000000
/-! all rules of the layer as one -/
namespace DL
open PySem L2 TG
theorem WW : (((((((((type_of% @DL.wSeq.eq_1) ∧ (type_of% @DL.wIfS.eq_1)) ∧ ((type_of% @DL.wAsg.eq_1) ∧ (type_of% @DL.wRet.eq_1))) ∧ (((type_of% @DL.rtK_dat) ∧ (type_of% @DL.rtK_ob)) ∧ ((type_of% @DL.rtK_own) ∧ (type_of% @DL.rtK_gob)))) ∧ ((((type_of% @DL.rtS_dat) ∧ (type_of% @DL.rtS_ob)) ∧ ((type_of% @DL.wDrop.eq_1) ∧ (type_of% @DL.wVar.eq_1))) ∧ (((type_of% @DL.vrS_dat) ∧ (type_of% @DL.vrS_ob)) ∧ ((type_of% @DL.chK_bool) ∧ ((type_of% @DL.unK_int) ∧ (type_of% @DL.eI0)))))) ∧ (((((type_of% @DL.eI) ∧ (type_of% @DL.eInD)) ∧ ((type_of% @DL.eInL) ∧ (type_of% @DL.eInT))) ∧ (((type_of% @DL.eIxL) ∧ (type_of% @DL.eIxT)) ∧ ((type_of% @DL.eIx1) ∧ (type_of% @DL.eIx2)))) ∧ ((((type_of% @DL.eIxS) ∧ (type_of% @DL.eIsN)) ∧ ((type_of% @DL.eCat) ∧ (type_of% @DL.eCatT))) ∧ (((type_of% @DL.eLen_list) ∧ (type_of% @DL.eTupOf_list)) ∧ ((type_of% @DL.eListOf_list) ∧ ((type_of% @DL.eLen_tuple) ∧ (type_of% @DL.eTupOf_tuple))))))) ∧ ((((((type_of% @DL.eListOf_tuple) ∧ (type_of% @DL.eSum)) ∧ ((type_of% @DL.eMax) ∧ (type_of% @DL.eMin))) ∧ (((type_of% @DL.eAll) ∧ (type_of% @DL.eAny)) ∧ ((type_of% @DL.eSorted) ∧ (type_of% @DL.eSortSet)))) ∧ ((((type_of% @DL.eInt_int) ∧ (type_of% @DL.eInt_bool)) ∧ ((type_of% @DL.eAbs) ∧ (type_of% @DL.ety_none))) ∧ (((type_of% @DL.eno_none) ∧ (type_of% @DL.efl_none)) ∧ ((type_of% @DL.ety_bool) ∧ ((type_of% @DL.eno_bool) ∧ (type_of% @DL.efl_bool)))))) ∧ (((((type_of% @DL.ety_int) ∧ (type_of% @DL.eno_int)) ∧ ((type_of% @DL.efl_int) ∧ (type_of% @DL.ety_str))) ∧ (((type_of% @DL.eno_str) ∧ (type_of% @DL.efl_str)) ∧ ((type_of% @DL.ety_list) ∧ ((type_of% @DL.eno_list) ∧ (type_of% @DL.efl_list))))) ∧ ((((type_of% @DL.ety_tuple) ∧ (type_of% @DL.eno_tuple)) ∧ ((type_of% @DL.efl_tuple) ∧ (type_of% @DL.etr_none))) ∧ (((type_of% @DL.etr_bool) ∧ (type_of% @DL.etr_int)) ∧ ((type_of% @DL.etr_list) ∧ ((type_of% @DL.etr_tuple) ∧ (type_of% @DL.evd_non)))))))) ∧ (((((((type_of% @DL.evd_bl) ∧ (type_of% @DL.evd_int)) ∧ ((type_of% @DL.evd_str) ∧ (type_of% @DL.etk_ob))) ∧ (((type_of% @DL.ix_1_0) ∧ (type_of% @DL.ix_2_0)) ∧ ((type_of% @DL.ix_2_1) ∧ (type_of% @DL.ix_3_0)))) ∧ ((((type_of% @DL.ix_3_1) ∧ (type_of% @DL.ix_3_2)) ∧ ((type_of% @DL.ix_4_0) ∧ (type_of% @DL.ix_4_1))) ∧ (((type_of% @DL.ix_4_2) ∧ (type_of% @DL.ix_4_3)) ∧ ((type_of% @DL.wRep.eq_1) ∧ ((type_of% @DL.wNNew.eq_1) ∧ (type_of% @DL.wNGet.eq_1)))))) ∧ (((((type_of% @DL.wNIn.eq_1) ∧ (type_of% @DL.wNPut.eq_1)) ∧ ((type_of% @DL.wNGet2.eq_1) ∧ (type_of% @DL.dnS_ob))) ∧ (((type_of% @DL.keyT_2) ∧ (type_of% @DL.eIsB)) ∧ ((type_of% @DL.wTGet2.eq_1) ∧ (type_of% @DL.dt_own)))) ∧ ((((type_of% @DL.dt_ob) ∧ (type_of% @DL.dtS_ob)) ∧ ((type_of% @DL.keysL_2) ∧ (type_of% @DL.nk_depth))) ∧ (((type_of% @DL.wDNewK.eq_1) ∧ (type_of% @DL.wDGet.eq_1)) ∧ ((type_of% @DL.wDIn.eq_1) ∧ ((type_of% @DL.wDPut.eq_1) ∧ (type_of% @DL.putS_ob))))))) ∧ ((((((type_of% @DL.wPairs.eq_1) ∧ (type_of% @DL.wPairs.eq_2)) ∧ ((type_of% @DL.wDisp.eq_1) ∧ (type_of% @DL.keysD.eq_1))) ∧ (((type_of% @DL.keysD.eq_2) ∧ (type_of% @DL.keyD_int)) ∧ ((type_of% @DL.keyD_str) ∧ (type_of% @DL.dk_own)))) ∧ ((((type_of% @DL.dk_ob) ∧ (type_of% @DL.dkS_ob)) ∧ ((type_of% @DL.at_0) ∧ (type_of% @DL.at_1))) ∧ (((type_of% @DL.at_2) ∧ (type_of% @DL.at_3)) ∧ ((type_of% @DL.wC.eq_1) ∧ ((type_of% @DL.wOp.eq_1) ∧ (type_of% @DL.wB.eq_1)))))) ∧ (((((type_of% @DL.wAnd.eq_1) ∧ (type_of% @DL.wOr.eq_1)) ∧ ((type_of% @DL.wNot.eq_1) ∧ (type_of% @DL.wTru.eq_1))) ∧ (((type_of% @DL.wAndV.eq_1) ∧ (type_of% @DL.wOrV.eq_1)) ∧ ((type_of% @DL.wIf.eq_1) ∧ ((type_of% @DL.wChain.eq_1) ∧ (type_of% @DL.wUn.eq_1))))) ∧ ((((type_of% @DL.wTup.eq_1) ∧ (type_of% @DL.wLst.eq_1)) ∧ ((type_of% @DL.wNil.eq_1) ∧ (type_of% @DL.wCons.eq_1))) ∧ (((type_of% @DL.wStar.eq_1) ∧ (type_of% @DL.wFz.eq_1)) ∧ ((type_of% @DL.fzK_dat) ∧ ((type_of% @DL.fzK_lst) ∧ (type_of% @DL.fzK_own))))))))) ∧ ((((((((type_of% @DL.fzS_dat) ∧ (type_of% @DL.fzS_lst)) ∧ ((type_of% @DL.bK_bool) ∧ (type_of% @DL.wC1.eq_1))) ∧ (((type_of% @DL.wIsi.eq_1) ∧ (type_of% @DL.wIsi2.eq_1)) ∧ ((type_of% @DL.nm_dat) ∧ (type_of% @DL.nm_ob)))) ∧ ((((type_of% @DL.nm_gob) ∧ (type_of% @DL.nm_own)) ∧ ((type_of% @DL.nmS_dat) ∧ (type_of% @DL.nmS_ob))) ∧ (((type_of% @DL.wGNil.eq_1) ∧ (type_of% @DL.wGNil.eq_2)) ∧ ((type_of% @DL.wGCons.eq_1) ∧ ((type_of% @DL.wGCons.eq_2) ∧ (type_of% @DL.wGTup.eq_1)))))) ∧ (((((type_of% @DL.wGSub.eq_1) ∧ (type_of% @DL.wGSub.eq_2)) ∧ ((type_of% @DL.wPar.eq_1) ∧ (type_of% @DL.wPar3.eq_1))) ∧ (((type_of% @DL.wAugI.eq_1) ∧ (type_of% @DL.wApp.eq_1)) ∧ ((type_of% @DL.wExt.eq_1) ∧ (type_of% @DL.wPop.eq_1)))) ∧ ((((type_of% @DL.wSlT.eq_1) ∧ (type_of% @DL.wSlL.eq_1)) ∧ ((type_of% @DL.wNoPart.eq_1) ∧ (type_of% @DL.wPart.eq_1))) ∧ (((type_of% @DL.wCall.eq_1) ∧ (type_of% @DL.wCallO.eq_1)) ∧ ((type_of% @DL.gEq.eq_1) ∧ ((type_of% @DL.gNe.eq_1) ∧ (type_of% @DL.wIList.eq_1))))))) ∧ ((((((type_of% @DL.wITup.eq_1) ∧ (type_of% @DL.wIRng1.eq_1)) ∧ ((type_of% @DL.wIRng2.eq_1) ∧ (type_of% @DL.wIEnumT.eq_1))) ∧ (((type_of% @DL.wIEnum.eq_1) ∧ (type_of% @DL.wIZip.eq_1)) ∧ ((type_of% @DL.cont_dat) ∧ (type_of% @DL.cont_lst)))) ∧ ((((type_of% @DL.cont_own) ∧ (type_of% @DL.cont_gob)) ∧ ((type_of% @DL.contG_gs) ∧ (type_of% @DL.contC_lst))) ∧ (((type_of% @DL.dk_gob) ∧ (type_of% @DL.dkG_gs)) ∧ ((type_of% @DL.dkC_dK) ∧ ((type_of% @DL.contS_dat) ∧ (type_of% @DL.contS_lst)))))) ∧ (((((type_of% @DL.ob1_some) ∧ (type_of% @DL.ob1_none)) ∧ ((type_of% @DL.wYes.eq_1) ∧ (type_of% @DL.wNotT.eq_1))) ∧ (((type_of% @DL.wNotV.eq_1) ∧ (type_of% @DL.wNext.eq_1)) ∧ ((type_of% @DL.wNever.eq_1) ∧ ((type_of% @DL.wBreak.eq_1) ∧ (type_of% @DL.wCont.eq_1))))) ∧ ((((type_of% @DL.wRetN.eq_1) ∧ (type_of% @DL.shaped_int)) ∧ ((type_of% @DL.shaped_str) ∧ (type_of% @DL.shaped_bool))) ∧ (((type_of% @DL.shaped_none) ∧ (type_of% @DL.eqv_int)) ∧ ((type_of% @DL.eqv_str) ∧ ((type_of% @DL.eqv_bool) ∧ (type_of% @DL.eqv_nn)))))))) ∧ (((((((type_of% @DL.shaped_nil) ∧ (type_of% @DL.shaped_nilT)) ∧ ((type_of% @DL.eqv_lnil) ∧ (type_of% @DL.eqv_tnil))) ∧ (((type_of% @DL.ept_none) ∧ (type_of% @DL.ept_bool)) ∧ ((type_of% @DL.ept_int) ∧ (type_of% @DL.ept_str)))) ∧ ((((type_of% @DL.ept_list) ∧ (type_of% @DL.ept_tuple)) ∧ ((type_of% @DL.ept_dict) ∧ (type_of% @DL.isPtr_ptr))) ∧ (((type_of% @DL.gsAt_gs) ∧ (type_of% @DL.retG_nx)) ∧ ((type_of% @DL.retG_rtD) ∧ ((type_of% @DL.retG_rtO) ∧ (type_of% @DL.wCallG.eq_1)))))) ∧ (((((type_of% @DL.insAt_ins) ∧ (type_of% @DL.lstAt_lst)) ∧ ((type_of% @DL.dnAt_dN) ∧ (type_of% @DL.dkAt_dK))) ∧ (((type_of% @DL.ptrK_dat) ∧ (type_of% @DL.ptrK_gob)) ∧ ((type_of% @DL.unp_ptr) ∧ (type_of% @DL.wFld.eq_1)))) ∧ ((((type_of% @DL.wDr.eq_1) ∧ (type_of% @DL.toGK_ob)) ∧ ((type_of% @DL.toGK_dat) ∧ (type_of% @DL.wToG.eq_1))) ∧ (((type_of% @DL.wSFld.eq_1) ∧ (type_of% @DL.wAppG.eq_1)) ∧ ((type_of% @DL.wNGetG.eq_1) ∧ ((type_of% @DL.wNInG.eq_1) ∧ (type_of% @DL.wNPutG.eq_1))))))) ∧ ((((((type_of% @DL.wDPutG.eq_1) ∧ (type_of% @DL.wMeth.eq_1)) ∧ ((type_of% @DL.wMake.eq_1) ∧ (type_of% @DL.wNDisp.eq_1))) ∧ (((type_of% @DL.putA_nil) ∧ (type_of% @DL.putA_cons)) ∧ ((type_of% @DL.upG_same) ∧ (type_of% @DL.upG_upG)))) ∧ ((((type_of% @DL.retP_nx) ∧ (type_of% @DL.retP_rtD)) ∧ ((type_of% @DL.retP_rtO) ∧ (type_of% @DL.outs_nil))) ∧ (((type_of% @DL.outs_cons) ∧ (type_of% @DL.out1_dat)) ∧ ((type_of% @DL.out1_none) ∧ ((type_of% @DL.out1_ob) ∧ (type_of% @DL.out0.eq_1)))))) ∧ (((((type_of% @DL.out0.eq_2) ∧ (type_of% @DL.dats.eq_1)) ∧ ((type_of% @DL.notOwn_dat) ∧ (type_of% @DL.notOwn_ob))) ∧ (((type_of% @DL.isT.eq_1) ∧ (type_of% @DL.wipeE.eq_1)) ∧ ((type_of% @DL.wipeE.eq_2) ∧ ((type_of% @DL.back.eq_1) ∧ (type_of% @DL.back.eq_2))))) ∧ ((((type_of% @DL.cast_0) ∧ (type_of% @DL.cast_1)) ∧ ((type_of% @DL.cast_2) ∧ (type_of% @DL.cast_3))) ∧ (((type_of% @DL.cast_4) ∧ (type_of% @DL.cast_5)) ∧ ((type_of% @DL.cast_6) ∧ ((type_of% @DL.cast_7) ∧ (type_of% @DL.cast_8)))))))))) := ⟨⟨⟨⟨⟨⟨⟨⟨@DL.wSeq.eq_1, @DL.wIfS.eq_1⟩, ⟨@DL.wAsg.eq_1, @DL.wRet.eq_1⟩⟩, ⟨⟨@DL.rtK_dat, @DL.rtK_ob⟩, ⟨@DL.rtK_own, @DL.rtK_gob⟩⟩⟩, ⟨⟨⟨@DL.rtS_dat, @DL.rtS_ob⟩, ⟨@DL.wDrop.eq_1, @DL.wVar.eq_1⟩⟩, ⟨⟨@DL.vrS_dat, @DL.vrS_ob⟩, ⟨@DL.chK_bool, ⟨@DL.unK_int, @DL.eI0⟩⟩⟩⟩⟩, ⟨⟨⟨⟨@DL.eI, @DL.eInD⟩, ⟨@DL.eInL, @DL.eInT⟩⟩, ⟨⟨@DL.eIxL, @DL.eIxT⟩, ⟨@DL.eIx1, @DL.eIx2⟩⟩⟩, ⟨⟨⟨@DL.eIxS, @DL.eIsN⟩, ⟨@DL.eCat, @DL.eCatT⟩⟩, ⟨⟨@DL.eLen_list, @DL.eTupOf_list⟩, ⟨@DL.eListOf_list, ⟨@DL.eLen_tuple, @DL.eTupOf_tuple⟩⟩⟩⟩⟩⟩, ⟨⟨⟨⟨⟨@DL.eListOf_tuple, @DL.eSum⟩, ⟨@DL.eMax, @DL.eMin⟩⟩, ⟨⟨@DL.eAll, @DL.eAny⟩, ⟨@DL.eSorted, @DL.eSortSet⟩⟩⟩, ⟨⟨⟨@DL.eInt_int, @DL.eInt_bool⟩, ⟨@DL.eAbs, @DL.ety_none⟩⟩, ⟨⟨@DL.eno_none, @DL.efl_none⟩, ⟨@DL.ety_bool, ⟨@DL.eno_bool, @DL.efl_bool⟩⟩⟩⟩⟩, ⟨⟨⟨⟨@DL.ety_int, @DL.eno_int⟩, ⟨@DL.efl_int, @DL.ety_str⟩⟩, ⟨⟨@DL.eno_str, @DL.efl_str⟩, ⟨@DL.ety_list, ⟨@DL.eno_list, @DL.efl_list⟩⟩⟩⟩, ⟨⟨⟨@DL.ety_tuple, @DL.eno_tuple⟩, ⟨@DL.efl_tuple, @DL.etr_none⟩⟩, ⟨⟨@DL.etr_bool, @DL.etr_int⟩, ⟨@DL.etr_list, ⟨@DL.etr_tuple, @DL.evd_non⟩⟩⟩⟩⟩⟩⟩, ⟨⟨⟨⟨⟨⟨@DL.evd_bl, @DL.evd_int⟩, ⟨@DL.evd_str, @DL.etk_ob⟩⟩, ⟨⟨@DL.ix_1_0, @DL.ix_2_0⟩, ⟨@DL.ix_2_1, @DL.ix_3_0⟩⟩⟩, ⟨⟨⟨@DL.ix_3_1, @DL.ix_3_2⟩, ⟨@DL.ix_4_0, @DL.ix_4_1⟩⟩, ⟨⟨@DL.ix_4_2, @DL.ix_4_3⟩, ⟨@DL.wRep.eq_1, ⟨@DL.wNNew.eq_1, @DL.wNGet.eq_1⟩⟩⟩⟩⟩, ⟨⟨⟨⟨@DL.wNIn.eq_1, @DL.wNPut.eq_1⟩, ⟨@DL.wNGet2.eq_1, @DL.dnS_ob⟩⟩, ⟨⟨@DL.keyT_2, @DL.eIsB⟩, ⟨@DL.wTGet2.eq_1, @DL.dt_own⟩⟩⟩, ⟨⟨⟨@DL.dt_ob, @DL.dtS_ob⟩, ⟨@DL.keysL_2, @DL.nk_depth⟩⟩, ⟨⟨@DL.wDNewK.eq_1, @DL.wDGet.eq_1⟩, ⟨@DL.wDIn.eq_1, ⟨@DL.wDPut.eq_1, @DL.putS_ob⟩⟩⟩⟩⟩⟩, ⟨⟨⟨⟨⟨@DL.wPairs.eq_1, @DL.wPairs.eq_2⟩, ⟨@DL.wDisp.eq_1, @DL.keysD.eq_1⟩⟩, ⟨⟨@DL.keysD.eq_2, @DL.keyD_int⟩, ⟨@DL.keyD_str, @DL.dk_own⟩⟩⟩, ⟨⟨⟨@DL.dk_ob, @DL.dkS_ob⟩, ⟨@DL.at_0, @DL.at_1⟩⟩, ⟨⟨@DL.at_2, @DL.at_3⟩, ⟨@DL.wC.eq_1, ⟨@DL.wOp.eq_1, @DL.wB.eq_1⟩⟩⟩⟩⟩, ⟨⟨⟨⟨@DL.wAnd.eq_1, @DL.wOr.eq_1⟩, ⟨@DL.wNot.eq_1, @DL.wTru.eq_1⟩⟩, ⟨⟨@DL.wAndV.eq_1, @DL.wOrV.eq_1⟩, ⟨@DL.wIf.eq_1, ⟨@DL.wChain.eq_1, @DL.wUn.eq_1⟩⟩⟩⟩, ⟨⟨⟨@DL.wTup.eq_1, @DL.wLst.eq_1⟩, ⟨@DL.wNil.eq_1, @DL.wCons.eq_1⟩⟩, ⟨⟨@DL.wStar.eq_1, @DL.wFz.eq_1⟩, ⟨@DL.fzK_dat, ⟨@DL.fzK_lst, @DL.fzK_own⟩⟩⟩⟩⟩⟩⟩⟩, ⟨⟨⟨⟨⟨⟨⟨@DL.fzS_dat, @DL.fzS_lst⟩, ⟨@DL.bK_bool, @DL.wC1.eq_1⟩⟩, ⟨⟨@DL.wIsi.eq_1, @DL.wIsi2.eq_1⟩, ⟨@DL.nm_dat, @DL.nm_ob⟩⟩⟩, ⟨⟨⟨@DL.nm_gob, @DL.nm_own⟩, ⟨@DL.nmS_dat, @DL.nmS_ob⟩⟩, ⟨⟨@DL.wGNil.eq_1, @DL.wGNil.eq_2⟩, ⟨@DL.wGCons.eq_1, ⟨@DL.wGCons.eq_2, @DL.wGTup.eq_1⟩⟩⟩⟩⟩, ⟨⟨⟨⟨@DL.wGSub.eq_1, @DL.wGSub.eq_2⟩, ⟨@DL.wPar.eq_1, @DL.wPar3.eq_1⟩⟩, ⟨⟨@DL.wAugI.eq_1, @DL.wApp.eq_1⟩, ⟨@DL.wExt.eq_1, @DL.wPop.eq_1⟩⟩⟩, ⟨⟨⟨@DL.wSlT.eq_1, @DL.wSlL.eq_1⟩, ⟨@DL.wNoPart.eq_1, @DL.wPart.eq_1⟩⟩, ⟨⟨@DL.wCall.eq_1, @DL.wCallO.eq_1⟩, ⟨@DL.gEq.eq_1, ⟨@DL.gNe.eq_1, @DL.wIList.eq_1⟩⟩⟩⟩⟩⟩, ⟨⟨⟨⟨⟨@DL.wITup.eq_1, @DL.wIRng1.eq_1⟩, ⟨@DL.wIRng2.eq_1, @DL.wIEnumT.eq_1⟩⟩, ⟨⟨@DL.wIEnum.eq_1, @DL.wIZip.eq_1⟩, ⟨@DL.cont_dat, @DL.cont_lst⟩⟩⟩, ⟨⟨⟨@DL.cont_own, @DL.cont_gob⟩, ⟨@DL.contG_gs, @DL.contC_lst⟩⟩, ⟨⟨@DL.dk_gob, @DL.dkG_gs⟩, ⟨@DL.dkC_dK, ⟨@DL.contS_dat, @DL.contS_lst⟩⟩⟩⟩⟩, ⟨⟨⟨⟨@DL.ob1_some, @DL.ob1_none⟩, ⟨@DL.wYes.eq_1, @DL.wNotT.eq_1⟩⟩, ⟨⟨@DL.wNotV.eq_1, @DL.wNext.eq_1⟩, ⟨@DL.wNever.eq_1, ⟨@DL.wBreak.eq_1, @DL.wCont.eq_1⟩⟩⟩⟩, ⟨⟨⟨@DL.wRetN.eq_1, @DL.shaped_int⟩, ⟨@DL.shaped_str, @DL.shaped_bool⟩⟩, ⟨⟨@DL.shaped_none, @DL.eqv_int⟩, ⟨@DL.eqv_str, ⟨@DL.eqv_bool, @DL.eqv_nn⟩⟩⟩⟩⟩⟩⟩, ⟨⟨⟨⟨⟨⟨@DL.shaped_nil, @DL.shaped_nilT⟩, ⟨@DL.eqv_lnil, @DL.eqv_tnil⟩⟩, ⟨⟨@DL.ept_none, @DL.ept_bool⟩, ⟨@DL.ept_int, @DL.ept_str⟩⟩⟩, ⟨⟨⟨@DL.ept_list, @DL.ept_tuple⟩, ⟨@DL.ept_dict, @DL.isPtr_ptr⟩⟩, ⟨⟨@DL.gsAt_gs, @DL.retG_nx⟩, ⟨@DL.retG_rtD, ⟨@DL.retG_rtO, @DL.wCallG.eq_1⟩⟩⟩⟩⟩, ⟨⟨⟨⟨@DL.insAt_ins, @DL.lstAt_lst⟩, ⟨@DL.dnAt_dN, @DL.dkAt_dK⟩⟩, ⟨⟨@DL.ptrK_dat, @DL.ptrK_gob⟩, ⟨@DL.unp_ptr, @DL.wFld.eq_1⟩⟩⟩, ⟨⟨⟨@DL.wDr.eq_1, @DL.toGK_ob⟩, ⟨@DL.toGK_dat, @DL.wToG.eq_1⟩⟩, ⟨⟨@DL.wSFld.eq_1, @DL.wAppG.eq_1⟩, ⟨@DL.wNGetG.eq_1, ⟨@DL.wNInG.eq_1, @DL.wNPutG.eq_1⟩⟩⟩⟩⟩⟩, ⟨⟨⟨⟨⟨@DL.wDPutG.eq_1, @DL.wMeth.eq_1⟩, ⟨@DL.wMake.eq_1, @DL.wNDisp.eq_1⟩⟩, ⟨⟨@DL.putA_nil, @DL.putA_cons⟩, ⟨@DL.upG_same, @DL.upG_upG⟩⟩⟩, ⟨⟨⟨@DL.retP_nx, @DL.retP_rtD⟩, ⟨@DL.retP_rtO, @DL.outs_nil⟩⟩, ⟨⟨@DL.outs_cons, @DL.out1_dat⟩, ⟨@DL.out1_none, ⟨@DL.out1_ob, @DL.out0.eq_1⟩⟩⟩⟩⟩, ⟨⟨⟨⟨@DL.out0.eq_2, @DL.dats.eq_1⟩, ⟨@DL.notOwn_dat, @DL.notOwn_ob⟩⟩, ⟨⟨@DL.isT.eq_1, @DL.wipeE.eq_1⟩, ⟨@DL.wipeE.eq_2, ⟨@DL.back.eq_1, @DL.back.eq_2⟩⟩⟩⟩, ⟨⟨⟨@DL.cast_0, @DL.cast_1⟩, ⟨@DL.cast_2, @DL.cast_3⟩⟩, ⟨⟨@DL.cast_4, @DL.cast_5⟩, ⟨@DL.cast_6, ⟨@DL.cast_7, @DL.cast_8⟩⟩⟩⟩⟩⟩⟩⟩⟩
end DL


set_option Elab.async false
set_option linter.all false
set_option maxRecDepth 100000
set_option maxHeartbeats 4000000
/-! Errors that leave a def, and lambdas handed to a def that catches them, over the layer of values. -/
namespace DL
open PySem L2 TG LamX LamY
/-! ### the table of code objects as a shared object -/
def tabP (q : Str) : PySem.W.Frag → Hp → Option HO → Prop := fun _ Hz u => ∃ ps : Array Value, u = some (.tbl ps) ∧ TriplesOk ps.toList ∧ ∀ (pos : Pos) (cv : Value), codeAmong pos ps.toList = some cv → ∃ c, cv = .ref c ∧ Hz c = some (CodeO c q)
abbrev tabC (q : Str) : Cell := .ob (.ext (tabP q))
theorem tabP_mono {q : Str} {K : PySem.W.Frag} {Hz Hz' : Hp} {u : Option HO} (s : Same Hz Hz') (h : tabP q K Hz u) : tabP q K Hz' u := by
  obtain ⟨ps, h1, h2, h3⟩ := h
  exact ⟨ps, h1, h2, fun pos cv e => (h3 pos cv e).elim fun c z => ⟨c, z.1, s _ _ z.2⟩⟩
theorem tab_ok {q : Str} {K : PySem.W.Frag} {Hz H : Hp} {P : Addr} (h : tabP q K Hz (H P)) : OkC K Hz H P (tabC q) := by
  obtain ⟨ps, h1, h2, h3⟩ := h
  refine ⟨by rw [h1]; exact Option.some_ne_none _, fun u e => ?_, ⟨ps, h1, h2, h3⟩, fun Hz' s => tabP_mono s ⟨ps, h1, h2, h3⟩⟩
  rw [h1] at e
  cases e
  rfl
section
variable {f : Fr} {Hz H : Hp} {L e : En} {W σ : St}
theorem upG_self {G : Gh} {a : Addr} {c : Cell} (h : G a = some c) : upG G a c = G := by
  funext b
  unfold upG
  split
  · next z => rw [z, h]
  · rfl
/-- a lambda is made: the state stands -/
theorem Sy.lam {n : Nat} {G : Gh} {P : Addr} {q : Str} (y : Sy f L W e σ Hz H) (he : e[n]? = some (some (.gs G))) (hG : G P = some (tabC q)) :
    TabS H P q ∧ ∀ H1, LamTo P q H H1 → ∃ Hz1, Same Hz Hz1 ∧ Sy f L W e σ Hz1 H1 := by
  obtain ⟨⟨_, _, hT, _⟩, hz⟩ := y.gget he hG
  obtain ⟨ps, h1, h2, h3⟩ := hT
  refine ⟨⟨ps, h1, h2, fun pos cv hc => (h3 pos cv hc).elim fun c z => ⟨c, z.1, y.sm _ _ z.2⟩⟩, fun H1 hto => ?_⟩
  obtain ⟨_, rfl | ⟨ps', qs, d, e1, e2, e3, rfl, e5, e6⟩⟩ := hto
  · exact ⟨Hz, same_refl, y⟩
  · rw [h1] at e1
    cases e1
    have hzd : Hz d = none := y.hz e2
    have s1 : Same Hz (upd Hz d (CodeO d q)) := same_new hzd _
    have y1 : Sy f L W e σ (upd Hz d (CodeO d q)) (upd H d (CodeO d q)) := y.newT e2
    have hc : OkC f.K (upd Hz d (CodeO d q)) (upd (upd H d (CodeO d q)) P (.tbl qs)) P (tabC q) := tab_ok (by
      refine ⟨qs, upd_same, e5, fun pos cv hcv => ?_⟩
      rcases e6 pos cv hcv with z | z
      · exact (h3 pos cv z).elim fun c w => ⟨c, w.1, s1 _ _ w.2⟩
      · exact ⟨d, z, upd_same⟩)
    have y2 := y1.gset he hG hc
    rw [upG_self hG] at y2
    have es : e.set n (some (.gs G)) = e := by
      obtain ⟨h4, h5⟩ := List.getElem?_eq_some_iff.mp he
      rw [← h5, List.set_getElem_self]
    rw [es] at y2
    have eH : upd (upd H d (CodeO d q)) P (.tbl qs) = upd (upd H P (.tbl qs)) d (CodeO d q) := by
      funext b
      by_cases c1 : b = d
      · subst c1
        rw [upd_ne e3, upd_same, upd_same]
      · rw [upd_ne c1]
        by_cases c2 : b = P
        · subst c2
          rw [upd_same, upd_same]
        · rw [upd_ne c2, upd_ne c2, upd_ne c1]
    rw [eH] at y2
    exact ⟨_, s1, y2⟩
end
/-! ### defs that errors leave -/
abbrev ExP := Addr → List (String × PyData) → En → Prop
abbrev FXp := En → (Vl → En → Prop) → ExP → Prop
/-- an error's own attributes: none, or a dict of them -/
def XD (K : PySem.W.Frag) (Hz : Hp) (d : Option Addr) (fl : List (String × PyData)) : Prop := (fl = [] ∧ d = none) ∨ fl ≠ [] ∧ ∃ a vs, d = some a ∧ Hz a = some (.xd vs) ∧ PF K Hz fl vs
def spX (K : PySem.W.Frag) (F : FXp) : Sp := fun vs H Q E => ∃ (args : En) (A : List Addr) (Hz : Hp) (P : Vl → En → Prop) (R : ExP), Sy ⟨K, A, Hz, H, vs.length⟩ [] [] args (vs.map some) Hz H ∧ args.length = vs.length ∧ F args P R ∧
  (∀ b outs, P b outs → ∀ v Hz' H', Sy ⟨K, A, Hz, H, vs.length⟩ (tmp b []) (tmv b v []) outs (vs.map some) Hz' H' → Val ⟨K, A, Hz, H, vs.length⟩ b v [] Hz' → Q v H') ∧
  ∀ C fl outs, R C fl outs → ∀ d Hz' H', Sy ⟨K, A, Hz, H, vs.length⟩ [] [] outs (vs.map some) Hz' H' → XD K Hz' d fl → E (.ref C) d H'
theorem spX_len {K : PySem.W.Frag} {F : FXp} {n : Nat} (hF : ∀ args P R, F args P R → args.length = n) {vs : List V} {H : Hp} {Q : VK} {E : XK} (h : spX K F vs H Q E) : vs.length = n := by
  obtain ⟨args, A, Hz, P, R, y, hl, hf, _⟩ := h
  rw [← hl]
  exact hF _ _ _ hf
/-- what leaves the body is what the def's caller wants of errors -/
def Esc (f : Fr) (E : XK) (R : ExP) : Prop := ∀ C fl e, R C fl e → ∀ {σ : St} (d : Option Addr) (Hz H : Hp), Sy f [] [] e σ Hz H → XD f.K Hz d fl → E (.ref C) d H
theorem esc_never {f : Fr} {E : XK} : Esc f E fun _ _ _ => False := fun _ _ _ h => h.elim
def sRaise (C : Addr) (E : XK) : TS := fun _ _ H => E (.ref C) none H
def wRaise (C : Addr) (R : ExP) (_P : Po) (e : En) : Prop := R C [] e
theorem ss_raise {f : Fr} {E : XK} {R : ExP} {C : Addr} (h : Esc f E R) : SS f (sRaise C E) (wRaise C R) := ⟨fun {D P e σ Hz H} w y o => h C [] e w none Hz H y (.inl ⟨rfl, rfl⟩)⟩
theorem fnX_run {K : PySem.W.Frag} {F : FXp} {t : TS} {S : ExP → WS} {N : List Str} {vs : List V} {H : Hp} {Q : VK} {E : XK} (h : spX K F vs H Q E) (hs : ∀ A Hz R, Esc ⟨K, A, Hz, H, N.length⟩ E R → SS ⟨K, A, Hz, H, N.length⟩ t (S R))
    (hw : ∀ args P R, args.length = vs.length → F args P R → S (fun C fl e => R C fl (outsOf args e)) (retP args P) (args ++ List.replicate (N.length - args.length) none)) (hN : vs.length ≤ N.length) : t { nx := fun _ H' => Q .non H', rt := Q } (start N vs) H := by
  obtain ⟨args, A, Hz, P, R, y, hl, hF, hQ, hX⟩ := h
  have g : Gv A args (vs.map some) := by
    obtain ⟨O1, O2, p1, p2, _⟩ := y.ex
    exact p2.gv (L2 := []) (by rw [List.append_nil]) (by rw [List.length_map]; exact hl)
  have hw' := hw args _ _ hl hF
  rw [hl] at hw'
  have hE : Esc ⟨K, A, Hz, H, N.length⟩ E fun C fl e => R C fl (outsOf args e) := fun C fl e hR σ d Hz' H' y1 xd => hX C fl _ hR d Hz' H' (y1.outs g (by rw [List.length_map])) xd
  refine (hs A Hz _ hE).run hw' (y.more (by rw [List.length_map]; exact hl) (N.length - vs.length) (by rw [List.length_map, Nat.add_sub_cancel' hN])) ⟨?_, ?_, fun a => a.elim, fun a => a.elim⟩
  · intro e σ Hz' H' hP s1 y1
    exact hQ _ _ hP .non Hz' H' (y1.outs g (by rw [List.length_map])) Dp.non
  · intro b e σ v Hz' H' hP s1 y1 l1
    exact hQ _ _ hP.2 v Hz' H' (y1.outs g (by rw [List.length_map])) (val_not rfl l1 hP.1)
section
variable {f : Fr} {ta : TA} {A : WA} {F : FXp} {E : XK} {R : ExP}
theorem Sy.bare {L e : En} {W σ : St} {Hz H : Hp} (y : Sy f L W e σ Hz H) : Sy f [] [] e σ Hz H := by
  obtain ⟨⟨O1, O2, p1, p2, nd, fr⟩, sm, tz, nw, kp, ka, az, tp, ln⟩ := y
  exact ⟨⟨[], O2, .nil, p2, (List.nodup_append.mp nd).2.1, fun a ha => fr a (List.mem_append_right _ ha)⟩, sm, tz, nw, kp, ka, az, tp, ln⟩
/-- f(data, ..) that may raise -/
def wCallX (F : FXp) (R : ExP) (A : WA) (e : En) (P : Vl → En → Prop) : Prop := A e fun ds e1 => F (dats ds) (fun b _ => notOwn b = true ∧ P b e1) (fun C fl _ => R C fl e1)
theorem callX_run {L e1 : En} {W σ : St} {Hz1 H1 : Hp} {ds : List PyData} {vs : List V} {Q : VK} {P : Vl → En → Prop} {Rx : ExP} {Ex : XK} (y1 : Sy f L W e1 σ Hz1 H1) (d1 : DpAll f.K Hz1 vs ds)
    (w1 : F (dats ds) (fun b _ => notOwn b = true ∧ P b e1) Rx) (k : ∀ b v Hz' H', P b e1 → Same Hz1 Hz' → Sy f (tmp b L) (tmv b v W) e1 σ Hz' H' → Val f b v σ Hz' → Q v H')
    (kx : ∀ C fl outs d Hz' H', Rx C fl outs → Same Hz1 Hz' → Sy f L W e1 σ Hz' H' → XD f.K Hz' d fl → Ex (.ref C) d H') : spX f.K F vs H1 Q Ex := by
  have yc : Sy ⟨f.K, [], Hz1, H1, vs.length⟩ [] [] (dats ds) (vs.map some) Hz1 H1 := ⟨⟨[], [], .nil, pr_dats rfl d1, List.nodup_nil, fun a ha => by cases ha⟩, y1.sm, same_refl, fun b h => .inl h, fun b u _ h => h, fun b h => h, (fun a ha => by cases ha), y1.tp, by rw [List.length_map]⟩
  obtain ⟨O1, O2, p1, p2, nd, fr⟩ := y1.ex
  refine ⟨dats ds, [], Hz1, _, _, yc, by rw [dats_len, dps_len d1], w1, fun b o hb v Hz' H' y' l' => ?_, fun C fl outs hR d Hz' H' y' xd => ?_⟩
  · obtain ⟨y2, s2, _⟩ := y1.called y' p1 p2 nd fr (fun a _ c => by cases c) (fun a c => by cases c) hb.1
    exact k _ _ _ _ hb.2 s2 y2 (by
      cases b with
      | dat d => exact l'
      | ob o => trivial
      | own i => cases hb.1
      | gob n a => cases hb.1)
  · obtain ⟨y2, s2, _⟩ := y1.called (b := .dat .none) (v := .non) y' p1 p2 nd fr (fun a _ c => by cases c) (fun a c => by cases c) rfl
    exact kx C fl outs d Hz' H' hR s2 y2 xd
theorem se_callX (hE : Esc f E R) (h : SA f ta A) : SE f (tCall (spX f.K F) [] E ta) (wCallX F R A) := ⟨fun {L W e σ Hz H Post Q} w y k => h.run w y fun ds e1 vs Hz1 H1 w1 s1 y1 d1 => by
  rw [List.append_nil]
  exact callX_run y1 d1 w1 (fun b v Hz' H' hP s2 y2 l2 => k b e1 v Hz' H' hP (same_trans s1 s2) y2 l2) fun C fl outs d Hz' H' hR s2 y2 xd => hE C fl e1 hR d Hz' H' y2.bare xd⟩
theorem Sy.newLs {L e : En} {W σ : St} {Hz H H2 : Hp} (y : Sy f L W e σ Hz H) (h : NewLs H H2) : Sy f L W e σ Hz H2 := by
  induction h with
  | refl => exact y
  | step _ hp ih => exact ih.newX hp rfl
/-! ### word(lambda: f(data, ..)) -/
/-- the def that catches: nothing raised, or the class's word -/
def TTw (Wd : Addr → Str → Prop) : (XK → Hp → VK → Prop) → Hp → VK → Prop := fun tl H Q => tl (fun cls d H' => ∃ C z, cls = .ref C ∧ d = none ∧ Wd C z ∧ ∀ H2, NewLs H' H2 → Q (.str z) H2) H (fun _ H' => Q (.str (Str.ofString "")) H')
def wWord (n : Nat) (P : Addr) (q : Str) (Wd : Addr → Str → Prop) (F : FXp) (A : WA) (e : En) (Post : Vl → En → Prop) : Prop := gsAt (fun G => G P = some (tabC q) ∧ A e fun ds e1 => F (dats ds) (fun b _ => notOwn b = true ∧ Post (.dat (.str (Str.ofString ""))) e1) fun C fl _ => fl = [] ∧ ∃ z, Wd C z ∧ Post (.dat (.str z)) e1) e[n]?
theorem word_run {n : Nat} {P : Addr} {q : Str} {Wd : Addr → Str → Prop} {L e : En} {W σ : St} {Hz H : Hp} {Post : Vl → En → Prop} {Q : VK} (hs : SA f ta A) (w : wWord n P q Wd F A e Post) (y : Sy f L W e σ Hz H)
    (k : ∀ b e' v Hz' H', Post b e' → Same Hz Hz' → Sy f (tmp b L) (tmv b v W) e' σ Hz' H' → Val f b v σ Hz' → Q v H') : TabS H P q ∧ ∀ H1, LamTo P q H H1 → TTw Wd (fun E H' Q' => tCall (spX f.K F) [] E ta σ H' Q') H1 Q := by
  obtain ⟨G, he, hG, w1⟩ := gsAt_ex w
  obtain ⟨hT, hlam⟩ := y.lam he hG
  refine ⟨hT, fun H1 hto => ?_⟩
  obtain ⟨Hz0, s0, y0⟩ := hlam H1 hto
  refine hs.run w1 y0 fun ds e1 vs Hz1 H1' w2 s1 y1 d1 => ?_
  rw [List.append_nil]
  refine callX_run y1 d1 (P := fun _ e1 => Post (.dat (.str (Str.ofString ""))) e1) w2 (fun b v Hz' H' hP s2 y2 l2 => ?_) fun C fl outs d Hz' H' hR s2 y2 xd => ?_
  · exact k _ _ _ _ _ hP (same_trans s0 (same_trans s1 s2)) y2.un (Dp.str _)
  · obtain ⟨rfl, z, hz, hR⟩ := hR
    have hd : d = none := xd.elim (fun h => h.2) fun h => absurd rfl h.1
    refine ⟨C, z, rfl, hd, hz, fun H2 hn => k _ _ _ _ _ hR (same_trans s0 (same_trans s1 s2)) (y2.newLs hn) (Dp.str _)⟩
theorem se_word {n : Nat} {P : Addr} {q : Str} {Wd : Addr → Str → Prop} (hs : SA f ta A) : SE f (tLamD P q (TTw Wd) fun E => tCall (spX f.K F) [] E ta) (wWord n P q Wd F A) := ⟨fun {L W e σ Hz H Post Q} w y k => word_run hs w y k⟩
/-! ### function values -/
def wFun (a : Addr) (e : En) (P : Vl → En → Prop) : Prop := P (.dat (ptr a)) e
theorem se_fun {a : Addr} : SE f (tC (.ref a)) (wFun a) := ⟨fun w y k => k _ _ _ _ _ w same_refl y (Dp.ptr a)⟩
/-- word(lambda: g(data, ..)), g a slot that holds one of some defs -/
def wWordV (n i : Nat) (P : Addr) (q : Str) (Wd : Addr → Str → Prop) (Fs : List (Addr × FXp)) (A : WA) (e : En) (Post : Vl → En → Prop) : Prop := wVar i e fun b _ => match b with
  | .dat d => ob1 (unp d) fun a => ∃ F, (a, F) ∈ Fs ∧ wWord n P q Wd F A e Post
  | _ => False
theorem se_wordV {n i : Nat} {P : Addr} {q : Str} {Wd : Addr → Str → Prop} {Fs : List (Addr × FXp)} (hs : SA f ta A) : SE f (tLamD P q (TTw Wd) fun E => tCallV (Fs.map fun c => (c.1, spX f.K c.2)) i E ta) (wWordV n i P q Wd Fs A) := ⟨fun {L W e σ Hz H Post Q} w y k => by
  unfold wWordV wVar at w
  have key : ∃ a F, σ[i]? = some (some (.ref a)) ∧ (a, F) ∈ Fs ∧ wWord n P q Wd F A e Post := by
    generalize hx : e[i]? = x at w
    unfold vrS at w
    split at w
    · rename_i d
      obtain ⟨a, ha, F, hF, w'⟩ := ob1_ex w
      obtain ⟨v, hv, dv⟩ := y.get hx
      rw [unp_eq ha] at dv
      rw [dp_ptr dv] at hv
      exact ⟨a, F, hv, hF, w'⟩
    · exact w.elim
    · exact w.elim
  obtain ⟨a, F, hv, hF, w'⟩ := key
  obtain ⟨hT, hrun⟩ := word_run hs w' y k
  refine ⟨hT, fun H1 hto => ?_⟩
  refine ⟨(a, spX f.K F), List.mem_map.mpr ⟨(a, F), hF, rfl⟩, hv, ?_⟩
  have h2 := hrun H1 hto
  unfold TTw tCall at h2
  simp only [List.append_nil] at h2
  exact h2⟩
end
/-! ### derivations -/
theorem ps_raiseN {X : Cx} {E : XK} {C : Addr} {x : Str} {p pos pos2 : Pos} {E₁ : Value → Shared → Prop} (gC : X.mg x = some (.ref C)) (q : PySem.W.excIn X.K C [.type "ValueError", .type "Exception", .type "BaseException", .type "object"] "ValueError.__new__" = true) (kC : PySem.W.keepIn X.K (.ref C) = true)
    (b : PySem.W.subIn X.K (.ref C) (.type "BaseException") = some true) (t : PySem.W.typeIn X.K (.ref C) = some (.type "type")) (hg : Gl X x := by rfl) (hdb : (x == ("__debug__" : Str)) = false := by decide) (hc : X.calm = true := by rfl) (hs : X.stack = X.env :: X.outer := by rfl) (hf : X.env.frame = some X.env.locals := by rfl) (hex : X.ex = [] := by rfl)
    (hx : X.xe = fun e s' => wpAny (model X.prog X.w) X.A (leaving X.env e) (fun _ s'' => L2.CX X.prog X.w X.outer X.H_0 X.s_0 E e s'') E₁ s' := by rfl) : PS X (.Raise (some (.Call (.Name x p) [] [] pos)) none pos2) (sRaise C E) :=
  ps_raise hc (takes_of hs hf hex hx) (pmk_ownN PySem.F.excBase_ValueError q gC kC (raises_own b t) hg hdb)
section
variable {X : Cx} {CX : CXT} {k : Nat} {Fs : List (Addr × FXp)} {a : Addr} {F : FXp} {fd : FuncData} {ps : List Str}
theorem tab_nil : FnTab X CX k (([] : List (Addr × FXp)).map fun c => (c.1, spX X.K c.2)) := fun c h => by cases h
theorem tab_cons (h : FnOk X.prog X.w X.K X.mg X.base CX k a fd ps (spX X.K F)) (hk : PySem.W.keepIn X.K (.ref a) = true) (hb : Binds X.K fd ps []) (t : FnTab X CX k (Fs.map fun c => (c.1, spX X.K c.2))) : FnTab X CX k (((a, F) :: Fs).map fun c => (c.1, spX X.K c.2)) := fun c hc => by
  rcases List.mem_cons.mp hc with rfl | hc
  · exact ⟨fd, ps, h, hk, hb⟩
  · exact t c hc
end
/-! ### the law with its table -/
theorem sqL_but {K : PySem.W.Frag} {H : Hp} {a P : Addr} {xs : List V} {ps : Array Value} (hP : H P = some (.tbl ps)) (h : SqL K H a xs) : SqL K (fun b => if b = P then none else H b) a xs := by
  rcases h with h | h
  · left
    have ne : a ≠ P := fun e => by
      rcases h with h | ⟨o, h⟩
      · rw [e, hP] at h; cases h
      · rw [e, hP] at h; cases h
    rcases h with h | ⟨o, h⟩
    · exact .inl (by dsimp only; rw [if_neg ne]; exact h)
    · exact .inr ⟨o, by dsimp only; rw [if_neg ne]; exact h⟩
  · exact .inr h
theorem lawT_run {K : PySem.W.Frag} {H : Hp} {a P : Addr} {q : Str} {ns : List Int} {F : GSp} {E : XK} (hP : H P = some (.tbl #[])) (hS : SqL K H a (ns.map V.int))
    (hF : F [some (.dat (.list (ns.map PyData.int)))] (fun b => if b = P then some (tabC q) else none) fun b outs _ => b = .dat (.bool true) ∧ outs = [none]) : spG K F [.ref a] H (fun v _ => v = .bl true) E := by
  have hz : ∀ b u, (if b = P then none else H b) = some u → H b = some u := fun b u e => by
    by_cases c : b = P
    · rw [if_pos c] at e; cases e
    · rw [if_neg c] at e; exact e
  have hc : OkC K (fun b => if b = P then none else H b) H P (tabC q) := tab_ok ⟨#[], hP, trivial, fun pos cv e => by
    have e' : codeAmong pos [] = some cv := e
    simp [codeAmong] at e'⟩
  have hg : PG ⟨K, [P], fun b => if b = P then none else H b, H, 1⟩ (fun b => if b = P then none else H b) H [(P, tabC q)] := ⟨fun p hp => by rw [List.mem_singleton] at hp; subst hp; exact hc, fun p hp => .inl (by rw [List.mem_singleton] at hp; subst hp; exact List.mem_singleton.mpr rfl)⟩
  refine ⟨[some (.dat (.list (ns.map PyData.int)))], fun b => if b = P then some (tabC q) else none, [P], fun b => if b = P then none else H b, fun b outs _ => b = .dat (.bool true) ∧ outs = [none],
    ⟨⟨[], [P], .nil, .dat (.lst (sqL_but hP hS) (ints_dps ns)) (.gs [(P, tabC q)] rfl hg), by simp, fun b hb => by rw [List.nil_append, List.mem_singleton] at hb; subst hb; exact if_pos rfl⟩, hz, same_refl, fun b h => .inl h, fun b u _ h => h, fun b h => h, fun b hb => ?_, fun b u h t => ?_, rfl⟩, rfl, hF, ?_⟩
  · rw [List.mem_singleton] at hb
    subst hb
    refine ⟨?_, if_pos rfl⟩
    show H _ ≠ none
    rw [hP]
    exact Option.some_ne_none _
  · have ne : b ≠ P := fun e => by
      rw [e, hP] at h
      cases h
      cases t
    rw [if_neg ne]
    exact h
  · rintro b outs G' ⟨rfl, rfl⟩ _ v Hz' H' y' l'
    obtain rfl := val_bool l'
    rfl
end DL


set_option Elab.async false
set_option linter.all false
set_option maxRecDepth 100000
set_option maxHeartbeats 4000000
namespace K58
open PySem L2 TG LamX LamY
section
variable {P : Program} {w : World} {K : PySem.W.Frag} {mg : Str → Option Value} {base : Heap}
abbrev cxW (X : Cx) (g : Addr) (cdv : Value) (s : Shared) (H : Hp) : Cx := (cxOf C8.CX0 X.prog X.w X.K X.mg X.base ["_law_work", "_law_found", "e", "_law_known"] "_law_word" (defScope s_law_word) g cdv X.A X.stack s H C8.E0).nox
/-- the word of a class -/
inductive WordIs (T : Txt K mg) : Addr → Str → Prop
  | rule : WordIs T T.C_BadRule "rule"
  | number : WordIs T T.C_BadNumber "number"
  | numbers : WordIs T T.C_BadNumbers "numbers"
  | period : WordIs T T.C_BadPeriod "period"
theorem word_gives {X : Cx} (hK : X.K = K) (hm : X.mg = mg) (T : Txt K mg) (q : Str) (cdv : Value) : GivesD X ["_law_work", "_law_found", "e", "_law_known"] "_law_word" (defScope s_law_word) T.a_law_word cdv (defBody s_law_word) "_law_work" q (DL.TTw (WordIs T)) := by
  intro f d s H Q tl act hc h
  have gP : Gl (cxOf C8.CX0 X.prog X.w X.K X.mg X.base ["_law_work", "_law_found", "e", "_law_known"] "_law_word" (defScope s_law_word) T.a_law_word cdv X.A X.stack s H C8.E0).nox "PlayError" := by rfl
  subst hK hm
  unfold DL.TTw at h
  refine ⟨_, pss_cons (ps_set (i := 1) sc_law_word.nd rfl (Or.inl rfl) pe_str) (pss_cons (ps_try_as (X := cxW X T.a_law_word cdv s H) (c := .ref T.C_PlayError) (i := 2)
      (tb := fun W D σ H => σ[0]? = some (some (.ref f)) ∧ H d = some (CodeO d q) ∧ ∃ E : XK, (∀ cls x H', E cls x H' → W cls x σ H') ∧ tl E H fun _ H1 => D.nx σ H1) rfl rfl sc_law_word.nd rfl rfl ⟨gP, by decide, .inl T.gx_PlayError⟩ takes0 (fun W pn xe tk _ => pss_one (ps_expr (act W pn xe _ _ tk))) (fun a oe cls d pn hz hf => (pss_cons (ps_set (i := 3) sc_law_word.nd rfl (Or.inl rfl) (pe_lst (pa_cons (pe_callB (LamY.call_isEK (X := cxW X T.a_law_word cdv s H) (K := X.K) rfl hz hf) rfl T.m_isinstance (by decide +kernel) (pa_cons (pv 2) (pa_cons (pe_glob (v := .ref T.C_BadRule) rfl T.gx_BadRule rfl) pa_nil))) (pa_cons (pe_callB (LamY.call_isEK (X := cxW X T.a_law_word cdv s H) (K := X.K) rfl hz hf) rfl T.m_isinstance (by decide +kernel) (pa_cons (pv 2) (pa_cons (pe_glob (v := .ref T.C_BadNumber) rfl T.gx_BadNumber rfl) pa_nil))) (pa_cons (pe_callB (LamY.call_isEK (X := cxW X T.a_law_word cdv s H) (K := X.K) rfl hz hf) rfl T.m_isinstance (by decide +kernel) (pa_cons (pv 2) (pa_cons (pe_glob (v := .ref T.C_BadNumbers) rfl T.gx_BadNumbers rfl) pa_nil))) pa_nil)))))
  (pss_cons (ps_expr (pe_bmK (K := X.K) rfl PySem.F.plainAttrs_list PySem.F.slot_list_append PySem.F.type_list_append mt_append (pv 3) (pa_cons (pe_callB (LamY.call_isEK (X := cxW X T.a_law_word cdv s H) (K := X.K) rfl hz hf) rfl T.m_isinstance (by decide +kernel) (pa_cons (pv 2) (pa_cons (pe_glob (v := .ref T.C_BadPeriod) rfl T.gx_BadPeriod rfl) pa_nil))) pa_nil)))
  (pss_one (ps_set (i := 1) sc_law_word.nd rfl (Or.inl rfl) (pe_ifExp (pt_cmpR op_eq (pe_bmK (K := X.K) rfl PySem.F.plainAttrs_list PySem.F.slot_list_count PySem.F.type_list_count (LamY.mt_countK (K := X.K) rfl) (pv 3) (pa_cons pe_bl pa_nil)) pe_int (nomark _)) (pe_ix (ix_listK (K := X.K) rfl) (pe_lst (pa_cons pe_str (pa_cons pe_str (pa_cons pe_str (pa_cons pe_str pa_nil))))) (pe_bmK (K := X.K) rfl PySem.F.plainAttrs_list PySem.F.slot_list_index PySem.F.type_list_index (LamY.mt_indexK (K := X.K) rfl) (pv 3) (pa_cons pe_bl pa_nil)) (fun _ _ => rfl)) pe_str))))))) (pss_one (ps_ret (pv 1)))), ?_⟩
  · have eQ : (fun (_ : V) (H1 : Hp) => tRet (tVar 1) { nx := fun x H' => Q V.non H', rt := Q } [some (V.ref f), some (V.str (Str.ofString "")), none, none] H1) = fun (_ : V) H' => Q (V.str (Str.ofString "")) H' := by
      funext _ H1
      exact propext ⟨fun ⟨v, e, h⟩ => by cases e; exact h, fun h => ⟨_, rfl, h⟩⟩
    refine ⟨rfl, hc, _, fun cls x H' hx => ?_, by rw [← eQ] at h; exact h⟩
    obtain ⟨C, z, rfl, rfl, hz, hq⟩ := hx
    have sz4 : ∀ n : Nat, n ≤ 4 → n ≤ sizeLine := fun n h => Nat.le_trans h (by decide)
    cases hz with
    | rule =>
      refine ⟨true, T.em_BadRule, fun _ a ha => ?_, fun hb => nomatch hb⟩
      refine ⟨_, rfl, _, rfl, rfl, T.ec_BadRule, _, _, _, rfl, fun u hu => hu, T.ki_BadRule_BadRule, ?_⟩
      refine ⟨_, rfl, _, rfl, rfl, T.ec_BadRule, _, _, _, rfl, fun u hu => hu, T.ki_BadRule_BadNumber, ?_⟩
      refine ⟨_, rfl, _, rfl, rfl, T.ec_BadRule, _, _, _, rfl, fun u hu => hu, T.ki_BadRule_BadNumbers, ?_⟩
      refine ⟨sz4 3 (by decide), fun p hp => ?_⟩
      refine ⟨_, rfl, .inl ⟨rfl, _, SqL.of upd_same⟩, _, rfl, _, rfl, rfl, T.ec_BadRule, _, _, _, rfl, fun u hu => hu, T.ki_BadRule_BadPeriod, ?_⟩
      refine ⟨p, _, _, rfl, rfl, upd_same, ?_, ?_⟩
      · exact Nat.lt_of_lt_of_le (by decide : 3 < 4) (sz4 4 (by decide))
      · refine ⟨_, rfl, .inl ⟨rfl, _, SqL.of upd_same⟩, p, _, _, rfl, rfl, SqL.of upd_same, rfl, rfl, ?_⟩
        refine ⟨rfl, true, rfl, iteT ?_⟩
        refine ⟨sz4 4 (by decide), fun r hr => ?_⟩
        have pr : p ≠ r := fun e => by rw [e, upd_same] at hr; cases hr
        have hp2 : upd (upd (upd H' p (.lst [V.bl true, V.bl false, V.bl false])) p (.lst ([V.bl true, V.bl false, V.bl false] ++ [V.bl false]))) r (.lst [V.str (Str.ofString "rule"), V.str (Str.ofString "number"), V.str (Str.ofString "numbers"), V.str (Str.ofString "period")]) p = some (.lst [V.bl true, V.bl false, V.bl false, V.bl false]) := by
          rw [upd_ne pr, upd_same]
          rfl
        refine ⟨_, rfl, .inl ⟨rfl, _, SqL.of hp2⟩, p, _, _, 0, _, rfl, rfl, SqL.of hp2, rfl, rfl, rfl, rfl, fun m z' hm hz' => ?_, ?_⟩
        · exact absurd hm (Nat.not_lt_zero _)
        · refine ⟨r, _, _, _, rfl, rfl, SqL.of upd_same, rfl, ?_⟩
          rw [upd_upd] at hr ⊢
          exact ⟨_, rfl, hq _ (.step (.step .refl hp) hr)⟩
    | number =>
      refine ⟨true, T.em_BadNumber, fun _ a ha => ?_, fun hb => nomatch hb⟩
      refine ⟨_, rfl, _, rfl, rfl, T.ec_BadNumber, _, _, _, rfl, fun u hu => hu, T.ki_BadNumber_BadRule, ?_⟩
      refine ⟨_, rfl, _, rfl, rfl, T.ec_BadNumber, _, _, _, rfl, fun u hu => hu, T.ki_BadNumber_BadNumber, ?_⟩
      refine ⟨_, rfl, _, rfl, rfl, T.ec_BadNumber, _, _, _, rfl, fun u hu => hu, T.ki_BadNumber_BadNumbers, ?_⟩
      refine ⟨sz4 3 (by decide), fun p hp => ?_⟩
      refine ⟨_, rfl, .inl ⟨rfl, _, SqL.of upd_same⟩, _, rfl, _, rfl, rfl, T.ec_BadNumber, _, _, _, rfl, fun u hu => hu, T.ki_BadNumber_BadPeriod, ?_⟩
      refine ⟨p, _, _, rfl, rfl, upd_same, ?_, ?_⟩
      · exact Nat.lt_of_lt_of_le (by decide : 3 < 4) (sz4 4 (by decide))
      · refine ⟨_, rfl, .inl ⟨rfl, _, SqL.of upd_same⟩, p, _, _, rfl, rfl, SqL.of upd_same, rfl, rfl, ?_⟩
        refine ⟨rfl, true, rfl, iteT ?_⟩
        refine ⟨sz4 4 (by decide), fun r hr => ?_⟩
        have pr : p ≠ r := fun e => by rw [e, upd_same] at hr; cases hr
        have hp2 : upd (upd (upd H' p (.lst [V.bl false, V.bl true, V.bl false])) p (.lst ([V.bl false, V.bl true, V.bl false] ++ [V.bl false]))) r (.lst [V.str (Str.ofString "rule"), V.str (Str.ofString "number"), V.str (Str.ofString "numbers"), V.str (Str.ofString "period")]) p = some (.lst [V.bl false, V.bl true, V.bl false, V.bl false]) := by
          rw [upd_ne pr, upd_same]
          rfl
        refine ⟨_, rfl, .inl ⟨rfl, _, SqL.of hp2⟩, p, _, _, 1, _, rfl, rfl, SqL.of hp2, rfl, rfl, rfl, rfl, fun m z' hm hz' => ?_, ?_⟩
        · match m, hm, hz' with
          | 0, _, hz' => cases hz'; rfl
        · refine ⟨r, _, _, _, rfl, rfl, SqL.of upd_same, rfl, ?_⟩
          rw [upd_upd] at hr ⊢
          exact ⟨_, rfl, hq _ (.step (.step .refl hp) hr)⟩
    | numbers =>
      refine ⟨true, T.em_BadNumbers, fun _ a ha => ?_, fun hb => nomatch hb⟩
      refine ⟨_, rfl, _, rfl, rfl, T.ec_BadNumbers, _, _, _, rfl, fun u hu => hu, T.ki_BadNumbers_BadRule, ?_⟩
      refine ⟨_, rfl, _, rfl, rfl, T.ec_BadNumbers, _, _, _, rfl, fun u hu => hu, T.ki_BadNumbers_BadNumber, ?_⟩
      refine ⟨_, rfl, _, rfl, rfl, T.ec_BadNumbers, _, _, _, rfl, fun u hu => hu, T.ki_BadNumbers_BadNumbers, ?_⟩
      refine ⟨sz4 3 (by decide), fun p hp => ?_⟩
      refine ⟨_, rfl, .inl ⟨rfl, _, SqL.of upd_same⟩, _, rfl, _, rfl, rfl, T.ec_BadNumbers, _, _, _, rfl, fun u hu => hu, T.ki_BadNumbers_BadPeriod, ?_⟩
      refine ⟨p, _, _, rfl, rfl, upd_same, ?_, ?_⟩
      · exact Nat.lt_of_lt_of_le (by decide : 3 < 4) (sz4 4 (by decide))
      · refine ⟨_, rfl, .inl ⟨rfl, _, SqL.of upd_same⟩, p, _, _, rfl, rfl, SqL.of upd_same, rfl, rfl, ?_⟩
        refine ⟨rfl, true, rfl, iteT ?_⟩
        refine ⟨sz4 4 (by decide), fun r hr => ?_⟩
        have pr : p ≠ r := fun e => by rw [e, upd_same] at hr; cases hr
        have hp2 : upd (upd (upd H' p (.lst [V.bl false, V.bl false, V.bl true])) p (.lst ([V.bl false, V.bl false, V.bl true] ++ [V.bl false]))) r (.lst [V.str (Str.ofString "rule"), V.str (Str.ofString "number"), V.str (Str.ofString "numbers"), V.str (Str.ofString "period")]) p = some (.lst [V.bl false, V.bl false, V.bl true, V.bl false]) := by
          rw [upd_ne pr, upd_same]
          rfl
        refine ⟨_, rfl, .inl ⟨rfl, _, SqL.of hp2⟩, p, _, _, 2, _, rfl, rfl, SqL.of hp2, rfl, rfl, rfl, rfl, fun m z' hm hz' => ?_, ?_⟩
        · match m, hm, hz' with
          | 0, _, hz' => cases hz'; rfl
          | 1, _, hz' => cases hz'; rfl
        · refine ⟨r, _, _, _, rfl, rfl, SqL.of upd_same, rfl, ?_⟩
          rw [upd_upd] at hr ⊢
          exact ⟨_, rfl, hq _ (.step (.step .refl hp) hr)⟩
    | period =>
      refine ⟨true, T.em_BadPeriod, fun _ a ha => ?_, fun hb => nomatch hb⟩
      refine ⟨_, rfl, _, rfl, rfl, T.ec_BadPeriod, _, _, _, rfl, fun u hu => hu, T.ki_BadPeriod_BadRule, ?_⟩
      refine ⟨_, rfl, _, rfl, rfl, T.ec_BadPeriod, _, _, _, rfl, fun u hu => hu, T.ki_BadPeriod_BadNumber, ?_⟩
      refine ⟨_, rfl, _, rfl, rfl, T.ec_BadPeriod, _, _, _, rfl, fun u hu => hu, T.ki_BadPeriod_BadNumbers, ?_⟩
      refine ⟨sz4 3 (by decide), fun p hp => ?_⟩
      refine ⟨_, rfl, .inl ⟨rfl, _, SqL.of upd_same⟩, _, rfl, _, rfl, rfl, T.ec_BadPeriod, _, _, _, rfl, fun u hu => hu, T.ki_BadPeriod_BadPeriod, ?_⟩
      refine ⟨p, _, _, rfl, rfl, upd_same, ?_, ?_⟩
      · exact Nat.lt_of_lt_of_le (by decide : 3 < 4) (sz4 4 (by decide))
      · refine ⟨_, rfl, .inl ⟨rfl, _, SqL.of upd_same⟩, p, _, _, rfl, rfl, SqL.of upd_same, rfl, rfl, ?_⟩
        refine ⟨rfl, true, rfl, iteT ?_⟩
        refine ⟨sz4 4 (by decide), fun r hr => ?_⟩
        have pr : p ≠ r := fun e => by rw [e, upd_same] at hr; cases hr
        have hp2 : upd (upd (upd H' p (.lst [V.bl false, V.bl false, V.bl false])) p (.lst ([V.bl false, V.bl false, V.bl false] ++ [V.bl true]))) r (.lst [V.str (Str.ofString "rule"), V.str (Str.ofString "number"), V.str (Str.ofString "numbers"), V.str (Str.ofString "period")]) p = some (.lst [V.bl false, V.bl false, V.bl false, V.bl true]) := by
          rw [upd_ne pr, upd_same]
          rfl
        refine ⟨_, rfl, .inl ⟨rfl, _, SqL.of hp2⟩, p, _, _, 3, _, rfl, rfl, SqL.of hp2, rfl, rfl, rfl, rfl, fun m z' hm hz' => ?_, ?_⟩
        · match m, hm, hz' with
          | 0, _, hz' => cases hz'; rfl
          | 1, _, hz' => cases hz'; rfl
          | 2, _, hz' => cases hz'; rfl
        · refine ⟨r, _, _, _, rfl, rfl, SqL.of upd_same, rfl, ?_⟩
          rw [upd_upd] at hr ⊢
          exact ⟨_, rfl, hq _ (.step (.step .refl hp) hr)⟩
end
end K58


set_option Elab.async false
set_option linter.all false
set_option maxRecDepth 100000
set_option maxHeartbeats 4000000
namespace K58D
open PySem L2 TG DL K58
section
variable {P : Program} {w : World} {K : PySem.W.Frag} {mg : Str → Option Value} {base : Heap}
/-- any datum but a dict -/
inductive Dat : PyData → Prop
  | non : Dat .none
  | int (n : Int) : Dat (.int n)
  | bool (b : Bool) : Dat (.bool b)
  | str (s : Str) : Dat (.str s)
  | tup (ds : List PyData) : Dat (.tuple ds)
  | lst (ds : List PyData) : Dat (.list ds)
def isI : PyData → Bool
  | .int _ => true
  | _ => false
def inB (a b : Int) : PyData → Bool
  | .int n => decide (a ≤ n) && decide (n ≤ b)
  | _ => false
def F_is_int : FSp := fun args P => ∃ d : PyData, args = [some (.dat d)] ∧ Dat d ∧ P (.dat (.bool (isI d))) [none]
theorem ok_is_int {k : Nat} (T : Txt K mg)  : FnOk P w K mg base CX0 (k + 1) T.a_is_int T.d_is_int ["value"] (spD K F_is_int) := by
  refine (fun (hA : ∀ args P, F_is_int args P → args.length = 1) => T.F_is_int.ok (sp := spD K F_is_int) sc_is_int (fun vs H Q E h => spD_len hA h) (fun cdv A outer s H vs Q E hr h => ⟨_, (pss_one (ps_ret (pe_and (pe_callB (call_isiX (K := K) rfl) rfl T.m_isinstance (by decide +kernel) (pa_cons (pv 0) (pa_cons (pe_bltn (v := .ty "int") (u := .type "int") rfl T.m_int (by decide +kernel) rfl) pa_nil))) (pe_one (pe_not (pe_callB (call_isiX (K := K) rfl) rfl T.m_isinstance (by decide +kernel) (pa_cons (pv 0) (pa_cons (pe_bltn (v := .ty "bool") (u := .type "bool") rfl T.m_bool (by decide +kernel) rfl) pa_nil)))))))), fn_run (N := ["value"]) h (fun A' Hz' => (ss_ret (se_andV (se_isi rfl se_var) (se_notV (se_isi rfl se_var))))) (fun args P hl hF => ?_) (by rw [spD_len hA h]; exact Nat.le_of_ble_eq_true rfl)⟩)) (fun args P hF => ?_)
  rotate_left
  · obtain ⟨n, rfl, _⟩ := hF
    rfl
  obtain ⟨n, rfl, hn, q⟩ := hF
  cases hn <;> (simp -implicitDefEqProofs only [DL.WW, List.isEmpty_nil, List.lookup_cons, List.lookup_nil, List.map, List.length, List.length_cons, List.length_nil, List.length_set, List.replicate, List.append, List.cons_append, List.nil_append, List.append_nil, List.getElem?_cons_zero, List.getElem?_cons_succ, List.getElem?_nil, List.set_cons_zero, List.set_cons_succ, ↓reduceIte, Bool.false_eq_true, Bool.not_true, Bool.not_false, Bool.true_and, Bool.false_and, Bool.and_true, Bool.and_false, Bool.or_true, Bool.or_false, Bool.true_or, Bool.false_or, Nat.reduceAdd, Nat.reduceSub, Nat.reduceLT, Nat.reduceLeDiff, true_and, and_true, and_self, decide_eq_true_eq, Nat.zero_lt_succ, Nat.lt_add_left_iff_pos, beq_self_eq_true, String.reduceBEq, String.reduceEq, Nat.le_refl, Nat.zero_le, Bool.true_eq_false, decide_true, decide_false, Int.reduceEq, Int.reduceLT, Int.reduceLE, Int.reduceSub, Int.reduceAdd, DL.wIfT, DL.wListRg, DL.eSortT]; exact q)
def F_is_in : FSp := fun args P => ∃ (d : PyData) (a b : Int), args = [some (.dat d), some (.dat (.int a)), some (.dat (.int b))] ∧ Dat d ∧ P (.dat (.bool (inB a b d))) [none, none, none]
theorem ok_is_in {k : Nat} (T : Txt K mg) (G_is_int : FnOk P w K mg base CX0 (k) T.a_is_int T.d_is_int ["value"] (spD K F_is_int)) : FnOk P w K mg base CX0 (k + 1) T.a_is_in T.d_is_in ["value", "least", "most"] (spD K F_is_in) := by
  refine (fun (hA : ∀ args P, F_is_in args P → args.length = 3) => T.F_is_in.ok (sp := spD K F_is_in) sc_is_in (fun vs H Q E h => spD_len hA h) (fun cdv A outer s H vs Q E hr h => ⟨_, (pss_one (ps_ret (pe_and (pe_call G_is_int hr rfl T.g_is_int T.F_is_int.kp T.b_is_int .nil pass0 (pa_cons (pv 0) pa_nil)) (pe_one (pe_chain op_le op_le (pv 1) (pv 0) (pv 2)))))), fn_run (N := ["value", "least", "most"]) h (fun A' Hz' => (ss_ret (se_andV (se_call (sa_cons se_var sa_nil)) (se_chain (sr_I0 (fun _ _ => rfl)) (sr_I0 (fun _ _ => rfl)) se_var se_var se_var)))) (fun args P hl hF => ?_) (by rw [spD_len hA h]; exact Nat.le_of_ble_eq_true rfl)⟩)) (fun args P hF => ?_)
  rotate_left
  · obtain ⟨n, a, b, rfl, _⟩ := hF
    rfl
  obtain ⟨n, a, b, rfl, hn, q⟩ := hF
  simp -implicitDefEqProofs only [DL.WW, List.isEmpty_nil, List.lookup_cons, List.lookup_nil, List.map, List.length, List.length_cons, List.length_nil, List.length_set, List.replicate, List.append, List.cons_append, List.nil_append, List.append_nil, List.getElem?_cons_zero, List.getElem?_cons_succ, List.getElem?_nil, List.set_cons_zero, List.set_cons_succ, ↓reduceIte, Bool.false_eq_true, Bool.not_true, Bool.not_false, Bool.true_and, Bool.false_and, Bool.and_true, Bool.and_false, Bool.or_true, Bool.or_false, Bool.true_or, Bool.false_or, Nat.reduceAdd, Nat.reduceSub, Nat.reduceLT, Nat.reduceLeDiff, true_and, and_true, and_self, decide_eq_true_eq, Nat.zero_lt_succ, Nat.lt_add_left_iff_pos, beq_self_eq_true, String.reduceBEq, String.reduceEq, Nat.le_refl, Nat.zero_le, Bool.true_eq_false, decide_true, decide_false, Int.reduceEq, Int.reduceLT, Int.reduceLE, Int.reduceSub, Int.reduceAdd, DL.wIfT, DL.wListRg, DL.eSortT]
  refine ⟨n, rfl, hn, ?_⟩
  cases hn with
  | int n =>
    simp -implicitDefEqProofs only [DL.WW, List.isEmpty_nil, List.lookup_cons, List.lookup_nil, List.map, List.length, List.length_cons, List.length_nil, List.length_set, List.replicate, List.append, List.cons_append, List.nil_append, List.append_nil, List.getElem?_cons_zero, List.getElem?_cons_succ, List.getElem?_nil, List.set_cons_zero, List.set_cons_succ, ↓reduceIte, Bool.false_eq_true, Bool.not_true, Bool.not_false, Bool.true_and, Bool.false_and, Bool.and_true, Bool.and_false, Bool.or_true, Bool.or_false, Bool.true_or, Bool.false_or, Nat.reduceAdd, Nat.reduceSub, Nat.reduceLT, Nat.reduceLeDiff, true_and, and_true, and_self, decide_eq_true_eq, Nat.zero_lt_succ, Nat.lt_add_left_iff_pos, beq_self_eq_true, String.reduceBEq, String.reduceEq, Nat.le_refl, Nat.zero_le, Bool.true_eq_false, decide_true, decide_false, Int.reduceEq, Int.reduceLT, Int.reduceLE, Int.reduceSub, Int.reduceAdd, DL.wIfT, DL.wListRg, DL.eSortT, isI]
    by_cases h : a ≤ n
    · simp [h, inB] at q ⊢
      exact q
    · simp [h, inB] at q ⊢
      exact q
  | _ => simp -implicitDefEqProofs only [DL.WW, List.isEmpty_nil, List.lookup_cons, List.lookup_nil, List.map, List.length, List.length_cons, List.length_nil, List.length_set, List.replicate, List.append, List.cons_append, List.nil_append, List.append_nil, List.getElem?_cons_zero, List.getElem?_cons_succ, List.getElem?_nil, List.set_cons_zero, List.set_cons_succ, ↓reduceIte, Bool.false_eq_true, Bool.not_true, Bool.not_false, Bool.true_and, Bool.false_and, Bool.and_true, Bool.and_false, Bool.or_true, Bool.or_false, Bool.true_or, Bool.false_or, Nat.reduceAdd, Nat.reduceSub, Nat.reduceLT, Nat.reduceLeDiff, true_and, and_true, and_self, decide_eq_true_eq, Nat.zero_lt_succ, Nat.lt_add_left_iff_pos, beq_self_eq_true, String.reduceBEq, String.reduceEq, Nat.le_refl, Nat.zero_le, Bool.true_eq_false, decide_true, decide_false, Int.reduceEq, Int.reduceLT, Int.reduceLE, Int.reduceSub, Int.reduceAdd, DL.wIfT, DL.wListRg, DL.eSortT, isI]; exact q
end
end K58D


set_option Elab.async false
set_option linter.all false
set_option maxRecDepth 100000
set_option maxHeartbeats 4000000
namespace K58D
open PySem L2 TG DL K58
section
variable {P : Program} {w : World} {K : PySem.W.Frag} {mg : Str → Option Value} {base : Heap}
variable {T0 : Txt K mg}
def FX_need_number (T : Txt K mg) : FXp := fun args P R => ∃ (d : PyData) (a b : Int), args = [some (.dat d), some (.dat (.int a)), some (.dat (.int b))] ∧ Dat d ∧ (inB a b d = true → P (.dat .none) [none, none, none]) ∧ (inB a b d = false → R T.C_BadNumber [] [none, none, none])
theorem okX_need_number {k : Nat} (T : Txt K mg) (G_is_in : FnOk P w K mg base CX0 k T.a_is_in T.d_is_in ["value", "least", "most"] (spD K F_is_in)) : FnOk P w K mg base (L2.CX P w) (k + 1) T.a_need_number T.d_need_number ["value", "least", "most"] (spX K (FX_need_number T)) := by
  refine (fun (hA : ∀ args P R, (FX_need_number T) args P R → args.length = 3) => T.F_need_number.okE (sp := spX K (FX_need_number T)) sc_need_number (fun vs H Q E h => spX_len hA h) (fun cdv A outer s H vs Q E hr h => ⟨_, (pss_one (ps_if (pt_not (pt_val (pe_call G_is_in hr rfl T.g_is_in T.F_is_in.kp T.b_is_in .nil pass0 (pa_cons (pv 0) (pa_cons (pv 1) (pa_cons (pv 2) pa_nil))))))
  (pss_one (ps_raiseN T.gx_BadNumber T.xi_BadNumber T.kx_BadNumber T.bx_BadNumber T.tx_BadNumber))
  pss_nil)), fnX_run (N := ["value", "least", "most"]) h (fun A' Hz' R' hE => (ss_if (st_not (st_B (se_call (sa_cons se_var (sa_cons se_var (sa_cons se_var sa_nil))))))
  (ss_raise hE)
  ss_next)) (fun args P R hl hF => ?_) (by rw [spX_len hA h]; exact Nat.le_of_ble_eq_true rfl)⟩)) (fun args P R hF => ?_)
  rotate_left
  · obtain ⟨n, a, b, rfl, _⟩ := hF
    rfl
  obtain ⟨n, a, b, rfl, hn, q1, q2⟩ := hF
  simp -implicitDefEqProofs only [DL.WW, List.isEmpty_nil, List.lookup_cons, List.lookup_nil, List.map, List.length, List.length_cons, List.length_nil, List.length_set, List.replicate, List.append, List.cons_append, List.nil_append, List.append_nil, List.getElem?_cons_zero, List.getElem?_cons_succ, List.getElem?_nil, List.set_cons_zero, List.set_cons_succ, ↓reduceIte, Bool.false_eq_true, Bool.not_true, Bool.not_false, Bool.true_and, Bool.false_and, Bool.and_true, Bool.and_false, Bool.or_true, Bool.or_false, Bool.true_or, Bool.false_or, Nat.reduceAdd, Nat.reduceSub, Nat.reduceLT, Nat.reduceLeDiff, true_and, and_true, and_self, decide_eq_true_eq, Nat.zero_lt_succ, Nat.lt_add_left_iff_pos, beq_self_eq_true, String.reduceBEq, String.reduceEq, Nat.le_refl, Nat.zero_le, Bool.true_eq_false, decide_true, decide_false, Int.reduceEq, Int.reduceLT, Int.reduceLE, Int.reduceSub, Int.reduceAdd, DL.wIfT, DL.wListRg, DL.eSortT, DL.wFun, DL.wWord, DL.wWordV, DL.wCallX, DL.wRaise]
  refine ⟨n, _, _, rfl, hn, ?_⟩
  simp -implicitDefEqProofs only [DL.WW, List.isEmpty_nil, List.lookup_cons, List.lookup_nil, List.map, List.length, List.length_cons, List.length_nil, List.length_set, List.replicate, List.append, List.cons_append, List.nil_append, List.append_nil, List.getElem?_cons_zero, List.getElem?_cons_succ, List.getElem?_nil, List.set_cons_zero, List.set_cons_succ, ↓reduceIte, Bool.false_eq_true, Bool.not_true, Bool.not_false, Bool.true_and, Bool.false_and, Bool.and_true, Bool.and_false, Bool.or_true, Bool.or_false, Bool.true_or, Bool.false_or, Nat.reduceAdd, Nat.reduceSub, Nat.reduceLT, Nat.reduceLeDiff, true_and, and_true, and_self, decide_eq_true_eq, Nat.zero_lt_succ, Nat.lt_add_left_iff_pos, beq_self_eq_true, String.reduceBEq, String.reduceEq, Nat.le_refl, Nat.zero_le, Bool.true_eq_false, decide_true, decide_false, Int.reduceEq, Int.reduceLT, Int.reduceLE, Int.reduceSub, Int.reduceAdd, DL.wIfT, DL.wListRg, DL.eSortT, DL.wFun, DL.wWord, DL.wWordV, DL.wCallX, DL.wRaise]
  cases c : inB a b n with
  | true =>
    simp -implicitDefEqProofs only [DL.WW, List.isEmpty_nil, List.lookup_cons, List.lookup_nil, List.map, List.length, List.length_cons, List.length_nil, List.length_set, List.replicate, List.append, List.cons_append, List.nil_append, List.append_nil, List.getElem?_cons_zero, List.getElem?_cons_succ, List.getElem?_nil, List.set_cons_zero, List.set_cons_succ, ↓reduceIte, Bool.false_eq_true, Bool.not_true, Bool.not_false, Bool.true_and, Bool.false_and, Bool.and_true, Bool.and_false, Bool.or_true, Bool.or_false, Bool.true_or, Bool.false_or, Nat.reduceAdd, Nat.reduceSub, Nat.reduceLT, Nat.reduceLeDiff, true_and, and_true, and_self, decide_eq_true_eq, Nat.zero_lt_succ, Nat.lt_add_left_iff_pos, beq_self_eq_true, String.reduceBEq, String.reduceEq, Nat.le_refl, Nat.zero_le, Bool.true_eq_false, decide_true, decide_false, Int.reduceEq, Int.reduceLT, Int.reduceLE, Int.reduceSub, Int.reduceAdd, DL.wIfT, DL.wListRg, DL.eSortT, DL.wFun, DL.wWord, DL.wWordV, DL.wCallX, DL.wRaise]
    exact q1 c
  | false =>
    simp -implicitDefEqProofs only [DL.WW, List.isEmpty_nil, List.lookup_cons, List.lookup_nil, List.map, List.length, List.length_cons, List.length_nil, List.length_set, List.replicate, List.append, List.cons_append, List.nil_append, List.append_nil, List.getElem?_cons_zero, List.getElem?_cons_succ, List.getElem?_nil, List.set_cons_zero, List.set_cons_succ, ↓reduceIte, Bool.false_eq_true, Bool.not_true, Bool.not_false, Bool.true_and, Bool.false_and, Bool.and_true, Bool.and_false, Bool.or_true, Bool.or_false, Bool.true_or, Bool.false_or, Nat.reduceAdd, Nat.reduceSub, Nat.reduceLT, Nat.reduceLeDiff, true_and, and_true, and_self, decide_eq_true_eq, Nat.zero_lt_succ, Nat.lt_add_left_iff_pos, beq_self_eq_true, String.reduceBEq, String.reduceEq, Nat.le_refl, Nat.zero_le, Bool.true_eq_false, decide_true, decide_false, Int.reduceEq, Int.reduceLT, Int.reduceLE, Int.reduceSub, Int.reduceAdd, DL.wIfT, DL.wListRg, DL.eSortT, DL.wFun, DL.wWord, DL.wWordV, DL.wCallX, DL.wRaise]
    exact q2 c
/-- a datum whose parts are no dicts -/
def Dat2 (d : PyData) : Prop := Dat d ∧ ∀ ds, d = .tuple ds → ∀ x ∈ ds, Dat x
def isZ : Option PyData → Bool
  | some (.int 0) => true
  | _ => false
def allIn (a b : Int) (ds : List PyData) : Bool := ds.all (inB a b)
def ruleB : PyData → Bool
  | .tuple ds => decide (1 ≤ ds.length ∧ ds.length ≤ 6) && allIn 0 7 ds && !isZ ds.getLast?
  | _ => false
def FX_need_rule (T : Txt K mg) : FXp := fun args P R => ∃ d : PyData, args = [some (.dat d)] ∧ Dat2 d ∧ (ruleB d = true → P (.dat .none) [none]) ∧ (ruleB d = false → R T.C_BadRule [] [none])
theorem okX_need_rule {k : Nat} (T : Txt K mg) (G_is_in : FnOk P w K mg base CX0 k T.a_is_in T.d_is_in ["value", "least", "most"] (spD K F_is_in)) : FnOk P w K mg base (L2.CX P w) (k + 1) T.a_need_rule T.d_need_rule ["value"] (spX K (FX_need_rule T)) := by
  refine (fun (hA : ∀ args P R, (FX_need_rule T) args P R → args.length = 1) => T.F_need_rule.okE (sp := spX K (FX_need_rule T)) sc_need_rule (fun vs H Q E h => spX_len hA h) (fun cdv A outer s H vs Q E hr h => ⟨_, (pss_cons (ps_if (PW.pt (pw_or (pt_not (pt_val (pe_callB (call_isiX (K := K) rfl) rfl T.m_isinstance (by decide +kernel) (pa_cons (pv 0) (pa_cons (pe_bltn (v := .ty "tuple") (u := .type "tuple") rfl T.m_tuple (by decide +kernel) rfl) pa_nil))))) (pw_or1 (pt_not (pt_chain op_le op_le pe_int (pe_callB (call_lenK (K := K) rfl) rfl T.m_len PySem.boot_len (pa_cons (pv 0) pa_nil)) (pe_glob (v := .int 6) rfl T.c_MOST_DIGITS ⟨_, rfl⟩))))))
  (pss_one (ps_raiseN T.gx_BadRule T.xi_BadRule T.kx_BadRule T.bx_BadRule T.tx_BadRule))
  pss_nil)
  (pss_one (ps_if (PW.pt (pw_or (pt_not (pt_val (pe_callB (cr_allK (K := K) rfl rfl) rfl T.m_all (by decide +kernel) (pa_cons (pe_lc (own := [("digit", 1)]) rfl sc_need_rule.nd (pi_tupK (K := K) rfl (pv 0)) (blkOk_by (N := ["value", "digit"]) (sc := defScope s_need_rule) (by decide +kernel)) (fun _ _ _ _ _ => (pg_name (i := 1) sc_need_rule.nd rfl (Or.inl rfl))) (fun _ _ _ _ _ => pts_nil) (fun _ _ _ _ _ => (pe_call G_is_in hr rfl T.g_is_in T.F_is_in.kp T.b_is_in .nil pass0 (pa_cons (pv 1) (pa_cons pe_int (pa_cons pe_int pa_nil)))))) pa_nil)))) (pw_or1 (pt_cmpR (op_eqDK (K := K) rfl hr.units) (pe_ix (ix_tupK (K := K) rfl) (pv 0) (pe_un un_neg pe_int) (fun _ _ => rfl)) pe_int (nomark _)))))
  (pss_one (ps_raiseN T.gx_BadRule T.xi_BadRule T.kx_BadRule T.bx_BadRule T.tx_BadRule))
  pss_nil))), fnX_run (N := ["value", "digit"]) h (fun A' Hz' R' hE => (ss_seq (ss_if (st_or (st_not (st_B (se_isi rfl se_var))) (st_not (st_test (se_chain (sr_I0 (fun _ _ => rfl)) (sr_I0 (fun _ _ => rfl)) se_int (se_cb1 sc_len se_var) se_int))))
  (ss_raise hE)
  ss_next)
  (ss_if (st_or (st_not (st_B (se_cb1 sc_all (se_lc (si_tup se_var) sg_name st_yes (se_call (sa_cons se_var (sa_cons se_int (sa_cons se_int sa_nil)))) (by decide))))) (st_test (se_op sr_eqD (se_op sr_ixT se_var (se_un (fun _ => rfl) se_int)) se_int)))
  (ss_raise hE)
  ss_next))) (fun args P R hl hF => ?_) (by rw [spX_len hA h]; exact Nat.le_of_ble_eq_true rfl)⟩)) (fun args P R hF => ?_)
  rotate_left
  · obtain ⟨n, rfl, _⟩ := hF
    rfl
  obtain ⟨d, rfl, ⟨hd, hd2⟩, q1, q2⟩ := hF
  cases hd with
  | tup ds =>
    have hin := hd2 ds rfl
    simp -implicitDefEqProofs only [DL.WW, List.isEmpty_nil, List.lookup_cons, List.lookup_nil, List.map, List.length, List.length_cons, List.length_nil, List.length_set, List.replicate, List.append, List.cons_append, List.nil_append, List.append_nil, List.getElem?_cons_zero, List.getElem?_cons_succ, List.getElem?_nil, List.set_cons_zero, List.set_cons_succ, ↓reduceIte, Bool.false_eq_true, Bool.not_true, Bool.not_false, Bool.true_and, Bool.false_and, Bool.and_true, Bool.and_false, Bool.or_true, Bool.or_false, Bool.true_or, Bool.false_or, Nat.reduceAdd, Nat.reduceSub, Nat.reduceLT, Nat.reduceLeDiff, true_and, and_true, and_self, decide_eq_true_eq, Nat.zero_lt_succ, Nat.lt_add_left_iff_pos, beq_self_eq_true, String.reduceBEq, String.reduceEq, Nat.le_refl, Nat.zero_le, Bool.true_eq_false, decide_true, decide_false, Int.reduceEq, Int.reduceLT, Int.reduceLE, Int.reduceSub, Int.reduceAdd, DL.wIfT, DL.wListRg, DL.eSortT, DL.wFun, DL.wWord, DL.wWordV, DL.wCallX, DL.wRaise]
    by_cases c1 : 1 ≤ (ds.length : Int)
    · rw [if_pos c1]
      by_cases c2 : (ds.length : Int) ≤ 6
      · rw [decide_eq_true c2, if_neg (by decide)]
        refine lc_use ?_
        simp -implicitDefEqProofs only [DL.WW, List.isEmpty_nil, List.lookup_cons, List.lookup_nil, List.map, List.length, List.length_cons, List.length_nil, List.length_set, List.replicate, List.append, List.cons_append, List.nil_append, List.append_nil, List.getElem?_cons_zero, List.getElem?_cons_succ, List.getElem?_nil, List.set_cons_zero, List.set_cons_succ, ↓reduceIte, Bool.false_eq_true, Bool.not_true, Bool.not_false, Bool.true_and, Bool.false_and, Bool.and_true, Bool.and_false, Bool.or_true, Bool.or_false, Bool.true_or, Bool.false_or, Nat.reduceAdd, Nat.reduceSub, Nat.reduceLT, Nat.reduceLeDiff, true_and, and_true, and_self, decide_eq_true_eq, Nat.zero_lt_succ, Nat.lt_add_left_iff_pos, beq_self_eq_true, String.reduceBEq, String.reduceEq, Nat.le_refl, Nat.zero_le, Bool.true_eq_false, decide_true, decide_false, Int.reduceEq, Int.reduceLT, Int.reduceLE, Int.reduceSub, Int.reduceAdd, DL.wIfT, DL.wListRg, DL.eSortT, DL.wFun, DL.wWord, DL.wWordV, DL.wCallX, DL.wRaise]
        refine lc_acc (fun j => ((ds.take j).map (inB 0 7)).map PyData.bool) rfl rfl (fun j hj => ?_) (fun j d hd => ?_) ?_
        · rw [List.length_map, List.length_map, List.length_take]
          omega
        · have hx := hin d (List.mem_of_getElem? hd)
          simp -implicitDefEqProofs only [DL.WW, List.isEmpty_nil, List.lookup_cons, List.lookup_nil, List.map, List.length, List.length_cons, List.length_nil, List.length_set, List.replicate, List.append, List.cons_append, List.nil_append, List.append_nil, List.getElem?_cons_zero, List.getElem?_cons_succ, List.getElem?_nil, List.set_cons_zero, List.set_cons_succ, ↓reduceIte, Bool.false_eq_true, Bool.not_true, Bool.not_false, Bool.true_and, Bool.false_and, Bool.and_true, Bool.and_false, Bool.or_true, Bool.or_false, Bool.true_or, Bool.false_or, Nat.reduceAdd, Nat.reduceSub, Nat.reduceLT, Nat.reduceLeDiff, true_and, and_true, and_self, decide_eq_true_eq, Nat.zero_lt_succ, Nat.lt_add_left_iff_pos, beq_self_eq_true, String.reduceBEq, String.reduceEq, Nat.le_refl, Nat.zero_le, Bool.true_eq_false, decide_true, decide_false, Int.reduceEq, Int.reduceLT, Int.reduceLE, Int.reduceSub, Int.reduceAdd, DL.wIfT, DL.wListRg, DL.eSortT, DL.wFun, DL.wWord, DL.wWordV, DL.wCallX, DL.wRaise]
          refine ⟨d, 0, 7, rfl, hx, ?_⟩
          simp -implicitDefEqProofs only [DL.WW, List.isEmpty_nil, List.lookup_cons, List.lookup_nil, List.map, List.length, List.length_cons, List.length_nil, List.length_set, List.replicate, List.append, List.cons_append, List.nil_append, List.append_nil, List.getElem?_cons_zero, List.getElem?_cons_succ, List.getElem?_nil, List.set_cons_zero, List.set_cons_succ, ↓reduceIte, Bool.false_eq_true, Bool.not_true, Bool.not_false, Bool.true_and, Bool.false_and, Bool.and_true, Bool.and_false, Bool.or_true, Bool.or_false, Bool.true_or, Bool.false_or, Nat.reduceAdd, Nat.reduceSub, Nat.reduceLT, Nat.reduceLeDiff, true_and, and_true, and_self, decide_eq_true_eq, Nat.zero_lt_succ, Nat.lt_add_left_iff_pos, beq_self_eq_true, String.reduceBEq, String.reduceEq, Nat.le_refl, Nat.zero_le, Bool.true_eq_false, decide_true, decide_false, Int.reduceEq, Int.reduceLT, Int.reduceLE, Int.reduceSub, Int.reduceAdd, DL.wIfT, DL.wListRg, DL.eSortT, DL.wFun, DL.wWord, DL.wWordV, DL.wCallX, DL.wRaise]
          rw [List.take_succ, hd, List.map_append, List.map_append]
          rfl
        simp -implicitDefEqProofs only [DL.WW, List.isEmpty_nil, List.lookup_cons, List.lookup_nil, List.map, List.length, List.length_cons, List.length_nil, List.length_set, List.replicate, List.append, List.cons_append, List.nil_append, List.append_nil, List.getElem?_cons_zero, List.getElem?_cons_succ, List.getElem?_nil, List.set_cons_zero, List.set_cons_succ, ↓reduceIte, Bool.false_eq_true, Bool.not_true, Bool.not_false, Bool.true_and, Bool.false_and, Bool.and_true, Bool.and_false, Bool.or_true, Bool.or_false, Bool.true_or, Bool.false_or, Nat.reduceAdd, Nat.reduceSub, Nat.reduceLT, Nat.reduceLeDiff, true_and, and_true, and_self, decide_eq_true_eq, Nat.zero_lt_succ, Nat.lt_add_left_iff_pos, beq_self_eq_true, String.reduceBEq, String.reduceEq, Nat.le_refl, Nat.zero_le, Bool.true_eq_false, decide_true, decide_false, Int.reduceEq, Int.reduceLT, Int.reduceLE, Int.reduceSub, Int.reduceAdd, DL.wIfT, DL.wListRg, DL.eSortT, DL.wFun, DL.wWord, DL.wWordV, DL.wCallX, DL.wRaise]
        rw [List.take_length, boolsD_map]
        simp -implicitDefEqProofs only [DL.WW, List.isEmpty_nil, List.lookup_cons, List.lookup_nil, List.map, List.length, List.length_cons, List.length_nil, List.length_set, List.replicate, List.append, List.cons_append, List.nil_append, List.append_nil, List.getElem?_cons_zero, List.getElem?_cons_succ, List.getElem?_nil, List.set_cons_zero, List.set_cons_succ, ↓reduceIte, Bool.false_eq_true, Bool.not_true, Bool.not_false, Bool.true_and, Bool.false_and, Bool.and_true, Bool.and_false, Bool.or_true, Bool.or_false, Bool.true_or, Bool.false_or, Nat.reduceAdd, Nat.reduceSub, Nat.reduceLT, Nat.reduceLeDiff, true_and, and_true, and_self, decide_eq_true_eq, Nat.zero_lt_succ, Nat.lt_add_left_iff_pos, beq_self_eq_true, String.reduceBEq, String.reduceEq, Nat.le_refl, Nat.zero_le, Bool.true_eq_false, decide_true, decide_false, Int.reduceEq, Int.reduceLT, Int.reduceLE, Int.reduceSub, Int.reduceAdd, DL.wIfT, DL.wListRg, DL.eSortT, DL.wFun, DL.wWord, DL.wWordV, DL.wCallX, DL.wRaise]
        have ea : (ds.map (inB 0 7)).all id = allIn 0 7 ds := by
          unfold allIn
          rw [List.all_map]
          rfl
        rw [ea]
        have hlen : decide (1 ≤ ds.length ∧ ds.length ≤ 6) = true := decide_eq_true ⟨by omega, by omega⟩
        cases c3 : allIn 0 7 ds with
        | false =>
          rw [if_pos (by decide)]
          exact q2 (by
            show (decide (1 ≤ ds.length ∧ ds.length ≤ 6) && allIn 0 7 ds && !isZ ds.getLast?) = false
            rw [c3, Bool.and_false, Bool.false_and])
        | true =>
          rw [if_neg (by decide)]
          have hne : ds ≠ [] := fun e => by rw [e] at c1; exact absurd c1 (by decide)
          have hlast : ds.getLast? = some (ds.getLast hne) := List.getLast?_eq_some_getLast hne
          obtain ⟨n, hn⟩ : ∃ n : Int, ds.getLast hne = .int n := by
            have hx := List.all_eq_true.mp c3 _ (List.getLast_mem hne)
            cases hd : ds.getLast hne with
            | int n => exact ⟨n, rfl⟩
            | _ => rw [hd] at hx; cases hx
          have hat : atI ds (-1) = some (.int n) := by
            have e : ds = ds.dropLast ++ [.int n] := by rw [← hn, List.dropLast_concat_getLast]
            rw [e]
            exact atI_last _ _
          simp -implicitDefEqProofs only [DL.WW, List.isEmpty_nil, List.lookup_cons, List.lookup_nil, List.map, List.length, List.length_cons, List.length_nil, List.length_set, List.replicate, List.append, List.cons_append, List.nil_append, List.append_nil, List.getElem?_cons_zero, List.getElem?_cons_succ, List.getElem?_nil, List.set_cons_zero, List.set_cons_succ, ↓reduceIte, Bool.false_eq_true, Bool.not_true, Bool.not_false, Bool.true_and, Bool.false_and, Bool.and_true, Bool.and_false, Bool.or_true, Bool.or_false, Bool.true_or, Bool.false_or, Nat.reduceAdd, Nat.reduceSub, Nat.reduceLT, Nat.reduceLeDiff, true_and, and_true, and_self, decide_eq_true_eq, Nat.zero_lt_succ, Nat.lt_add_left_iff_pos, beq_self_eq_true, String.reduceBEq, String.reduceEq, Nat.le_refl, Nat.zero_le, Bool.true_eq_false, decide_true, decide_false, Int.reduceEq, Int.reduceLT, Int.reduceLE, Int.reduceSub, Int.reduceAdd, DL.wIfT, DL.wListRg, DL.eSortT, DL.wFun, DL.wWord, DL.wWordV, DL.wCallX, DL.wRaise, hat]
          have hb : ruleB (.tuple ds) = !isZ (some (.int n)) := by
            show (decide (1 ≤ ds.length ∧ ds.length ≤ 6) && allIn 0 7 ds && !isZ ds.getLast?) = _
            rw [hlen, c3, hlast, hn]
            rfl
          by_cases c4 : n = 0
          · subst c4
            simp -implicitDefEqProofs only [DL.WW, List.isEmpty_nil, List.lookup_cons, List.lookup_nil, List.map, List.length, List.length_cons, List.length_nil, List.length_set, List.replicate, List.append, List.cons_append, List.nil_append, List.append_nil, List.getElem?_cons_zero, List.getElem?_cons_succ, List.getElem?_nil, List.set_cons_zero, List.set_cons_succ, ↓reduceIte, Bool.false_eq_true, Bool.not_true, Bool.not_false, Bool.true_and, Bool.false_and, Bool.and_true, Bool.and_false, Bool.or_true, Bool.or_false, Bool.true_or, Bool.false_or, Nat.reduceAdd, Nat.reduceSub, Nat.reduceLT, Nat.reduceLeDiff, true_and, and_true, and_self, decide_eq_true_eq, Nat.zero_lt_succ, Nat.lt_add_left_iff_pos, beq_self_eq_true, String.reduceBEq, String.reduceEq, Nat.le_refl, Nat.zero_le, Bool.true_eq_false, decide_true, decide_false, Int.reduceEq, Int.reduceLT, Int.reduceLE, Int.reduceSub, Int.reduceAdd, DL.wIfT, DL.wListRg, DL.eSortT, DL.wFun, DL.wWord, DL.wWordV, DL.wCallX, DL.wRaise]
            exact q2 (by rw [hb]; rfl)
          · have hz : isZ (some (.int n)) = false := by
              unfold isZ
              split
              · next h => cases h; exact absurd rfl c4
              · rfl
            simp -implicitDefEqProofs only [DL.WW, List.isEmpty_nil, List.lookup_cons, List.lookup_nil, List.map, List.length, List.length_cons, List.length_nil, List.length_set, List.replicate, List.append, List.cons_append, List.nil_append, List.append_nil, List.getElem?_cons_zero, List.getElem?_cons_succ, List.getElem?_nil, List.set_cons_zero, List.set_cons_succ, ↓reduceIte, Bool.false_eq_true, Bool.not_true, Bool.not_false, Bool.true_and, Bool.false_and, Bool.and_true, Bool.and_false, Bool.or_true, Bool.or_false, Bool.true_or, Bool.false_or, Nat.reduceAdd, Nat.reduceSub, Nat.reduceLT, Nat.reduceLeDiff, true_and, and_true, and_self, decide_eq_true_eq, Nat.zero_lt_succ, Nat.lt_add_left_iff_pos, beq_self_eq_true, String.reduceBEq, String.reduceEq, Nat.le_refl, Nat.zero_le, Bool.true_eq_false, decide_true, decide_false, Int.reduceEq, Int.reduceLT, Int.reduceLE, Int.reduceSub, Int.reduceAdd, DL.wIfT, DL.wListRg, DL.eSortT, DL.wFun, DL.wWord, DL.wWordV, DL.wCallX, DL.wRaise, c4]
            exact q1 (by rw [hb, hz]; rfl)
      · rw [decide_eq_false c2, if_pos (by decide)]
        exact q2 (by
          show (decide (1 ≤ ds.length ∧ ds.length ≤ 6) && allIn 0 7 ds && !isZ ds.getLast?) = false
          rw [decide_eq_false (by omega), Bool.false_and, Bool.false_and])
    · rw [if_neg c1]
      exact q2 (by
        show (decide (1 ≤ ds.length ∧ ds.length ≤ 6) && allIn 0 7 ds && !isZ ds.getLast?) = false
        rw [decide_eq_false (by omega), Bool.false_and, Bool.false_and])
  | _ => simp -implicitDefEqProofs only [DL.WW, List.isEmpty_nil, List.lookup_cons, List.lookup_nil, List.map, List.length, List.length_cons, List.length_nil, List.length_set, List.replicate, List.append, List.cons_append, List.nil_append, List.append_nil, List.getElem?_cons_zero, List.getElem?_cons_succ, List.getElem?_nil, List.set_cons_zero, List.set_cons_succ, ↓reduceIte, Bool.false_eq_true, Bool.not_true, Bool.not_false, Bool.true_and, Bool.false_and, Bool.and_true, Bool.and_false, Bool.or_true, Bool.or_false, Bool.true_or, Bool.false_or, Nat.reduceAdd, Nat.reduceSub, Nat.reduceLT, Nat.reduceLeDiff, true_and, and_true, and_self, decide_eq_true_eq, Nat.zero_lt_succ, Nat.lt_add_left_iff_pos, beq_self_eq_true, String.reduceBEq, String.reduceEq, Nat.le_refl, Nat.zero_le, Bool.true_eq_false, decide_true, decide_false, Int.reduceEq, Int.reduceLT, Int.reduceLE, Int.reduceSub, Int.reduceAdd, DL.wIfT, DL.wListRg, DL.eSortT, DL.wFun, DL.wWord, DL.wWordV, DL.wCallX, DL.wRaise]; exact q2 rfl
def FX_heap_values (T : Txt K mg) : FXp := fun args P R => ∃ d e : PyData, args = [some (.dat d), some (.dat e)] ∧ Dat2 d ∧ Dat e ∧ (ruleB d = false → R T.C_BadRule [] [none, none]) ∧ (ruleB d = true → inB 0 400 e = false ∧ R T.C_BadNumber [] [none, none])
theorem okX_heap_values {k : Nat} (T : Txt K mg) (GX_need_rule : FnOk P w K mg base (L2.CX P w) k T.a_need_rule T.d_need_rule ["value"] (spX K (FX_need_rule T))) (GX_need_number : FnOk P w K mg base (L2.CX P w) k T.a_need_number T.d_need_number ["value", "least", "most"] (spX K (FX_need_number T))) : FnOk P w K mg base (L2.CX P w) (k + 1) T.a_heap_values T.d_heap_values ["rule", "count"] (spX K (FX_heap_values T)) := by
  refine (fun (hA : ∀ args P R, (FX_heap_values T) args P R → args.length = 2) => T.F_heap_values.okE (sp := spX K (FX_heap_values T)) sc_heap_values (fun vs H Q E h => spX_len hA h) (fun cdv A outer s H vs Q E hr h => ⟨_, (pss_cons (ps_expr (pe_call GX_need_rule hr rfl T.g_need_rule T.F_need_rule.kp T.b_need_rule .nil (passes_call (takes_of rfl rfl rfl rfl) (fun _ _ _ _ h => h)) (pa_cons (pv 0) pa_nil)))
  (pss_cons (ps_expr (pe_call GX_need_number hr rfl T.g_need_number T.F_need_number.kp T.b_need_number .nil (passes_call (takes_of rfl rfl rfl rfl) (fun _ _ _ _ h => h)) (pa_cons (pv 1) (pa_cons pe_int (pa_cons (pe_glob (v := .int 400) rfl T.c_MOST_COUNT ⟨_, rfl⟩) pa_nil)))))
  pss_never)), fnX_run (N := ["rule", "count"]) h (fun A' Hz' R' hE => (ss_seq (ss_drop (se_callX hE (sa_cons se_var sa_nil)))
  (ss_seq (ss_drop (se_callX hE (sa_cons se_var (sa_cons se_int (sa_cons se_int sa_nil)))))
  ss_never))) (fun args P R hl hF => ?_) (by rw [spX_len hA h]; exact Nat.le_of_ble_eq_true rfl)⟩)) (fun args P R hF => ?_)
  rotate_left
  · obtain ⟨d, e, rfl, _⟩ := hF
    rfl
  obtain ⟨d, e, rfl, hd, he, q1, q2⟩ := hF
  simp -implicitDefEqProofs only [DL.WW, List.isEmpty_nil, List.lookup_cons, List.lookup_nil, List.map, List.length, List.length_cons, List.length_nil, List.length_set, List.replicate, List.append, List.cons_append, List.nil_append, List.append_nil, List.getElem?_cons_zero, List.getElem?_cons_succ, List.getElem?_nil, List.set_cons_zero, List.set_cons_succ, ↓reduceIte, Bool.false_eq_true, Bool.not_true, Bool.not_false, Bool.true_and, Bool.false_and, Bool.and_true, Bool.and_false, Bool.or_true, Bool.or_false, Bool.true_or, Bool.false_or, Nat.reduceAdd, Nat.reduceSub, Nat.reduceLT, Nat.reduceLeDiff, true_and, and_true, and_self, decide_eq_true_eq, Nat.zero_lt_succ, Nat.lt_add_left_iff_pos, beq_self_eq_true, String.reduceBEq, String.reduceEq, Nat.le_refl, Nat.zero_le, Bool.true_eq_false, decide_true, decide_false, Int.reduceEq, Int.reduceLT, Int.reduceLE, Int.reduceSub, Int.reduceAdd, DL.wIfT, DL.wListRg, DL.eSortT, DL.wFun, DL.wWord, DL.wWordV, DL.wCallX, DL.wRaise]
  refine ⟨d, rfl, hd, fun h => ?_, fun h => ?_⟩
  · simp -implicitDefEqProofs only [DL.WW, List.isEmpty_nil, List.lookup_cons, List.lookup_nil, List.map, List.length, List.length_cons, List.length_nil, List.length_set, List.replicate, List.append, List.cons_append, List.nil_append, List.append_nil, List.getElem?_cons_zero, List.getElem?_cons_succ, List.getElem?_nil, List.set_cons_zero, List.set_cons_succ, ↓reduceIte, Bool.false_eq_true, Bool.not_true, Bool.not_false, Bool.true_and, Bool.false_and, Bool.and_true, Bool.and_false, Bool.or_true, Bool.or_false, Bool.true_or, Bool.false_or, Nat.reduceAdd, Nat.reduceSub, Nat.reduceLT, Nat.reduceLeDiff, true_and, and_true, and_self, decide_eq_true_eq, Nat.zero_lt_succ, Nat.lt_add_left_iff_pos, beq_self_eq_true, String.reduceBEq, String.reduceEq, Nat.le_refl, Nat.zero_le, Bool.true_eq_false, decide_true, decide_false, Int.reduceEq, Int.reduceLT, Int.reduceLE, Int.reduceSub, Int.reduceAdd, DL.wIfT, DL.wListRg, DL.eSortT, DL.wFun, DL.wWord, DL.wWordV, DL.wCallX, DL.wRaise]
    refine ⟨e, _, _, rfl, he, fun h2 => ?_, fun h2 => ?_⟩
    · rw [(q2 h).1] at h2
      cases h2
    · simp -implicitDefEqProofs only [DL.WW, List.isEmpty_nil, List.lookup_cons, List.lookup_nil, List.map, List.length, List.length_cons, List.length_nil, List.length_set, List.replicate, List.append, List.cons_append, List.nil_append, List.append_nil, List.getElem?_cons_zero, List.getElem?_cons_succ, List.getElem?_nil, List.set_cons_zero, List.set_cons_succ, ↓reduceIte, Bool.false_eq_true, Bool.not_true, Bool.not_false, Bool.true_and, Bool.false_and, Bool.and_true, Bool.and_false, Bool.or_true, Bool.or_false, Bool.true_or, Bool.false_or, Nat.reduceAdd, Nat.reduceSub, Nat.reduceLT, Nat.reduceLeDiff, true_and, and_true, and_self, decide_eq_true_eq, Nat.zero_lt_succ, Nat.lt_add_left_iff_pos, beq_self_eq_true, String.reduceBEq, String.reduceEq, Nat.le_refl, Nat.zero_le, Bool.true_eq_false, decide_true, decide_false, Int.reduceEq, Int.reduceLT, Int.reduceLE, Int.reduceSub, Int.reduceAdd, DL.wIfT, DL.wListRg, DL.eSortT, DL.wFun, DL.wWord, DL.wWordV, DL.wCallX, DL.wRaise]
      exact (q2 h).2
  · simp -implicitDefEqProofs only [DL.WW, List.isEmpty_nil, List.lookup_cons, List.lookup_nil, List.map, List.length, List.length_cons, List.length_nil, List.length_set, List.replicate, List.append, List.cons_append, List.nil_append, List.append_nil, List.getElem?_cons_zero, List.getElem?_cons_succ, List.getElem?_nil, List.set_cons_zero, List.set_cons_succ, ↓reduceIte, Bool.false_eq_true, Bool.not_true, Bool.not_false, Bool.true_and, Bool.false_and, Bool.and_true, Bool.and_false, Bool.or_true, Bool.or_false, Bool.true_or, Bool.false_or, Nat.reduceAdd, Nat.reduceSub, Nat.reduceLT, Nat.reduceLeDiff, true_and, and_true, and_self, decide_eq_true_eq, Nat.zero_lt_succ, Nat.lt_add_left_iff_pos, beq_self_eq_true, String.reduceBEq, String.reduceEq, Nat.le_refl, Nat.zero_le, Bool.true_eq_false, decide_true, decide_false, Int.reduceEq, Int.reduceLT, Int.reduceLE, Int.reduceSub, Int.reduceAdd, DL.wIfT, DL.wListRg, DL.eSortT, DL.wFun, DL.wWord, DL.wWordV, DL.wCallX, DL.wRaise]
    exact q1 h
def FX_heap_options (T : Txt K mg) : FXp := fun args P R => ∃ d e : PyData, args = [some (.dat d), some (.dat e)] ∧ Dat2 d ∧ Dat e ∧ (ruleB d = false → R T.C_BadRule [] [none, none]) ∧ (ruleB d = true → inB 0 60 e = false ∧ R T.C_BadNumber [] [none, none])
theorem okX_heap_options {k : Nat} (T : Txt K mg) (GX_need_rule : FnOk P w K mg base (L2.CX P w) k T.a_need_rule T.d_need_rule ["value"] (spX K (FX_need_rule T))) (GX_need_number : FnOk P w K mg base (L2.CX P w) k T.a_need_number T.d_need_number ["value", "least", "most"] (spX K (FX_need_number T))) : FnOk P w K mg base (L2.CX P w) (k + 1) T.a_heap_options T.d_heap_options ["rule", "size"] (spX K (FX_heap_options T)) := by
  refine (fun (hA : ∀ args P R, (FX_heap_options T) args P R → args.length = 2) => T.F_heap_options.okE (sp := spX K (FX_heap_options T)) sc_heap_options (fun vs H Q E h => spX_len hA h) (fun cdv A outer s H vs Q E hr h => ⟨_, (pss_cons (ps_expr (pe_call GX_need_rule hr rfl T.g_need_rule T.F_need_rule.kp T.b_need_rule .nil (passes_call (takes_of rfl rfl rfl rfl) (fun _ _ _ _ h => h)) (pa_cons (pv 0) pa_nil)))
  (pss_cons (ps_expr (pe_call GX_need_number hr rfl T.g_need_number T.F_need_number.kp T.b_need_number .nil (passes_call (takes_of rfl rfl rfl rfl) (fun _ _ _ _ h => h)) (pa_cons (pv 1) (pa_cons pe_int (pa_cons (pe_glob (v := .int 60) rfl T.c_MOST_OPTIONS ⟨_, rfl⟩) pa_nil)))))
  pss_never)), fnX_run (N := ["rule", "size", "found", "at", "digit", "rest", "part"]) h (fun A' Hz' R' hE => (ss_seq (ss_drop (se_callX hE (sa_cons se_var sa_nil)))
  (ss_seq (ss_drop (se_callX hE (sa_cons se_var (sa_cons se_int (sa_cons se_int sa_nil)))))
  ss_never))) (fun args P R hl hF => ?_) (by rw [spX_len hA h]; exact Nat.le_of_ble_eq_true rfl)⟩)) (fun args P R hF => ?_)
  rotate_left
  · obtain ⟨d, e, rfl, _⟩ := hF
    rfl
  obtain ⟨d, e, rfl, hd, he, q1, q2⟩ := hF
  simp -implicitDefEqProofs only [DL.WW, List.isEmpty_nil, List.lookup_cons, List.lookup_nil, List.map, List.length, List.length_cons, List.length_nil, List.length_set, List.replicate, List.append, List.cons_append, List.nil_append, List.append_nil, List.getElem?_cons_zero, List.getElem?_cons_succ, List.getElem?_nil, List.set_cons_zero, List.set_cons_succ, ↓reduceIte, Bool.false_eq_true, Bool.not_true, Bool.not_false, Bool.true_and, Bool.false_and, Bool.and_true, Bool.and_false, Bool.or_true, Bool.or_false, Bool.true_or, Bool.false_or, Nat.reduceAdd, Nat.reduceSub, Nat.reduceLT, Nat.reduceLeDiff, true_and, and_true, and_self, decide_eq_true_eq, Nat.zero_lt_succ, Nat.lt_add_left_iff_pos, beq_self_eq_true, String.reduceBEq, String.reduceEq, Nat.le_refl, Nat.zero_le, Bool.true_eq_false, decide_true, decide_false, Int.reduceEq, Int.reduceLT, Int.reduceLE, Int.reduceSub, Int.reduceAdd, DL.wIfT, DL.wListRg, DL.eSortT, DL.wFun, DL.wWord, DL.wWordV, DL.wCallX, DL.wRaise]
  refine ⟨d, rfl, hd, fun h => ?_, fun h => ?_⟩
  · simp -implicitDefEqProofs only [DL.WW, List.isEmpty_nil, List.lookup_cons, List.lookup_nil, List.map, List.length, List.length_cons, List.length_nil, List.length_set, List.replicate, List.append, List.cons_append, List.nil_append, List.append_nil, List.getElem?_cons_zero, List.getElem?_cons_succ, List.getElem?_nil, List.set_cons_zero, List.set_cons_succ, ↓reduceIte, Bool.false_eq_true, Bool.not_true, Bool.not_false, Bool.true_and, Bool.false_and, Bool.and_true, Bool.and_false, Bool.or_true, Bool.or_false, Bool.true_or, Bool.false_or, Nat.reduceAdd, Nat.reduceSub, Nat.reduceLT, Nat.reduceLeDiff, true_and, and_true, and_self, decide_eq_true_eq, Nat.zero_lt_succ, Nat.lt_add_left_iff_pos, beq_self_eq_true, String.reduceBEq, String.reduceEq, Nat.le_refl, Nat.zero_le, Bool.true_eq_false, decide_true, decide_false, Int.reduceEq, Int.reduceLT, Int.reduceLE, Int.reduceSub, Int.reduceAdd, DL.wIfT, DL.wListRg, DL.eSortT, DL.wFun, DL.wWord, DL.wWordV, DL.wCallX, DL.wRaise]
    refine ⟨e, _, _, rfl, he, fun h2 => ?_, fun h2 => ?_⟩
    · rw [(q2 h).1] at h2
      cases h2
    · simp -implicitDefEqProofs only [DL.WW, List.isEmpty_nil, List.lookup_cons, List.lookup_nil, List.map, List.length, List.length_cons, List.length_nil, List.length_set, List.replicate, List.append, List.cons_append, List.nil_append, List.append_nil, List.getElem?_cons_zero, List.getElem?_cons_succ, List.getElem?_nil, List.set_cons_zero, List.set_cons_succ, ↓reduceIte, Bool.false_eq_true, Bool.not_true, Bool.not_false, Bool.true_and, Bool.false_and, Bool.and_true, Bool.and_false, Bool.or_true, Bool.or_false, Bool.true_or, Bool.false_or, Nat.reduceAdd, Nat.reduceSub, Nat.reduceLT, Nat.reduceLeDiff, true_and, and_true, and_self, decide_eq_true_eq, Nat.zero_lt_succ, Nat.lt_add_left_iff_pos, beq_self_eq_true, String.reduceBEq, String.reduceEq, Nat.le_refl, Nat.zero_le, Bool.true_eq_false, decide_true, decide_false, Int.reduceEq, Int.reduceLT, Int.reduceLE, Int.reduceSub, Int.reduceAdd, DL.wIfT, DL.wListRg, DL.eSortT, DL.wFun, DL.wWord, DL.wWordV, DL.wCallX, DL.wRaise]
      exact (q2 h).2
  · simp -implicitDefEqProofs only [DL.WW, List.isEmpty_nil, List.lookup_cons, List.lookup_nil, List.map, List.length, List.length_cons, List.length_nil, List.length_set, List.replicate, List.append, List.cons_append, List.nil_append, List.append_nil, List.getElem?_cons_zero, List.getElem?_cons_succ, List.getElem?_nil, List.set_cons_zero, List.set_cons_succ, ↓reduceIte, Bool.false_eq_true, Bool.not_true, Bool.not_false, Bool.true_and, Bool.false_and, Bool.and_true, Bool.and_false, Bool.or_true, Bool.or_false, Bool.true_or, Bool.false_or, Nat.reduceAdd, Nat.reduceSub, Nat.reduceLT, Nat.reduceLeDiff, true_and, and_true, and_self, decide_eq_true_eq, Nat.zero_lt_succ, Nat.lt_add_left_iff_pos, beq_self_eq_true, String.reduceBEq, String.reduceEq, Nat.le_refl, Nat.zero_le, Bool.true_eq_false, decide_true, decide_false, Int.reduceEq, Int.reduceLT, Int.reduceLE, Int.reduceSub, Int.reduceAdd, DL.wIfT, DL.wListRg, DL.eSortT, DL.wFun, DL.wWord, DL.wWordV, DL.wCallX, DL.wRaise]
    exact q1 h
def heapsB : PyData → Bool
  | .tuple ds => decide (ds.length ≤ 8) && allIn 0 400 ds
  | _ => false
def FX_wins_heaps (T : Txt K mg) : FXp := fun args P R => ∃ d e : PyData, args = [some (.dat d), some (.dat e)] ∧ Dat2 d ∧ Dat2 e ∧ (ruleB d = false → R T.C_BadRule [] [none, none]) ∧ (ruleB d = true → heapsB e = false ∧ R T.C_BadNumbers [] [none, none])
theorem okX_wins_heaps {k : Nat} (T : Txt K mg) (G_is_in : FnOk P w K mg base CX0 k T.a_is_in T.d_is_in ["value", "least", "most"] (spD K F_is_in)) (GX_need_rule : FnOk P w K mg base (L2.CX P w) k T.a_need_rule T.d_need_rule ["value"] (spX K (FX_need_rule T))) : FnOk P w K mg base (L2.CX P w) (k + 1) T.a_wins_heaps T.d_wins_heaps ["rule", "heaps"] (spX K (FX_wins_heaps T)) := by
  refine (fun (hA : ∀ args P R, (FX_wins_heaps T) args P R → args.length = 2) => T.F_wins_heaps.okE (sp := spX K (FX_wins_heaps T)) sc_wins_heaps (fun vs H Q E h => spX_len hA h) (fun cdv A outer s H vs Q E hr h => ⟨_, (pss_cons (ps_expr (pe_call GX_need_rule hr rfl T.g_need_rule T.F_need_rule.kp T.b_need_rule .nil (passes_call (takes_of rfl rfl rfl rfl) (fun _ _ _ _ h => h)) (pa_cons (pv 0) pa_nil)))
  (pss_cons (ps_if (PW.pt (pw_or (pt_not (pt_val (pe_callB (call_isiX (K := K) rfl) rfl T.m_isinstance (by decide +kernel) (pa_cons (pv 1) (pa_cons (pe_bltn (v := .ty "tuple") (u := .type "tuple") rfl T.m_tuple (by decide +kernel) rfl) pa_nil))))) (pw_or1 (pt_cmpR op_gt (pe_callB (call_lenK (K := K) rfl) rfl T.m_len PySem.boot_len (pa_cons (pv 1) pa_nil)) (pe_glob (v := .int 8) rfl T.c_MOST_HEAPS ⟨_, rfl⟩) (nomark _)))))
  (pss_one (ps_raiseN T.gx_BadNumbers T.xi_BadNumbers T.kx_BadNumbers T.bx_BadNumbers T.tx_BadNumbers))
  pss_nil)
  (pss_cons (ps_if (pt_not (pt_val (pe_callB (cr_allK (K := K) rfl rfl) rfl T.m_all (by decide +kernel) (pa_cons (pe_lc (own := [("size", 4)]) rfl sc_wins_heaps.nd (pi_tupK (K := K) rfl (pv 1)) (blkOk_by (N := ["rule", "heaps", "values", "total", "size"]) (sc := defScope s_wins_heaps) (by decide +kernel)) (fun _ _ _ _ _ => (pg_name (i := 4) sc_wins_heaps.nd rfl (Or.inl rfl))) (fun _ _ _ _ _ => pts_nil) (fun _ _ _ _ _ => (pe_call G_is_in hr rfl T.g_is_in T.F_is_in.kp T.b_is_in .nil pass0 (pa_cons (pv 4) (pa_cons pe_int (pa_cons (pe_glob (v := .int 400) rfl T.c_MOST_COUNT ⟨_, rfl⟩) pa_nil)))))) pa_nil))))
  (pss_one (ps_raiseN T.gx_BadNumbers T.xi_BadNumbers T.kx_BadNumbers T.bx_BadNumbers T.tx_BadNumbers))
  pss_nil)
  pss_never))), fnX_run (N := ["rule", "heaps", "values", "total", "size"]) h (fun A' Hz' R' hE => (ss_seq (ss_drop (se_callX hE (sa_cons se_var sa_nil)))
  (ss_seq (ss_if (st_or (st_not (st_B (se_isi rfl se_var))) (st_test (se_op (sr_I0 (fun _ _ => rfl)) (se_cb1 sc_len se_var) se_int)))
  (ss_raise hE)
  ss_next)
  (ss_seq (ss_if (st_not (st_B (se_cb1 sc_all (se_lc (si_tup se_var) sg_name st_yes (se_call (sa_cons se_var (sa_cons se_int (sa_cons se_int sa_nil)))) (by decide)))))
  (ss_raise hE)
  ss_next)
  ss_never)))) (fun args P R hl hF => ?_) (by rw [spX_len hA h]; exact Nat.le_of_ble_eq_true rfl)⟩)) (fun args P R hF => ?_)
  rotate_left
  · obtain ⟨d, e, rfl, _⟩ := hF
    rfl
  obtain ⟨d, e, rfl, hd, ⟨he, he2⟩, q1, q2⟩ := hF
  simp -implicitDefEqProofs only [DL.WW, List.isEmpty_nil, List.lookup_cons, List.lookup_nil, List.map, List.length, List.length_cons, List.length_nil, List.length_set, List.replicate, List.append, List.cons_append, List.nil_append, List.append_nil, List.getElem?_cons_zero, List.getElem?_cons_succ, List.getElem?_nil, List.set_cons_zero, List.set_cons_succ, ↓reduceIte, Bool.false_eq_true, Bool.not_true, Bool.not_false, Bool.true_and, Bool.false_and, Bool.and_true, Bool.and_false, Bool.or_true, Bool.or_false, Bool.true_or, Bool.false_or, Nat.reduceAdd, Nat.reduceSub, Nat.reduceLT, Nat.reduceLeDiff, true_and, and_true, and_self, decide_eq_true_eq, Nat.zero_lt_succ, Nat.lt_add_left_iff_pos, beq_self_eq_true, String.reduceBEq, String.reduceEq, Nat.le_refl, Nat.zero_le, Bool.true_eq_false, decide_true, decide_false, Int.reduceEq, Int.reduceLT, Int.reduceLE, Int.reduceSub, Int.reduceAdd, DL.wIfT, DL.wListRg, DL.eSortT, DL.wFun, DL.wWord, DL.wWordV, DL.wCallX, DL.wRaise]
  refine ⟨d, rfl, hd, fun h => ?_, fun h => ?_⟩
  · obtain ⟨hb, q⟩ := q2 h
    cases he with
    | tup ds =>
      have hin := he2 ds rfl
      have hb2 : (decide (ds.length ≤ 8) && allIn 0 400 ds) = false := hb
      simp -implicitDefEqProofs only [DL.WW, List.isEmpty_nil, List.lookup_cons, List.lookup_nil, List.map, List.length, List.length_cons, List.length_nil, List.length_set, List.replicate, List.append, List.cons_append, List.nil_append, List.append_nil, List.getElem?_cons_zero, List.getElem?_cons_succ, List.getElem?_nil, List.set_cons_zero, List.set_cons_succ, ↓reduceIte, Bool.false_eq_true, Bool.not_true, Bool.not_false, Bool.true_and, Bool.false_and, Bool.and_true, Bool.and_false, Bool.or_true, Bool.or_false, Bool.true_or, Bool.false_or, Nat.reduceAdd, Nat.reduceSub, Nat.reduceLT, Nat.reduceLeDiff, true_and, and_true, and_self, decide_eq_true_eq, Nat.zero_lt_succ, Nat.lt_add_left_iff_pos, beq_self_eq_true, String.reduceBEq, String.reduceEq, Nat.le_refl, Nat.zero_le, Bool.true_eq_false, decide_true, decide_false, Int.reduceEq, Int.reduceLT, Int.reduceLE, Int.reduceSub, Int.reduceAdd, DL.wIfT, DL.wListRg, DL.eSortT, DL.wFun, DL.wWord, DL.wWordV, DL.wCallX, DL.wRaise]
      by_cases c1 : (8 : Int) < (ds.length : Int)
      · simp -implicitDefEqProofs only [DL.WW, List.isEmpty_nil, List.lookup_cons, List.lookup_nil, List.map, List.length, List.length_cons, List.length_nil, List.length_set, List.replicate, List.append, List.cons_append, List.nil_append, List.append_nil, List.getElem?_cons_zero, List.getElem?_cons_succ, List.getElem?_nil, List.set_cons_zero, List.set_cons_succ, ↓reduceIte, Bool.false_eq_true, Bool.not_true, Bool.not_false, Bool.true_and, Bool.false_and, Bool.and_true, Bool.and_false, Bool.or_true, Bool.or_false, Bool.true_or, Bool.false_or, Nat.reduceAdd, Nat.reduceSub, Nat.reduceLT, Nat.reduceLeDiff, true_and, and_true, and_self, decide_eq_true_eq, Nat.zero_lt_succ, Nat.lt_add_left_iff_pos, beq_self_eq_true, String.reduceBEq, String.reduceEq, Nat.le_refl, Nat.zero_le, Bool.true_eq_false, decide_true, decide_false, Int.reduceEq, Int.reduceLT, Int.reduceLE, Int.reduceSub, Int.reduceAdd, DL.wIfT, DL.wListRg, DL.eSortT, DL.wFun, DL.wWord, DL.wWordV, DL.wCallX, DL.wRaise, c1]
        exact q
      · simp -implicitDefEqProofs only [DL.WW, List.isEmpty_nil, List.lookup_cons, List.lookup_nil, List.map, List.length, List.length_cons, List.length_nil, List.length_set, List.replicate, List.append, List.cons_append, List.nil_append, List.append_nil, List.getElem?_cons_zero, List.getElem?_cons_succ, List.getElem?_nil, List.set_cons_zero, List.set_cons_succ, ↓reduceIte, Bool.false_eq_true, Bool.not_true, Bool.not_false, Bool.true_and, Bool.false_and, Bool.and_true, Bool.and_false, Bool.or_true, Bool.or_false, Bool.true_or, Bool.false_or, Nat.reduceAdd, Nat.reduceSub, Nat.reduceLT, Nat.reduceLeDiff, true_and, and_true, and_self, decide_eq_true_eq, Nat.zero_lt_succ, Nat.lt_add_left_iff_pos, beq_self_eq_true, String.reduceBEq, String.reduceEq, Nat.le_refl, Nat.zero_le, Bool.true_eq_false, decide_true, decide_false, Int.reduceEq, Int.reduceLT, Int.reduceLE, Int.reduceSub, Int.reduceAdd, DL.wIfT, DL.wListRg, DL.eSortT, DL.wFun, DL.wWord, DL.wWordV, DL.wCallX, DL.wRaise, c1]
        refine lc_use ?_
        simp -implicitDefEqProofs only [DL.WW, List.isEmpty_nil, List.lookup_cons, List.lookup_nil, List.map, List.length, List.length_cons, List.length_nil, List.length_set, List.replicate, List.append, List.cons_append, List.nil_append, List.append_nil, List.getElem?_cons_zero, List.getElem?_cons_succ, List.getElem?_nil, List.set_cons_zero, List.set_cons_succ, ↓reduceIte, Bool.false_eq_true, Bool.not_true, Bool.not_false, Bool.true_and, Bool.false_and, Bool.and_true, Bool.and_false, Bool.or_true, Bool.or_false, Bool.true_or, Bool.false_or, Nat.reduceAdd, Nat.reduceSub, Nat.reduceLT, Nat.reduceLeDiff, true_and, and_true, and_self, decide_eq_true_eq, Nat.zero_lt_succ, Nat.lt_add_left_iff_pos, beq_self_eq_true, String.reduceBEq, String.reduceEq, Nat.le_refl, Nat.zero_le, Bool.true_eq_false, decide_true, decide_false, Int.reduceEq, Int.reduceLT, Int.reduceLE, Int.reduceSub, Int.reduceAdd, DL.wIfT, DL.wListRg, DL.eSortT, DL.wFun, DL.wWord, DL.wWordV, DL.wCallX, DL.wRaise]
        refine lc_acc (fun j => ((ds.take j).map (inB 0 400)).map PyData.bool) rfl rfl (fun j hj => ?_) (fun j d hd => ?_) ?_
        · rw [List.length_map, List.length_map, List.length_take]
          omega
        · have hx := hin d (List.mem_of_getElem? hd)
          simp -implicitDefEqProofs only [DL.WW, List.isEmpty_nil, List.lookup_cons, List.lookup_nil, List.map, List.length, List.length_cons, List.length_nil, List.length_set, List.replicate, List.append, List.cons_append, List.nil_append, List.append_nil, List.getElem?_cons_zero, List.getElem?_cons_succ, List.getElem?_nil, List.set_cons_zero, List.set_cons_succ, ↓reduceIte, Bool.false_eq_true, Bool.not_true, Bool.not_false, Bool.true_and, Bool.false_and, Bool.and_true, Bool.and_false, Bool.or_true, Bool.or_false, Bool.true_or, Bool.false_or, Nat.reduceAdd, Nat.reduceSub, Nat.reduceLT, Nat.reduceLeDiff, true_and, and_true, and_self, decide_eq_true_eq, Nat.zero_lt_succ, Nat.lt_add_left_iff_pos, beq_self_eq_true, String.reduceBEq, String.reduceEq, Nat.le_refl, Nat.zero_le, Bool.true_eq_false, decide_true, decide_false, Int.reduceEq, Int.reduceLT, Int.reduceLE, Int.reduceSub, Int.reduceAdd, DL.wIfT, DL.wListRg, DL.eSortT, DL.wFun, DL.wWord, DL.wWordV, DL.wCallX, DL.wRaise]
          refine ⟨d, 0, 400, rfl, hx, ?_⟩
          simp -implicitDefEqProofs only [DL.WW, List.isEmpty_nil, List.lookup_cons, List.lookup_nil, List.map, List.length, List.length_cons, List.length_nil, List.length_set, List.replicate, List.append, List.cons_append, List.nil_append, List.append_nil, List.getElem?_cons_zero, List.getElem?_cons_succ, List.getElem?_nil, List.set_cons_zero, List.set_cons_succ, ↓reduceIte, Bool.false_eq_true, Bool.not_true, Bool.not_false, Bool.true_and, Bool.false_and, Bool.and_true, Bool.and_false, Bool.or_true, Bool.or_false, Bool.true_or, Bool.false_or, Nat.reduceAdd, Nat.reduceSub, Nat.reduceLT, Nat.reduceLeDiff, true_and, and_true, and_self, decide_eq_true_eq, Nat.zero_lt_succ, Nat.lt_add_left_iff_pos, beq_self_eq_true, String.reduceBEq, String.reduceEq, Nat.le_refl, Nat.zero_le, Bool.true_eq_false, decide_true, decide_false, Int.reduceEq, Int.reduceLT, Int.reduceLE, Int.reduceSub, Int.reduceAdd, DL.wIfT, DL.wListRg, DL.eSortT, DL.wFun, DL.wWord, DL.wWordV, DL.wCallX, DL.wRaise]
          rw [List.take_succ, hd, List.map_append, List.map_append]
          rfl
        simp -implicitDefEqProofs only [DL.WW, List.isEmpty_nil, List.lookup_cons, List.lookup_nil, List.map, List.length, List.length_cons, List.length_nil, List.length_set, List.replicate, List.append, List.cons_append, List.nil_append, List.append_nil, List.getElem?_cons_zero, List.getElem?_cons_succ, List.getElem?_nil, List.set_cons_zero, List.set_cons_succ, ↓reduceIte, Bool.false_eq_true, Bool.not_true, Bool.not_false, Bool.true_and, Bool.false_and, Bool.and_true, Bool.and_false, Bool.or_true, Bool.or_false, Bool.true_or, Bool.false_or, Nat.reduceAdd, Nat.reduceSub, Nat.reduceLT, Nat.reduceLeDiff, true_and, and_true, and_self, decide_eq_true_eq, Nat.zero_lt_succ, Nat.lt_add_left_iff_pos, beq_self_eq_true, String.reduceBEq, String.reduceEq, Nat.le_refl, Nat.zero_le, Bool.true_eq_false, decide_true, decide_false, Int.reduceEq, Int.reduceLT, Int.reduceLE, Int.reduceSub, Int.reduceAdd, DL.wIfT, DL.wListRg, DL.eSortT, DL.wFun, DL.wWord, DL.wWordV, DL.wCallX, DL.wRaise]
        rw [List.take_length, boolsD_map]
        simp -implicitDefEqProofs only [DL.WW, List.isEmpty_nil, List.lookup_cons, List.lookup_nil, List.map, List.length, List.length_cons, List.length_nil, List.length_set, List.replicate, List.append, List.cons_append, List.nil_append, List.append_nil, List.getElem?_cons_zero, List.getElem?_cons_succ, List.getElem?_nil, List.set_cons_zero, List.set_cons_succ, ↓reduceIte, Bool.false_eq_true, Bool.not_true, Bool.not_false, Bool.true_and, Bool.false_and, Bool.and_true, Bool.and_false, Bool.or_true, Bool.or_false, Bool.true_or, Bool.false_or, Nat.reduceAdd, Nat.reduceSub, Nat.reduceLT, Nat.reduceLeDiff, true_and, and_true, and_self, decide_eq_true_eq, Nat.zero_lt_succ, Nat.lt_add_left_iff_pos, beq_self_eq_true, String.reduceBEq, String.reduceEq, Nat.le_refl, Nat.zero_le, Bool.true_eq_false, decide_true, decide_false, Int.reduceEq, Int.reduceLT, Int.reduceLE, Int.reduceSub, Int.reduceAdd, DL.wIfT, DL.wListRg, DL.eSortT, DL.wFun, DL.wWord, DL.wWordV, DL.wCallX, DL.wRaise]
        have ea : (ds.map (inB 0 400)).all id = allIn 0 400 ds := by
          unfold allIn
          rw [List.all_map]
          rfl
        rw [decide_eq_true (by omega : ds.length ≤ 8), Bool.true_and] at hb2
        rw [ea, hb2]
        simp -implicitDefEqProofs only [DL.WW, List.isEmpty_nil, List.lookup_cons, List.lookup_nil, List.map, List.length, List.length_cons, List.length_nil, List.length_set, List.replicate, List.append, List.cons_append, List.nil_append, List.append_nil, List.getElem?_cons_zero, List.getElem?_cons_succ, List.getElem?_nil, List.set_cons_zero, List.set_cons_succ, ↓reduceIte, Bool.false_eq_true, Bool.not_true, Bool.not_false, Bool.true_and, Bool.false_and, Bool.and_true, Bool.and_false, Bool.or_true, Bool.or_false, Bool.true_or, Bool.false_or, Nat.reduceAdd, Nat.reduceSub, Nat.reduceLT, Nat.reduceLeDiff, true_and, and_true, and_self, decide_eq_true_eq, Nat.zero_lt_succ, Nat.lt_add_left_iff_pos, beq_self_eq_true, String.reduceBEq, String.reduceEq, Nat.le_refl, Nat.zero_le, Bool.true_eq_false, decide_true, decide_false, Int.reduceEq, Int.reduceLT, Int.reduceLE, Int.reduceSub, Int.reduceAdd, DL.wIfT, DL.wListRg, DL.eSortT, DL.wFun, DL.wWord, DL.wWordV, DL.wCallX, DL.wRaise]
        exact q
    | _ => simp -implicitDefEqProofs only [DL.WW, List.isEmpty_nil, List.lookup_cons, List.lookup_nil, List.map, List.length, List.length_cons, List.length_nil, List.length_set, List.replicate, List.append, List.cons_append, List.nil_append, List.append_nil, List.getElem?_cons_zero, List.getElem?_cons_succ, List.getElem?_nil, List.set_cons_zero, List.set_cons_succ, ↓reduceIte, Bool.false_eq_true, Bool.not_true, Bool.not_false, Bool.true_and, Bool.false_and, Bool.and_true, Bool.and_false, Bool.or_true, Bool.or_false, Bool.true_or, Bool.false_or, Nat.reduceAdd, Nat.reduceSub, Nat.reduceLT, Nat.reduceLeDiff, true_and, and_true, and_self, decide_eq_true_eq, Nat.zero_lt_succ, Nat.lt_add_left_iff_pos, beq_self_eq_true, String.reduceBEq, String.reduceEq, Nat.le_refl, Nat.zero_le, Bool.true_eq_false, decide_true, decide_false, Int.reduceEq, Int.reduceLT, Int.reduceLE, Int.reduceSub, Int.reduceAdd, DL.wIfT, DL.wListRg, DL.eSortT, DL.wFun, DL.wWord, DL.wWordV, DL.wCallX, DL.wRaise]; exact q
  · simp -implicitDefEqProofs only [DL.WW, List.isEmpty_nil, List.lookup_cons, List.lookup_nil, List.map, List.length, List.length_cons, List.length_nil, List.length_set, List.replicate, List.append, List.cons_append, List.nil_append, List.append_nil, List.getElem?_cons_zero, List.getElem?_cons_succ, List.getElem?_nil, List.set_cons_zero, List.set_cons_succ, ↓reduceIte, Bool.false_eq_true, Bool.not_true, Bool.not_false, Bool.true_and, Bool.false_and, Bool.and_true, Bool.and_false, Bool.or_true, Bool.or_false, Bool.true_or, Bool.false_or, Nat.reduceAdd, Nat.reduceSub, Nat.reduceLT, Nat.reduceLeDiff, true_and, and_true, and_self, decide_eq_true_eq, Nat.zero_lt_succ, Nat.lt_add_left_iff_pos, beq_self_eq_true, String.reduceBEq, String.reduceEq, Nat.le_refl, Nat.zero_le, Bool.true_eq_false, decide_true, decide_false, Int.reduceEq, Int.reduceLT, Int.reduceLE, Int.reduceSub, Int.reduceAdd, DL.wIfT, DL.wListRg, DL.eSortT, DL.wFun, DL.wWord, DL.wWordV, DL.wCallX, DL.wRaise]
    exact q1 h
def periodB : PyData → Bool
  | .tuple [a, b] => inB 0 200 a && inB 1 100 b
  | _ => false
def FX_shows_period (T : Txt K mg) : FXp := fun args P R => ∃ d e : PyData, args = [some (.dat d), some (.dat e)] ∧ Dat2 d ∧ Dat2 e ∧ (ruleB d = false → R T.C_BadRule [] [none, none]) ∧ (ruleB d = true → periodB e = false ∧ R T.C_BadPeriod [] [none, none])
theorem okX_shows_period {k : Nat} (T : Txt K mg) (G_is_in : FnOk P w K mg base CX0 k T.a_is_in T.d_is_in ["value", "least", "most"] (spD K F_is_in)) (GX_need_rule : FnOk P w K mg base (L2.CX P w) k T.a_need_rule T.d_need_rule ["value"] (spX K (FX_need_rule T))) : FnOk P w K mg base (L2.CX P w) (k + 1) T.a_shows_period T.d_shows_period ["rule", "period"] (spX K (FX_shows_period T)) := by
  refine (fun (hA : ∀ args P R, (FX_shows_period T) args P R → args.length = 2) => T.F_shows_period.okE (sp := spX K (FX_shows_period T)) sc_shows_period (fun vs H Q E h => spX_len hA h) (fun cdv A outer s H vs Q E hr h => ⟨_, (pss_cons (ps_expr (pe_call GX_need_rule hr rfl T.g_need_rule T.F_need_rule.kp T.b_need_rule .nil (passes_call (takes_of rfl rfl rfl rfl) (fun _ _ _ _ h => h)) (pa_cons (pv 0) pa_nil)))
  (pss_cons (ps_if (PW.pt (pw_or (pt_not (pt_val (pe_callB (call_isiX (K := K) rfl) rfl T.m_isinstance (by decide +kernel) (pa_cons (pv 1) (pa_cons (pe_bltn (v := .ty "tuple") (u := .type "tuple") rfl T.m_tuple (by decide +kernel) rfl) pa_nil))))) (pw_or1 (pt_cmpR (op_neDK (K := K) rfl hr.units) (pe_callB (call_lenK (K := K) rfl) rfl T.m_len PySem.boot_len (pa_cons (pv 1) pa_nil)) pe_int (nomark _)))))
  (pss_one (ps_raiseN T.gx_BadPeriod T.xi_BadPeriod T.kx_BadPeriod T.bx_BadPeriod T.tx_BadPeriod))
  pss_nil)
  (pss_cons (ps_if (PW.pt (pw_or (pt_not (pt_val (pe_call G_is_in hr rfl T.g_is_in T.F_is_in.kp T.b_is_in .nil pass0 (pa_cons (pe_ix (ix_tupK (K := K) rfl) (pv 1) pe_int (fun _ _ => rfl)) (pa_cons pe_int (pa_cons (pe_glob (v := .int 200) rfl T.c_MOST_START ⟨_, rfl⟩) pa_nil)))))) (pw_or1 (pt_not (pt_val (pe_call G_is_in hr rfl T.g_is_in T.F_is_in.kp T.b_is_in .nil pass0 (pa_cons (pe_ix (ix_tupK (K := K) rfl) (pv 1) pe_int (fun _ _ => rfl)) (pa_cons pe_int (pa_cons (pe_glob (v := .int 100) rfl T.c_MOST_LENGTH ⟨_, rfl⟩) pa_nil)))))))))
  (pss_one (ps_raiseN T.gx_BadPeriod T.xi_BadPeriod T.kx_BadPeriod T.bx_BadPeriod T.tx_BadPeriod))
  pss_nil)
  pss_never))), fnX_run (N := ["rule", "period", "start", "length", "last", "values", "size"]) h (fun A' Hz' R' hE => (ss_seq (ss_drop (se_callX hE (sa_cons se_var sa_nil)))
  (ss_seq (ss_if (st_or (st_not (st_B (se_isi rfl se_var))) (st_test (se_op sr_neD (se_cb1 sc_len se_var) se_int)))
  (ss_raise hE)
  ss_next)
  (ss_seq (ss_if (st_or (st_not (st_B (se_call (sa_cons (se_op sr_ixT se_var se_int) (sa_cons se_int (sa_cons se_int sa_nil)))))) (st_not (st_B (se_call (sa_cons (se_op sr_ixT se_var se_int) (sa_cons se_int (sa_cons se_int sa_nil)))))))
  (ss_raise hE)
  ss_next)
  ss_never)))) (fun args P R hl hF => ?_) (by rw [spX_len hA h]; exact Nat.le_of_ble_eq_true rfl)⟩)) (fun args P R hF => ?_)
  rotate_left
  · obtain ⟨d, e, rfl, _⟩ := hF
    rfl
  obtain ⟨d, e, rfl, hd, ⟨he, he2⟩, q1, q2⟩ := hF
  simp -implicitDefEqProofs only [DL.WW, List.isEmpty_nil, List.lookup_cons, List.lookup_nil, List.map, List.length, List.length_cons, List.length_nil, List.length_set, List.replicate, List.append, List.cons_append, List.nil_append, List.append_nil, List.getElem?_cons_zero, List.getElem?_cons_succ, List.getElem?_nil, List.set_cons_zero, List.set_cons_succ, ↓reduceIte, Bool.false_eq_true, Bool.not_true, Bool.not_false, Bool.true_and, Bool.false_and, Bool.and_true, Bool.and_false, Bool.or_true, Bool.or_false, Bool.true_or, Bool.false_or, Nat.reduceAdd, Nat.reduceSub, Nat.reduceLT, Nat.reduceLeDiff, true_and, and_true, and_self, decide_eq_true_eq, Nat.zero_lt_succ, Nat.lt_add_left_iff_pos, beq_self_eq_true, String.reduceBEq, String.reduceEq, Nat.le_refl, Nat.zero_le, Bool.true_eq_false, decide_true, decide_false, Int.reduceEq, Int.reduceLT, Int.reduceLE, Int.reduceSub, Int.reduceAdd, DL.wIfT, DL.wListRg, DL.eSortT, DL.wFun, DL.wWord, DL.wWordV, DL.wCallX, DL.wRaise]
  refine ⟨d, rfl, hd, fun h => ?_, fun h => ?_⟩
  · obtain ⟨hb, q⟩ := q2 h
    cases he with
    | tup ds =>
      have hin := he2 ds rfl
      match ds, hin, hb with
      | [a, b], hin, hb =>
        have ha := hin a (by simp)
        have hb' := hin b (by simp)
        have hb2 : (inB 0 200 a && inB 1 100 b) = false := hb
        simp -implicitDefEqProofs only [DL.WW, List.isEmpty_nil, List.lookup_cons, List.lookup_nil, List.map, List.length, List.length_cons, List.length_nil, List.length_set, List.replicate, List.append, List.cons_append, List.nil_append, List.append_nil, List.getElem?_cons_zero, List.getElem?_cons_succ, List.getElem?_nil, List.set_cons_zero, List.set_cons_succ, ↓reduceIte, Bool.false_eq_true, Bool.not_true, Bool.not_false, Bool.true_and, Bool.false_and, Bool.and_true, Bool.and_false, Bool.or_true, Bool.or_false, Bool.true_or, Bool.false_or, Nat.reduceAdd, Nat.reduceSub, Nat.reduceLT, Nat.reduceLeDiff, true_and, and_true, and_self, decide_eq_true_eq, Nat.zero_lt_succ, Nat.lt_add_left_iff_pos, beq_self_eq_true, String.reduceBEq, String.reduceEq, Nat.le_refl, Nat.zero_le, Bool.true_eq_false, decide_true, decide_false, Int.reduceEq, Int.reduceLT, Int.reduceLE, Int.reduceSub, Int.reduceAdd, DL.wIfT, DL.wListRg, DL.eSortT, DL.wFun, DL.wWord, DL.wWordV, DL.wCallX, DL.wRaise]
        refine ⟨a, _, _, rfl, ha, ?_⟩
        cases c1 : inB 0 200 a with
        | false =>
          simp -implicitDefEqProofs only [DL.WW, List.isEmpty_nil, List.lookup_cons, List.lookup_nil, List.map, List.length, List.length_cons, List.length_nil, List.length_set, List.replicate, List.append, List.cons_append, List.nil_append, List.append_nil, List.getElem?_cons_zero, List.getElem?_cons_succ, List.getElem?_nil, List.set_cons_zero, List.set_cons_succ, ↓reduceIte, Bool.false_eq_true, Bool.not_true, Bool.not_false, Bool.true_and, Bool.false_and, Bool.and_true, Bool.and_false, Bool.or_true, Bool.or_false, Bool.true_or, Bool.false_or, Nat.reduceAdd, Nat.reduceSub, Nat.reduceLT, Nat.reduceLeDiff, true_and, and_true, and_self, decide_eq_true_eq, Nat.zero_lt_succ, Nat.lt_add_left_iff_pos, beq_self_eq_true, String.reduceBEq, String.reduceEq, Nat.le_refl, Nat.zero_le, Bool.true_eq_false, decide_true, decide_false, Int.reduceEq, Int.reduceLT, Int.reduceLE, Int.reduceSub, Int.reduceAdd, DL.wIfT, DL.wListRg, DL.eSortT, DL.wFun, DL.wWord, DL.wWordV, DL.wCallX, DL.wRaise]
          exact q
        | true =>
          rw [c1, Bool.true_and] at hb2
          simp -implicitDefEqProofs only [DL.WW, List.isEmpty_nil, List.lookup_cons, List.lookup_nil, List.map, List.length, List.length_cons, List.length_nil, List.length_set, List.replicate, List.append, List.cons_append, List.nil_append, List.append_nil, List.getElem?_cons_zero, List.getElem?_cons_succ, List.getElem?_nil, List.set_cons_zero, List.set_cons_succ, ↓reduceIte, Bool.false_eq_true, Bool.not_true, Bool.not_false, Bool.true_and, Bool.false_and, Bool.and_true, Bool.and_false, Bool.or_true, Bool.or_false, Bool.true_or, Bool.false_or, Nat.reduceAdd, Nat.reduceSub, Nat.reduceLT, Nat.reduceLeDiff, true_and, and_true, and_self, decide_eq_true_eq, Nat.zero_lt_succ, Nat.lt_add_left_iff_pos, beq_self_eq_true, String.reduceBEq, String.reduceEq, Nat.le_refl, Nat.zero_le, Bool.true_eq_false, decide_true, decide_false, Int.reduceEq, Int.reduceLT, Int.reduceLE, Int.reduceSub, Int.reduceAdd, DL.wIfT, DL.wListRg, DL.eSortT, DL.wFun, DL.wWord, DL.wWordV, DL.wCallX, DL.wRaise]
          refine ⟨b, _, _, rfl, hb', ?_⟩
          simp -implicitDefEqProofs only [DL.WW, List.isEmpty_nil, List.lookup_cons, List.lookup_nil, List.map, List.length, List.length_cons, List.length_nil, List.length_set, List.replicate, List.append, List.cons_append, List.nil_append, List.append_nil, List.getElem?_cons_zero, List.getElem?_cons_succ, List.getElem?_nil, List.set_cons_zero, List.set_cons_succ, ↓reduceIte, Bool.false_eq_true, Bool.not_true, Bool.not_false, Bool.true_and, Bool.false_and, Bool.and_true, Bool.and_false, Bool.or_true, Bool.or_false, Bool.true_or, Bool.false_or, Nat.reduceAdd, Nat.reduceSub, Nat.reduceLT, Nat.reduceLeDiff, true_and, and_true, and_self, decide_eq_true_eq, Nat.zero_lt_succ, Nat.lt_add_left_iff_pos, beq_self_eq_true, String.reduceBEq, String.reduceEq, Nat.le_refl, Nat.zero_le, Bool.true_eq_false, decide_true, decide_false, Int.reduceEq, Int.reduceLT, Int.reduceLE, Int.reduceSub, Int.reduceAdd, DL.wIfT, DL.wListRg, DL.eSortT, DL.wFun, DL.wWord, DL.wWordV, DL.wCallX, DL.wRaise, hb2]
          exact q
      | [], _, _ => simp -implicitDefEqProofs only [DL.WW, List.isEmpty_nil, List.lookup_cons, List.lookup_nil, List.map, List.length, List.length_cons, List.length_nil, List.length_set, List.replicate, List.append, List.cons_append, List.nil_append, List.append_nil, List.getElem?_cons_zero, List.getElem?_cons_succ, List.getElem?_nil, List.set_cons_zero, List.set_cons_succ, ↓reduceIte, Bool.false_eq_true, Bool.not_true, Bool.not_false, Bool.true_and, Bool.false_and, Bool.and_true, Bool.and_false, Bool.or_true, Bool.or_false, Bool.true_or, Bool.false_or, Nat.reduceAdd, Nat.reduceSub, Nat.reduceLT, Nat.reduceLeDiff, true_and, and_true, and_self, decide_eq_true_eq, Nat.zero_lt_succ, Nat.lt_add_left_iff_pos, beq_self_eq_true, String.reduceBEq, String.reduceEq, Nat.le_refl, Nat.zero_le, Bool.true_eq_false, decide_true, decide_false, Int.reduceEq, Int.reduceLT, Int.reduceLE, Int.reduceSub, Int.reduceAdd, DL.wIfT, DL.wListRg, DL.eSortT, DL.wFun, DL.wWord, DL.wWordV, DL.wCallX, DL.wRaise]; exact q
      | [_], _, _ => simp -implicitDefEqProofs only [DL.WW, List.isEmpty_nil, List.lookup_cons, List.lookup_nil, List.map, List.length, List.length_cons, List.length_nil, List.length_set, List.replicate, List.append, List.cons_append, List.nil_append, List.append_nil, List.getElem?_cons_zero, List.getElem?_cons_succ, List.getElem?_nil, List.set_cons_zero, List.set_cons_succ, ↓reduceIte, Bool.false_eq_true, Bool.not_true, Bool.not_false, Bool.true_and, Bool.false_and, Bool.and_true, Bool.and_false, Bool.or_true, Bool.or_false, Bool.true_or, Bool.false_or, Nat.reduceAdd, Nat.reduceSub, Nat.reduceLT, Nat.reduceLeDiff, true_and, and_true, and_self, decide_eq_true_eq, Nat.zero_lt_succ, Nat.lt_add_left_iff_pos, beq_self_eq_true, String.reduceBEq, String.reduceEq, Nat.le_refl, Nat.zero_le, Bool.true_eq_false, decide_true, decide_false, Int.reduceEq, Int.reduceLT, Int.reduceLE, Int.reduceSub, Int.reduceAdd, DL.wIfT, DL.wListRg, DL.eSortT, DL.wFun, DL.wWord, DL.wWordV, DL.wCallX, DL.wRaise]; exact q
      | a :: b :: c :: r, _, _ =>
        simp -implicitDefEqProofs only [DL.WW, List.isEmpty_nil, List.lookup_cons, List.lookup_nil, List.map, List.length, List.length_cons, List.length_nil, List.length_set, List.replicate, List.append, List.cons_append, List.nil_append, List.append_nil, List.getElem?_cons_zero, List.getElem?_cons_succ, List.getElem?_nil, List.set_cons_zero, List.set_cons_succ, ↓reduceIte, Bool.false_eq_true, Bool.not_true, Bool.not_false, Bool.true_and, Bool.false_and, Bool.and_true, Bool.and_false, Bool.or_true, Bool.or_false, Bool.true_or, Bool.false_or, Nat.reduceAdd, Nat.reduceSub, Nat.reduceLT, Nat.reduceLeDiff, true_and, and_true, and_self, decide_eq_true_eq, Nat.zero_lt_succ, Nat.lt_add_left_iff_pos, beq_self_eq_true, String.reduceBEq, String.reduceEq, Nat.le_refl, Nat.zero_le, Bool.true_eq_false, decide_true, decide_false, Int.reduceEq, Int.reduceLT, Int.reduceLE, Int.reduceSub, Int.reduceAdd, DL.wIfT, DL.wListRg, DL.eSortT, DL.wFun, DL.wWord, DL.wWordV, DL.wCallX, DL.wRaise]
        rw [decide_eq_false (by omega), if_pos (by decide)]
        exact q
    | _ => simp -implicitDefEqProofs only [DL.WW, List.isEmpty_nil, List.lookup_cons, List.lookup_nil, List.map, List.length, List.length_cons, List.length_nil, List.length_set, List.replicate, List.append, List.cons_append, List.nil_append, List.append_nil, List.getElem?_cons_zero, List.getElem?_cons_succ, List.getElem?_nil, List.set_cons_zero, List.set_cons_succ, ↓reduceIte, Bool.false_eq_true, Bool.not_true, Bool.not_false, Bool.true_and, Bool.false_and, Bool.and_true, Bool.and_false, Bool.or_true, Bool.or_false, Bool.true_or, Bool.false_or, Nat.reduceAdd, Nat.reduceSub, Nat.reduceLT, Nat.reduceLeDiff, true_and, and_true, and_self, decide_eq_true_eq, Nat.zero_lt_succ, Nat.lt_add_left_iff_pos, beq_self_eq_true, String.reduceBEq, String.reduceEq, Nat.le_refl, Nat.zero_le, Bool.true_eq_false, decide_true, decide_false, Int.reduceEq, Int.reduceLT, Int.reduceLE, Int.reduceSub, Int.reduceAdd, DL.wIfT, DL.wListRg, DL.eSortT, DL.wFun, DL.wWord, DL.wWordV, DL.wCallX, DL.wRaise]; exact q
  · simp -implicitDefEqProofs only [DL.WW, List.isEmpty_nil, List.lookup_cons, List.lookup_nil, List.map, List.length, List.length_cons, List.length_nil, List.length_set, List.replicate, List.append, List.cons_append, List.nil_append, List.append_nil, List.getElem?_cons_zero, List.getElem?_cons_succ, List.getElem?_nil, List.set_cons_zero, List.set_cons_succ, ↓reduceIte, Bool.false_eq_true, Bool.not_true, Bool.not_false, Bool.true_and, Bool.false_and, Bool.and_true, Bool.and_false, Bool.or_true, Bool.or_false, Bool.true_or, Bool.false_or, Nat.reduceAdd, Nat.reduceSub, Nat.reduceLT, Nat.reduceLeDiff, true_and, and_true, and_self, decide_eq_true_eq, Nat.zero_lt_succ, Nat.lt_add_left_iff_pos, beq_self_eq_true, String.reduceBEq, String.reduceEq, Nat.le_refl, Nat.zero_le, Bool.true_eq_false, decide_true, decide_false, Int.reduceEq, Int.reduceLT, Int.reduceLE, Int.reduceSub, Int.reduceAdd, DL.wIfT, DL.wListRg, DL.eSortT, DL.wFun, DL.wWord, DL.wWordV, DL.wCallX, DL.wRaise]
    exact q1 h
def FX_period_of (T : Txt K mg) : FXp := fun args P R => ∃ d : PyData, args = [some (.dat d)] ∧ Dat2 d ∧ ruleB d = false ∧ R T.C_BadRule [] [none]
theorem okX_period_of {k : Nat} (T : Txt K mg) (GX_need_rule : FnOk P w K mg base (L2.CX P w) k T.a_need_rule T.d_need_rule ["value"] (spX K (FX_need_rule T))) : FnOk P w K mg base (L2.CX P w) (k + 1) T.a_period_of T.d_period_of ["rule"] (spX K (FX_period_of T)) := by
  refine (fun (hA : ∀ args P R, (FX_period_of T) args P R → args.length = 1) => T.F_period_of.okE (sp := spX K (FX_period_of T)) sc_period_of (fun vs H Q E h => spX_len hA h) (fun cdv A outer s H vs Q E hr h => ⟨_, (pss_cons (ps_expr (pe_call GX_need_rule hr rfl T.g_need_rule T.F_need_rule.kp T.b_need_rule .nil (passes_call (takes_of rfl rfl rfl rfl) (fun _ _ _ _ h => h)) (pa_cons (pv 0) pa_nil)))
  pss_never), fnX_run (N := ["rule", "values", "length", "found"]) h (fun A' Hz' R' hE => (ss_seq (ss_drop (se_callX hE (sa_cons se_var sa_nil)))
  ss_never)) (fun args P R hl hF => ?_) (by rw [spX_len hA h]; exact Nat.le_of_ble_eq_true rfl)⟩)) (fun args P R hF => ?_)
  rotate_left
  · obtain ⟨d, rfl, _⟩ := hF
    rfl
  obtain ⟨d, rfl, hd, hb, q⟩ := hF
  simp -implicitDefEqProofs only [DL.WW, List.isEmpty_nil, List.lookup_cons, List.lookup_nil, List.map, List.length, List.length_cons, List.length_nil, List.length_set, List.replicate, List.append, List.cons_append, List.nil_append, List.append_nil, List.getElem?_cons_zero, List.getElem?_cons_succ, List.getElem?_nil, List.set_cons_zero, List.set_cons_succ, ↓reduceIte, Bool.false_eq_true, Bool.not_true, Bool.not_false, Bool.true_and, Bool.false_and, Bool.and_true, Bool.and_false, Bool.or_true, Bool.or_false, Bool.true_or, Bool.false_or, Nat.reduceAdd, Nat.reduceSub, Nat.reduceLT, Nat.reduceLeDiff, true_and, and_true, and_self, decide_eq_true_eq, Nat.zero_lt_succ, Nat.lt_add_left_iff_pos, beq_self_eq_true, String.reduceBEq, String.reduceEq, Nat.le_refl, Nat.zero_le, Bool.true_eq_false, decide_true, decide_false, Int.reduceEq, Int.reduceLT, Int.reduceLE, Int.reduceSub, Int.reduceAdd, DL.wIfT, DL.wListRg, DL.eSortT, DL.wFun, DL.wWord, DL.wWordV, DL.wCallX, DL.wRaise]
  refine ⟨d, rfl, hd, fun h => ?_, fun h => ?_⟩
  · rw [hb] at h
    cases h
  · simp -implicitDefEqProofs only [DL.WW, List.isEmpty_nil, List.lookup_cons, List.lookup_nil, List.map, List.length, List.length_cons, List.length_nil, List.length_set, List.replicate, List.append, List.cons_append, List.nil_append, List.append_nil, List.getElem?_cons_zero, List.getElem?_cons_succ, List.getElem?_nil, List.set_cons_zero, List.set_cons_succ, ↓reduceIte, Bool.false_eq_true, Bool.not_true, Bool.not_false, Bool.true_and, Bool.false_and, Bool.and_true, Bool.and_false, Bool.or_true, Bool.or_false, Bool.true_or, Bool.false_or, Nat.reduceAdd, Nat.reduceSub, Nat.reduceLT, Nat.reduceLeDiff, true_and, and_true, and_self, decide_eq_true_eq, Nat.zero_lt_succ, Nat.lt_add_left_iff_pos, beq_self_eq_true, String.reduceBEq, String.reduceEq, Nat.le_refl, Nat.zero_le, Bool.true_eq_false, decide_true, decide_false, Int.reduceEq, Int.reduceLT, Int.reduceLE, Int.reduceSub, Int.reduceAdd, DL.wIfT, DL.wListRg, DL.eSortT, DL.wFun, DL.wWord, DL.wWordV, DL.wCallX, DL.wRaise]
    exact q
def FX_nim_times (T : Txt K mg) : FXp := fun args P R => ∃ d e : PyData, args = [some (.dat d), some (.dat e)] ∧ Dat d ∧ Dat e ∧ (inB 0 65535 d && inB 0 65535 e) = false ∧ R T.C_BadNumber [] [none, none]
theorem okX_nim_times {k : Nat} (T : Txt K mg) (GX_need_number : FnOk P w K mg base (L2.CX P w) k T.a_need_number T.d_need_number ["value", "least", "most"] (spX K (FX_need_number T))) : FnOk P w K mg base (L2.CX P w) (k + 1) T.a_nim_times T.d_nim_times ["one", "other"] (spX K (FX_nim_times T)) := by
  refine (fun (hA : ∀ args P R, (FX_nim_times T) args P R → args.length = 2) => T.F_nim_times.okE (sp := spX K (FX_nim_times T)) sc_nim_times (fun vs H Q E h => spX_len hA h) (fun cdv A outer s H vs Q E hr h => ⟨_, (pss_cons (ps_expr (pe_call GX_need_number hr rfl T.g_need_number T.F_need_number.kp T.b_need_number .nil (passes_call (takes_of rfl rfl rfl rfl) (fun _ _ _ _ h => h)) (pa_cons (pv 0) (pa_cons pe_int (pa_cons (pe_glob (v := .int 65535) rfl T.c_MOST_NUMBER ⟨_, rfl⟩) pa_nil)))))
  (pss_cons (ps_expr (pe_call GX_need_number hr rfl T.g_need_number T.F_need_number.kp T.b_need_number .nil (passes_call (takes_of rfl rfl rfl rfl) (fun _ _ _ _ h => h)) (pa_cons (pv 1) (pa_cons pe_int (pa_cons (pe_glob (v := .int 65535) rfl T.c_MOST_NUMBER ⟨_, rfl⟩) pa_nil)))))
  pss_never)), fnX_run (N := ["one", "other"]) h (fun A' Hz' R' hE => (ss_seq (ss_drop (se_callX hE (sa_cons se_var (sa_cons se_int (sa_cons se_int sa_nil)))))
  (ss_seq (ss_drop (se_callX hE (sa_cons se_var (sa_cons se_int (sa_cons se_int sa_nil)))))
  ss_never))) (fun args P R hl hF => ?_) (by rw [spX_len hA h]; exact Nat.le_of_ble_eq_true rfl)⟩)) (fun args P R hF => ?_)
  rotate_left
  · obtain ⟨d, e, rfl, _⟩ := hF
    rfl
  obtain ⟨d, e, rfl, hd, he, hb, q⟩ := hF
  simp -implicitDefEqProofs only [DL.WW, List.isEmpty_nil, List.lookup_cons, List.lookup_nil, List.map, List.length, List.length_cons, List.length_nil, List.length_set, List.replicate, List.append, List.cons_append, List.nil_append, List.append_nil, List.getElem?_cons_zero, List.getElem?_cons_succ, List.getElem?_nil, List.set_cons_zero, List.set_cons_succ, ↓reduceIte, Bool.false_eq_true, Bool.not_true, Bool.not_false, Bool.true_and, Bool.false_and, Bool.and_true, Bool.and_false, Bool.or_true, Bool.or_false, Bool.true_or, Bool.false_or, Nat.reduceAdd, Nat.reduceSub, Nat.reduceLT, Nat.reduceLeDiff, true_and, and_true, and_self, decide_eq_true_eq, Nat.zero_lt_succ, Nat.lt_add_left_iff_pos, beq_self_eq_true, String.reduceBEq, String.reduceEq, Nat.le_refl, Nat.zero_le, Bool.true_eq_false, decide_true, decide_false, Int.reduceEq, Int.reduceLT, Int.reduceLE, Int.reduceSub, Int.reduceAdd, DL.wIfT, DL.wListRg, DL.eSortT, DL.wFun, DL.wWord, DL.wWordV, DL.wCallX, DL.wRaise]
  refine ⟨d, _, _, rfl, hd, fun h => ?_, fun h => ?_⟩
  · rw [h, Bool.true_and] at hb
    simp -implicitDefEqProofs only [DL.WW, List.isEmpty_nil, List.lookup_cons, List.lookup_nil, List.map, List.length, List.length_cons, List.length_nil, List.length_set, List.replicate, List.append, List.cons_append, List.nil_append, List.append_nil, List.getElem?_cons_zero, List.getElem?_cons_succ, List.getElem?_nil, List.set_cons_zero, List.set_cons_succ, ↓reduceIte, Bool.false_eq_true, Bool.not_true, Bool.not_false, Bool.true_and, Bool.false_and, Bool.and_true, Bool.and_false, Bool.or_true, Bool.or_false, Bool.true_or, Bool.false_or, Nat.reduceAdd, Nat.reduceSub, Nat.reduceLT, Nat.reduceLeDiff, true_and, and_true, and_self, decide_eq_true_eq, Nat.zero_lt_succ, Nat.lt_add_left_iff_pos, beq_self_eq_true, String.reduceBEq, String.reduceEq, Nat.le_refl, Nat.zero_le, Bool.true_eq_false, decide_true, decide_false, Int.reduceEq, Int.reduceLT, Int.reduceLE, Int.reduceSub, Int.reduceAdd, DL.wIfT, DL.wListRg, DL.eSortT, DL.wFun, DL.wWord, DL.wWordV, DL.wCallX, DL.wRaise]
    refine ⟨e, _, _, rfl, he, fun h2 => ?_, fun h2 => ?_⟩
    · rw [hb] at h2
      cases h2
    · simp -implicitDefEqProofs only [DL.WW, List.isEmpty_nil, List.lookup_cons, List.lookup_nil, List.map, List.length, List.length_cons, List.length_nil, List.length_set, List.replicate, List.append, List.cons_append, List.nil_append, List.append_nil, List.getElem?_cons_zero, List.getElem?_cons_succ, List.getElem?_nil, List.set_cons_zero, List.set_cons_succ, ↓reduceIte, Bool.false_eq_true, Bool.not_true, Bool.not_false, Bool.true_and, Bool.false_and, Bool.and_true, Bool.and_false, Bool.or_true, Bool.or_false, Bool.true_or, Bool.false_or, Nat.reduceAdd, Nat.reduceSub, Nat.reduceLT, Nat.reduceLeDiff, true_and, and_true, and_self, decide_eq_true_eq, Nat.zero_lt_succ, Nat.lt_add_left_iff_pos, beq_self_eq_true, String.reduceBEq, String.reduceEq, Nat.le_refl, Nat.zero_le, Bool.true_eq_false, decide_true, decide_false, Int.reduceEq, Int.reduceLT, Int.reduceLE, Int.reduceSub, Int.reduceAdd, DL.wIfT, DL.wListRg, DL.eSortT, DL.wFun, DL.wWord, DL.wWordV, DL.wCallX, DL.wRaise]
      exact q
  · simp -implicitDefEqProofs only [DL.WW, List.isEmpty_nil, List.lookup_cons, List.lookup_nil, List.map, List.length, List.length_cons, List.length_nil, List.length_set, List.replicate, List.append, List.cons_append, List.nil_append, List.append_nil, List.getElem?_cons_zero, List.getElem?_cons_succ, List.getElem?_nil, List.set_cons_zero, List.set_cons_succ, ↓reduceIte, Bool.false_eq_true, Bool.not_true, Bool.not_false, Bool.true_and, Bool.false_and, Bool.and_true, Bool.and_false, Bool.or_true, Bool.or_false, Bool.true_or, Bool.false_or, Nat.reduceAdd, Nat.reduceSub, Nat.reduceLT, Nat.reduceLeDiff, true_and, and_true, and_self, decide_eq_true_eq, Nat.zero_lt_succ, Nat.lt_add_left_iff_pos, beq_self_eq_true, String.reduceBEq, String.reduceEq, Nat.le_refl, Nat.zero_le, Bool.true_eq_false, decide_true, decide_false, Int.reduceEq, Int.reduceLT, Int.reduceLE, Int.reduceSub, Int.reduceAdd, DL.wIfT, DL.wListRg, DL.eSortT, DL.wFun, DL.wWord, DL.wWordV, DL.wCallX, DL.wRaise]
    exact q
def FX_nim_inverse (T : Txt K mg) : FXp := fun args P R => ∃ d : PyData, args = [some (.dat d)] ∧ Dat d ∧ inB 1 65535 d = false ∧ R T.C_BadNumber [] [none]
theorem okX_nim_inverse {k : Nat} (T : Txt K mg) (GX_need_number : FnOk P w K mg base (L2.CX P w) k T.a_need_number T.d_need_number ["value", "least", "most"] (spX K (FX_need_number T))) : FnOk P w K mg base (L2.CX P w) (k + 1) T.a_nim_inverse T.d_nim_inverse ["number"] (spX K (FX_nim_inverse T)) := by
  refine (fun (hA : ∀ args P R, (FX_nim_inverse T) args P R → args.length = 1) => T.F_nim_inverse.okE (sp := spX K (FX_nim_inverse T)) sc_nim_inverse (fun vs H Q E h => spX_len hA h) (fun cdv A outer s H vs Q E hr h => ⟨_, (pss_cons (ps_expr (pe_call GX_need_number hr rfl T.g_need_number T.F_need_number.kp T.b_need_number .nil (passes_call (takes_of rfl rfl rfl rfl) (fun _ _ _ _ h => h)) (pa_cons (pv 0) (pa_cons pe_int (pa_cons (pe_glob (v := .int 65535) rfl T.c_MOST_NUMBER ⟨_, rfl⟩) pa_nil)))))
  pss_never), fnX_run (N := ["number", "found", "power", "turn"]) h (fun A' Hz' R' hE => (ss_seq (ss_drop (se_callX hE (sa_cons se_var (sa_cons se_int (sa_cons se_int sa_nil)))))
  ss_never)) (fun args P R hl hF => ?_) (by rw [spX_len hA h]; exact Nat.le_of_ble_eq_true rfl)⟩)) (fun args P R hF => ?_)
  rotate_left
  · obtain ⟨d, rfl, _⟩ := hF
    rfl
  obtain ⟨d, rfl, hd, hb, q⟩ := hF
  simp -implicitDefEqProofs only [DL.WW, List.isEmpty_nil, List.lookup_cons, List.lookup_nil, List.map, List.length, List.length_cons, List.length_nil, List.length_set, List.replicate, List.append, List.cons_append, List.nil_append, List.append_nil, List.getElem?_cons_zero, List.getElem?_cons_succ, List.getElem?_nil, List.set_cons_zero, List.set_cons_succ, ↓reduceIte, Bool.false_eq_true, Bool.not_true, Bool.not_false, Bool.true_and, Bool.false_and, Bool.and_true, Bool.and_false, Bool.or_true, Bool.or_false, Bool.true_or, Bool.false_or, Nat.reduceAdd, Nat.reduceSub, Nat.reduceLT, Nat.reduceLeDiff, true_and, and_true, and_self, decide_eq_true_eq, Nat.zero_lt_succ, Nat.lt_add_left_iff_pos, beq_self_eq_true, String.reduceBEq, String.reduceEq, Nat.le_refl, Nat.zero_le, Bool.true_eq_false, decide_true, decide_false, Int.reduceEq, Int.reduceLT, Int.reduceLE, Int.reduceSub, Int.reduceAdd, DL.wIfT, DL.wListRg, DL.eSortT, DL.wFun, DL.wWord, DL.wWordV, DL.wCallX, DL.wRaise]
  refine ⟨d, _, _, rfl, hd, fun h => ?_, fun h => ?_⟩
  · rw [hb] at h
    cases h
  · simp -implicitDefEqProofs only [DL.WW, List.isEmpty_nil, List.lookup_cons, List.lookup_nil, List.map, List.length, List.length_cons, List.length_nil, List.length_set, List.replicate, List.append, List.cons_append, List.nil_append, List.append_nil, List.getElem?_cons_zero, List.getElem?_cons_succ, List.getElem?_nil, List.set_cons_zero, List.set_cons_succ, ↓reduceIte, Bool.false_eq_true, Bool.not_true, Bool.not_false, Bool.true_and, Bool.false_and, Bool.and_true, Bool.and_false, Bool.or_true, Bool.or_false, Bool.true_or, Bool.false_or, Nat.reduceAdd, Nat.reduceSub, Nat.reduceLT, Nat.reduceLeDiff, true_and, and_true, and_self, decide_eq_true_eq, Nat.zero_lt_succ, Nat.lt_add_left_iff_pos, beq_self_eq_true, String.reduceBEq, String.reduceEq, Nat.le_refl, Nat.zero_le, Bool.true_eq_false, decide_true, decide_false, Int.reduceEq, Int.reduceLT, Int.reduceLE, Int.reduceSub, Int.reduceAdd, DL.wIfT, DL.wListRg, DL.eSortT, DL.wFun, DL.wWord, DL.wWordV, DL.wCallX, DL.wRaise]
    exact q
end
end K58D


set_option Elab.async false
set_option linter.all false
set_option maxRecDepth 100000
set_option maxHeartbeats 4000000
namespace K58D
open PySem L2 TG DL K58
section
variable {P : Program} {w : World} {K : PySem.W.Frag} {mg : Str → Option Value} {base : Heap}
def F_need_number : FSp := fun args P => ∃ n a b : Int, args = [some (.dat (.int n)), some (.dat (.int a)), some (.dat (.int b))] ∧ a ≤ n ∧ n ≤ b ∧ P (.dat .none) [none, none, none]
theorem ok_need_number {k : Nat} (T : Txt K mg) (G_is_in : FnOk P w K mg base CX0 (k) T.a_is_in T.d_is_in ["value", "least", "most"] (spD K F_is_in)) : FnOk P w K mg base CX0 (k + 1) T.a_need_number T.d_need_number ["value", "least", "most"] (spD K F_need_number) := by
  refine (fun (hA : ∀ args P, F_need_number args P → args.length = 3) => T.F_need_number.ok (sp := spD K F_need_number) sc_need_number (fun vs H Q E h => spD_len hA h) (fun cdv A outer s H vs Q E hr h => ⟨_, (pss_one (ps_if (pt_not (pt_val (pe_call G_is_in hr rfl T.g_is_in T.F_is_in.kp T.b_is_in .nil pass0 (pa_cons (pv 0) (pa_cons (pv 1) (pa_cons (pv 2) pa_nil))))))
  (pss_one ps_never)
  pss_nil)), fn_run (N := ["value", "least", "most"]) h (fun A' Hz' => (ss_if (st_not (st_B (se_call (sa_cons se_var (sa_cons se_var (sa_cons se_var sa_nil))))))
  ss_never
  ss_next)) (fun args P hl hF => ?_) (by rw [spD_len hA h]; exact Nat.le_of_ble_eq_true rfl)⟩)) (fun args P hF => ?_)
  rotate_left
  · obtain ⟨n, a, b, rfl, _⟩ := hF
    rfl
  obtain ⟨n, a, b, rfl, h1, h2, q⟩ := hF
  simp -implicitDefEqProofs only [DL.WW, List.isEmpty_nil, List.lookup_cons, List.lookup_nil, List.map, List.length, List.length_cons, List.length_nil, List.length_set, List.replicate, List.append, List.cons_append, List.nil_append, List.append_nil, List.getElem?_cons_zero, List.getElem?_cons_succ, List.getElem?_nil, List.set_cons_zero, List.set_cons_succ, ↓reduceIte, Bool.false_eq_true, Bool.not_true, Bool.not_false, Bool.true_and, Bool.false_and, Bool.and_true, Bool.and_false, Bool.or_true, Bool.or_false, Bool.true_or, Bool.false_or, Nat.reduceAdd, Nat.reduceSub, Nat.reduceLT, Nat.reduceLeDiff, true_and, and_true, and_self, decide_eq_true_eq, Nat.zero_lt_succ, Nat.lt_add_left_iff_pos, beq_self_eq_true, String.reduceBEq, String.reduceEq, Nat.le_refl, Nat.zero_le, Bool.true_eq_false, decide_true, decide_false, Int.reduceEq, Int.reduceLT, Int.reduceLE, Int.reduceSub, Int.reduceAdd, DL.wIfT, DL.wListRg, DL.eSortT]
  refine ⟨.int n, _, _, rfl, .int n, ?_⟩
  have e : inB a b (.int n) = true := by
    show (decide (a ≤ n) && decide (n ≤ b)) = true
    rw [decide_eq_true h1, decide_eq_true h2]
    rfl
  simp -implicitDefEqProofs only [DL.WW, List.isEmpty_nil, List.lookup_cons, List.lookup_nil, List.map, List.length, List.length_cons, List.length_nil, List.length_set, List.replicate, List.append, List.cons_append, List.nil_append, List.append_nil, List.getElem?_cons_zero, List.getElem?_cons_succ, List.getElem?_nil, List.set_cons_zero, List.set_cons_succ, ↓reduceIte, Bool.false_eq_true, Bool.not_true, Bool.not_false, Bool.true_and, Bool.false_and, Bool.and_true, Bool.and_false, Bool.or_true, Bool.or_false, Bool.true_or, Bool.false_or, Nat.reduceAdd, Nat.reduceSub, Nat.reduceLT, Nat.reduceLeDiff, true_and, and_true, and_self, decide_eq_true_eq, Nat.zero_lt_succ, Nat.lt_add_left_iff_pos, beq_self_eq_true, String.reduceBEq, String.reduceEq, Nat.le_refl, Nat.zero_le, Bool.true_eq_false, decide_true, decide_false, Int.reduceEq, Int.reduceLT, Int.reduceLE, Int.reduceSub, Int.reduceAdd, DL.wIfT, DL.wListRg, DL.eSortT, e]
  exact q
def F_product_of : FSp := fun args P => ∃ a b h : Int, args = [some (.dat (.int a)), some (.dat (.int b)), some (.dat (.int h))] ∧ (a < 2 ∨ b < 2) ∧ CMul a b ∧ P (.dat (.int (a * b))) [none, none, none]
theorem ok_product_of {k : Nat} (T : Txt K mg) (G_product_of : FnOk P w K mg base CX0 (k) T.a_product_of T.d_product_of ["one", "other", "half"] (spD K ((fun _ _ => False)))) : FnOk P w K mg base CX0 (k + 1) T.a_product_of T.d_product_of ["one", "other", "half"] (spD K F_product_of) := by
  refine (fun (hA : ∀ args P, F_product_of args P → args.length = 3) => T.F_product_of.ok (sp := spD K F_product_of) sc_product_of (fun vs H Q E h => spD_len hA h) (fun cdv A outer s H vs Q E hr h => ⟨_, (pss_cons (ps_if (PW.pt (pw_or (pt_cmpR op_lt (pv 0) pe_int (nomark _)) (pw_or1 (pt_cmpR op_lt (pv 1) pe_int (nomark _)))))
  (pss_one (ps_ret (pe_op op_mul (pv 0) (pv 1))))
  pss_nil)
  pss_never), fn_run (N := ["one", "other", "half", "scale", "high", "low", "more", "less", "below", "upper", "lower", "middle"]) h (fun A' Hz' => (ss_seq (ss_if (st_or (st_test (se_op (sr_I0 (fun _ _ => rfl)) se_var se_int)) (st_test (se_op (sr_I0 (fun _ _ => rfl)) se_var se_int)))
  (ss_ret (se_op (sr_I (fun _ _ => rfl)) se_var se_var))
  ss_next)
  ss_never)) (fun args P hl hF => ?_) (by rw [spD_len hA h]; exact Nat.le_of_ble_eq_true rfl)⟩)) (fun args P hF => ?_)
  rotate_left
  · obtain ⟨a, b, h, rfl, _⟩ := hF
    rfl
  obtain ⟨a, b, h, rfl, h1, h2, q⟩ := hF
  by_cases c1 : a < 2
  · simp -implicitDefEqProofs only [DL.WW, List.isEmpty_nil, List.lookup_cons, List.lookup_nil, List.map, List.length, List.length_cons, List.length_nil, List.length_set, List.replicate, List.append, List.cons_append, List.nil_append, List.append_nil, List.getElem?_cons_zero, List.getElem?_cons_succ, List.getElem?_nil, List.set_cons_zero, List.set_cons_succ, ↓reduceIte, Bool.false_eq_true, Bool.not_true, Bool.not_false, Bool.true_and, Bool.false_and, Bool.and_true, Bool.and_false, Bool.or_true, Bool.or_false, Bool.true_or, Bool.false_or, Nat.reduceAdd, Nat.reduceSub, Nat.reduceLT, Nat.reduceLeDiff, true_and, and_true, and_self, decide_eq_true_eq, Nat.zero_lt_succ, Nat.lt_add_left_iff_pos, beq_self_eq_true, String.reduceBEq, String.reduceEq, Nat.le_refl, Nat.zero_le, Bool.true_eq_false, decide_true, decide_false, Int.reduceEq, Int.reduceLT, Int.reduceLE, Int.reduceSub, Int.reduceAdd, DL.wIfT, DL.wListRg, DL.eSortT, c1]
    exact ⟨h2, q⟩
  · have c2 : b < 2 := h1.resolve_left c1
    simp -implicitDefEqProofs only [DL.WW, List.isEmpty_nil, List.lookup_cons, List.lookup_nil, List.map, List.length, List.length_cons, List.length_nil, List.length_set, List.replicate, List.append, List.cons_append, List.nil_append, List.append_nil, List.getElem?_cons_zero, List.getElem?_cons_succ, List.getElem?_nil, List.set_cons_zero, List.set_cons_succ, ↓reduceIte, Bool.false_eq_true, Bool.not_true, Bool.not_false, Bool.true_and, Bool.false_and, Bool.and_true, Bool.and_false, Bool.or_true, Bool.or_false, Bool.true_or, Bool.false_or, Nat.reduceAdd, Nat.reduceSub, Nat.reduceLT, Nat.reduceLeDiff, true_and, and_true, and_self, decide_eq_true_eq, Nat.zero_lt_succ, Nat.lt_add_left_iff_pos, beq_self_eq_true, String.reduceBEq, String.reduceEq, Nat.le_refl, Nat.zero_le, Bool.true_eq_false, decide_true, decide_false, Int.reduceEq, Int.reduceLT, Int.reduceLE, Int.reduceSub, Int.reduceAdd, DL.wIfT, DL.wListRg, DL.eSortT, c1, c2]
    exact ⟨h2, q⟩
def F_nim_times : FSp := fun args P => args = [some (.dat (.int 65535)), some (.dat (.int 0))] ∧ P (.dat (.int 0)) [none, none]
theorem ok_nim_times {k : Nat} (T : Txt K mg) (G_need_number : FnOk P w K mg base CX0 (k) T.a_need_number T.d_need_number ["value", "least", "most"] (spD K F_need_number)) (G_product_of : FnOk P w K mg base CX0 (k) T.a_product_of T.d_product_of ["one", "other", "half"] (spD K F_product_of)) : FnOk P w K mg base CX0 (k + 1) T.a_nim_times T.d_nim_times ["one", "other"] (spD K F_nim_times) := by
  refine (fun (hA : ∀ args P, F_nim_times args P → args.length = 2) => T.F_nim_times.ok (sp := spD K F_nim_times) sc_nim_times (fun vs H Q E h => spD_len hA h) (fun cdv A outer s H vs Q E hr h => ⟨_, (pss_cons (ps_expr (pe_call G_need_number hr rfl T.g_need_number T.F_need_number.kp T.b_need_number .nil pass0 (pa_cons (pv 0) (pa_cons pe_int (pa_cons (pe_glob (v := .int 65535) rfl T.c_MOST_NUMBER ⟨_, rfl⟩) pa_nil)))))
  (pss_cons (ps_expr (pe_call G_need_number hr rfl T.g_need_number T.F_need_number.kp T.b_need_number .nil pass0 (pa_cons (pv 1) (pa_cons pe_int (pa_cons (pe_glob (v := .int 65535) rfl T.c_MOST_NUMBER ⟨_, rfl⟩) pa_nil)))))
  (pss_one (ps_ret (pe_call G_product_of hr rfl T.g_product_of T.F_product_of.kp T.b_product_of .nil pass0 (pa_cons (pv 0) (pa_cons (pv 1) (pa_cons pe_int pa_nil)))))))), fn_run (N := ["one", "other"]) h (fun A' Hz' => (ss_seq (ss_drop (se_call (sa_cons se_var (sa_cons se_int (sa_cons se_int sa_nil)))))
  (ss_seq (ss_drop (se_call (sa_cons se_var (sa_cons se_int (sa_cons se_int sa_nil)))))
  (ss_ret (se_call (sa_cons se_var (sa_cons se_var (sa_cons se_int sa_nil)))))))) (fun args P hl hF => ?_) (by rw [spD_len hA h]; exact Nat.le_of_ble_eq_true rfl)⟩)) (fun args P hF => ?_)
  rotate_left
  · obtain ⟨rfl, _⟩ := hF
    rfl
  obtain ⟨rfl, q⟩ := hF
  simp -implicitDefEqProofs only [DL.WW, List.isEmpty_nil, List.lookup_cons, List.lookup_nil, List.map, List.length, List.length_cons, List.length_nil, List.length_set, List.replicate, List.append, List.cons_append, List.nil_append, List.append_nil, List.getElem?_cons_zero, List.getElem?_cons_succ, List.getElem?_nil, List.set_cons_zero, List.set_cons_succ, ↓reduceIte, Bool.false_eq_true, Bool.not_true, Bool.not_false, Bool.true_and, Bool.false_and, Bool.and_true, Bool.and_false, Bool.or_true, Bool.or_false, Bool.true_or, Bool.false_or, Nat.reduceAdd, Nat.reduceSub, Nat.reduceLT, Nat.reduceLeDiff, true_and, and_true, and_self, decide_eq_true_eq, Nat.zero_lt_succ, Nat.lt_add_left_iff_pos, beq_self_eq_true, String.reduceBEq, String.reduceEq, Nat.le_refl, Nat.zero_le, Bool.true_eq_false, decide_true, decide_false, Int.reduceEq, Int.reduceLT, Int.reduceLE, Int.reduceSub, Int.reduceAdd, DL.wIfT, DL.wListRg, DL.eSortT]
  refine ⟨65535, 0, 65535, rfl, by decide, by decide, ?_⟩
  simp -implicitDefEqProofs only [DL.WW, List.isEmpty_nil, List.lookup_cons, List.lookup_nil, List.map, List.length, List.length_cons, List.length_nil, List.length_set, List.replicate, List.append, List.cons_append, List.nil_append, List.append_nil, List.getElem?_cons_zero, List.getElem?_cons_succ, List.getElem?_nil, List.set_cons_zero, List.set_cons_succ, ↓reduceIte, Bool.false_eq_true, Bool.not_true, Bool.not_false, Bool.true_and, Bool.false_and, Bool.and_true, Bool.and_false, Bool.or_true, Bool.or_false, Bool.true_or, Bool.false_or, Nat.reduceAdd, Nat.reduceSub, Nat.reduceLT, Nat.reduceLeDiff, true_and, and_true, and_self, decide_eq_true_eq, Nat.zero_lt_succ, Nat.lt_add_left_iff_pos, beq_self_eq_true, String.reduceBEq, String.reduceEq, Nat.le_refl, Nat.zero_le, Bool.true_eq_false, decide_true, decide_false, Int.reduceEq, Int.reduceLT, Int.reduceLE, Int.reduceSub, Int.reduceAdd, DL.wIfT, DL.wListRg, DL.eSortT]
  refine ⟨0, 0, 65535, rfl, by decide, by decide, ?_⟩
  simp -implicitDefEqProofs only [DL.WW, List.isEmpty_nil, List.lookup_cons, List.lookup_nil, List.map, List.length, List.length_cons, List.length_nil, List.length_set, List.replicate, List.append, List.cons_append, List.nil_append, List.append_nil, List.getElem?_cons_zero, List.getElem?_cons_succ, List.getElem?_nil, List.set_cons_zero, List.set_cons_succ, ↓reduceIte, Bool.false_eq_true, Bool.not_true, Bool.not_false, Bool.true_and, Bool.false_and, Bool.and_true, Bool.and_false, Bool.or_true, Bool.or_false, Bool.true_or, Bool.false_or, Nat.reduceAdd, Nat.reduceSub, Nat.reduceLT, Nat.reduceLeDiff, true_and, and_true, and_self, decide_eq_true_eq, Nat.zero_lt_succ, Nat.lt_add_left_iff_pos, beq_self_eq_true, String.reduceBEq, String.reduceEq, Nat.le_refl, Nat.zero_le, Bool.true_eq_false, decide_true, decide_false, Int.reduceEq, Int.reduceLT, Int.reduceLE, Int.reduceSub, Int.reduceAdd, DL.wIfT, DL.wListRg, DL.eSortT]
  refine ⟨65535, 0, 8, rfl, .inr (by decide), .inl ⟨by decide, by decide⟩, ?_⟩
  simp -implicitDefEqProofs only [DL.WW, List.isEmpty_nil, List.lookup_cons, List.lookup_nil, List.map, List.length, List.length_cons, List.length_nil, List.length_set, List.replicate, List.append, List.cons_append, List.nil_append, List.append_nil, List.getElem?_cons_zero, List.getElem?_cons_succ, List.getElem?_nil, List.set_cons_zero, List.set_cons_succ, ↓reduceIte, Bool.false_eq_true, Bool.not_true, Bool.not_false, Bool.true_and, Bool.false_and, Bool.and_true, Bool.and_false, Bool.or_true, Bool.or_false, Bool.true_or, Bool.false_or, Nat.reduceAdd, Nat.reduceSub, Nat.reduceLT, Nat.reduceLeDiff, true_and, and_true, and_self, decide_eq_true_eq, Nat.zero_lt_succ, Nat.lt_add_left_iff_pos, beq_self_eq_true, String.reduceBEq, String.reduceEq, Nat.le_refl, Nat.zero_le, Bool.true_eq_false, decide_true, decide_false, Int.reduceEq, Int.reduceLT, Int.reduceLE, Int.reduceSub, Int.reduceAdd, DL.wIfT, DL.wListRg, DL.eSortT]
  exact q
def F_nim_inverse : FSp := fun args P => args = [some (.dat (.int 1))] ∧ P (.dat (.int 1)) [none]
theorem ok_nim_inverse {k : Nat} (T : Txt K mg) (G_need_number : FnOk P w K mg base CX0 (k) T.a_need_number T.d_need_number ["value", "least", "most"] (spD K F_need_number)) (G_product_of : FnOk P w K mg base CX0 (k) T.a_product_of T.d_product_of ["one", "other", "half"] (spD K F_product_of)) : FnOk P w K mg base CX0 (k + 1) T.a_nim_inverse T.d_nim_inverse ["number"] (spD K F_nim_inverse) := by
  refine (fun (hA : ∀ args P, F_nim_inverse args P → args.length = 1) => T.F_nim_inverse.ok (sp := spD K F_nim_inverse) sc_nim_inverse (fun vs H Q E h => spD_len hA h) (fun cdv A outer s H vs Q E hr h => ⟨_, (pss_cons (ps_expr (pe_call G_need_number hr rfl T.g_need_number T.F_need_number.kp T.b_need_number .nil pass0 (pa_cons (pv 0) (pa_cons pe_int (pa_cons (pe_glob (v := .int 65535) rfl T.c_MOST_NUMBER ⟨_, rfl⟩) pa_nil)))))
  (pss_cons (ps_par (i := 1) (j := 2) rfl sc_nim_inverse.nd rfl rfl (by decide) rfl rfl (pa_cons pe_int (pa_cons (pv 0) pa_nil)) rfl)
  (pss_cons (ps_for PassesOwn.never rfl (pi_range1 rfl T.m_range (pa_cons pe_int pa_nil)) (pg_name (i := 3) sc_nim_inverse.nd rfl (Or.inl rfl))
  (pss_cons (ps_set (i := 2) sc_nim_inverse.nd rfl (Or.inl rfl) (pe_call G_product_of hr rfl T.g_product_of T.F_product_of.kp T.b_product_of .nil pass0 (pa_cons (pv 2) (pa_cons (pv 2) (pa_cons pe_int pa_nil)))))
  (pss_one (ps_set (i := 1) sc_nim_inverse.nd rfl (Or.inl rfl) (pe_call G_product_of hr rfl T.g_product_of T.F_product_of.kp T.b_product_of .nil pass0 (pa_cons (pv 1) (pa_cons (pv 2) (pa_cons pe_int pa_nil))))))))
  (pss_one (ps_ret (pv 1)))))), fn_run (N := ["number", "found", "power", "turn"]) h (fun A' Hz' => (ss_seq (ss_drop (se_call (sa_cons se_var (sa_cons se_int (sa_cons se_int sa_nil)))))
  (ss_seq (ss_par (by decide) se_int se_var)
  (ss_seq (ss_for (si_rng1 se_int) sg_name
  (ss_seq (ss_asg (se_call (sa_cons se_var (sa_cons se_var (sa_cons se_int sa_nil)))) sg_name)
  (ss_asg (se_call (sa_cons se_var (sa_cons se_var (sa_cons se_int sa_nil)))) sg_name)))
  (ss_ret se_var))))) (fun args P hl hF => ?_) (by rw [spD_len hA h]; exact Nat.le_of_ble_eq_true rfl)⟩)) (fun args P hF => ?_)
  rotate_left
  · obtain ⟨rfl, _⟩ := hF
    rfl
  obtain ⟨rfl, q⟩ := hF
  simp -implicitDefEqProofs only [DL.WW, List.isEmpty_nil, List.lookup_cons, List.lookup_nil, List.map, List.length, List.length_cons, List.length_nil, List.length_set, List.replicate, List.append, List.cons_append, List.nil_append, List.append_nil, List.getElem?_cons_zero, List.getElem?_cons_succ, List.getElem?_nil, List.set_cons_zero, List.set_cons_succ, ↓reduceIte, Bool.false_eq_true, Bool.not_true, Bool.not_false, Bool.true_and, Bool.false_and, Bool.and_true, Bool.and_false, Bool.or_true, Bool.or_false, Bool.true_or, Bool.false_or, Nat.reduceAdd, Nat.reduceSub, Nat.reduceLT, Nat.reduceLeDiff, true_and, and_true, and_self, decide_eq_true_eq, Nat.zero_lt_succ, Nat.lt_add_left_iff_pos, beq_self_eq_true, String.reduceBEq, String.reduceEq, Nat.le_refl, Nat.zero_le, Bool.true_eq_false, decide_true, decide_false, Int.reduceEq, Int.reduceLT, Int.reduceLE, Int.reduceSub, Int.reduceAdd, DL.wIfT, DL.wListRg, DL.eSortT]
  refine ⟨1, 1, 65535, rfl, by decide, by decide, ?_⟩
  simp -implicitDefEqProofs only [DL.WW, List.isEmpty_nil, List.lookup_cons, List.lookup_nil, List.map, List.length, List.length_cons, List.length_nil, List.length_set, List.replicate, List.append, List.cons_append, List.nil_append, List.append_nil, List.getElem?_cons_zero, List.getElem?_cons_succ, List.getElem?_nil, List.set_cons_zero, List.set_cons_succ, ↓reduceIte, Bool.false_eq_true, Bool.not_true, Bool.not_false, Bool.true_and, Bool.false_and, Bool.and_true, Bool.and_false, Bool.or_true, Bool.or_false, Bool.true_or, Bool.false_or, Nat.reduceAdd, Nat.reduceSub, Nat.reduceLT, Nat.reduceLeDiff, true_and, and_true, and_self, decide_eq_true_eq, Nat.zero_lt_succ, Nat.lt_add_left_iff_pos, beq_self_eq_true, String.reduceBEq, String.reduceEq, Nat.le_refl, Nat.zero_le, Bool.true_eq_false, decide_true, decide_false, Int.reduceEq, Int.reduceLT, Int.reduceLE, Int.reduceSub, Int.reduceAdd, DL.wIfT, DL.wListRg, DL.eSortT]
  refine for_use ?_
  simp -implicitDefEqProofs only [DL.WW, List.isEmpty_nil, List.lookup_cons, List.lookup_nil, List.map, List.length, List.length_cons, List.length_nil, List.length_set, List.replicate, List.append, List.cons_append, List.nil_append, List.append_nil, List.getElem?_cons_zero, List.getElem?_cons_succ, List.getElem?_nil, List.set_cons_zero, List.set_cons_succ, ↓reduceIte, Bool.false_eq_true, Bool.not_true, Bool.not_false, Bool.true_and, Bool.false_and, Bool.and_true, Bool.and_false, Bool.or_true, Bool.or_false, Bool.true_or, Bool.false_or, Nat.reduceAdd, Nat.reduceSub, Nat.reduceLT, Nat.reduceLeDiff, true_and, and_true, and_self, decide_eq_true_eq, Nat.zero_lt_succ, Nat.lt_add_left_iff_pos, beq_self_eq_true, String.reduceBEq, String.reduceEq, Nat.le_refl, Nat.zero_le, Bool.true_eq_false, decide_true, decide_false, Int.reduceEq, Int.reduceLT, Int.reduceLE, Int.reduceSub, Int.reduceAdd, DL.wIfT, DL.wListRg, DL.eSortT]
  refine ⟨by decide, fun i e => ∃ t, e = [some (.dat (.int 1)), some (.dat (.int 1)), some (.dat (.int 1)), t], ⟨_, rfl⟩, ?_, ?_⟩
  · rintro i d e hd ⟨t, rfl⟩
    obtain ⟨_, rfl⟩ := range_get hd
    simp -implicitDefEqProofs only [DL.WW, List.isEmpty_nil, List.lookup_cons, List.lookup_nil, List.map, List.length, List.length_cons, List.length_nil, List.length_set, List.replicate, List.append, List.cons_append, List.nil_append, List.append_nil, List.getElem?_cons_zero, List.getElem?_cons_succ, List.getElem?_nil, List.set_cons_zero, List.set_cons_succ, ↓reduceIte, Bool.false_eq_true, Bool.not_true, Bool.not_false, Bool.true_and, Bool.false_and, Bool.and_true, Bool.and_false, Bool.or_true, Bool.or_false, Bool.true_or, Bool.false_or, Nat.reduceAdd, Nat.reduceSub, Nat.reduceLT, Nat.reduceLeDiff, true_and, and_true, and_self, decide_eq_true_eq, Nat.zero_lt_succ, Nat.lt_add_left_iff_pos, beq_self_eq_true, String.reduceBEq, String.reduceEq, Nat.le_refl, Nat.zero_le, Bool.true_eq_false, decide_true, decide_false, Int.reduceEq, Int.reduceLT, Int.reduceLE, Int.reduceSub, Int.reduceAdd, DL.wIfT, DL.wListRg, DL.eSortT]
    refine ⟨1, 1, 8, rfl, .inl (by decide), .inl ⟨by decide, by decide⟩, ?_⟩
    simp -implicitDefEqProofs only [DL.WW, List.isEmpty_nil, List.lookup_cons, List.lookup_nil, List.map, List.length, List.length_cons, List.length_nil, List.length_set, List.replicate, List.append, List.cons_append, List.nil_append, List.append_nil, List.getElem?_cons_zero, List.getElem?_cons_succ, List.getElem?_nil, List.set_cons_zero, List.set_cons_succ, ↓reduceIte, Bool.false_eq_true, Bool.not_true, Bool.not_false, Bool.true_and, Bool.false_and, Bool.and_true, Bool.and_false, Bool.or_true, Bool.or_false, Bool.true_or, Bool.false_or, Nat.reduceAdd, Nat.reduceSub, Nat.reduceLT, Nat.reduceLeDiff, true_and, and_true, and_self, decide_eq_true_eq, Nat.zero_lt_succ, Nat.lt_add_left_iff_pos, beq_self_eq_true, String.reduceBEq, String.reduceEq, Nat.le_refl, Nat.zero_le, Bool.true_eq_false, decide_true, decide_false, Int.reduceEq, Int.reduceLT, Int.reduceLE, Int.reduceSub, Int.reduceAdd, DL.wIfT, DL.wListRg, DL.eSortT]
    refine ⟨1, 1, 8, rfl, .inl (by decide), .inl ⟨by decide, by decide⟩, ?_⟩
    simp -implicitDefEqProofs only [DL.WW, List.isEmpty_nil, List.lookup_cons, List.lookup_nil, List.map, List.length, List.length_cons, List.length_nil, List.length_set, List.replicate, List.append, List.cons_append, List.nil_append, List.append_nil, List.getElem?_cons_zero, List.getElem?_cons_succ, List.getElem?_nil, List.set_cons_zero, List.set_cons_succ, ↓reduceIte, Bool.false_eq_true, Bool.not_true, Bool.not_false, Bool.true_and, Bool.false_and, Bool.and_true, Bool.and_false, Bool.or_true, Bool.or_false, Bool.true_or, Bool.false_or, Nat.reduceAdd, Nat.reduceSub, Nat.reduceLT, Nat.reduceLeDiff, true_and, and_true, and_self, decide_eq_true_eq, Nat.zero_lt_succ, Nat.lt_add_left_iff_pos, beq_self_eq_true, String.reduceBEq, String.reduceEq, Nat.le_refl, Nat.zero_le, Bool.true_eq_false, decide_true, decide_false, Int.reduceEq, Int.reduceLT, Int.reduceLE, Int.reduceSub, Int.reduceAdd, DL.wIfT, DL.wListRg, DL.eSortT]
    exact ⟨_, rfl⟩
  · rintro e ⟨t, rfl⟩
    simp -implicitDefEqProofs only [DL.WW, List.isEmpty_nil, List.lookup_cons, List.lookup_nil, List.map, List.length, List.length_cons, List.length_nil, List.length_set, List.replicate, List.append, List.cons_append, List.nil_append, List.append_nil, List.getElem?_cons_zero, List.getElem?_cons_succ, List.getElem?_nil, List.set_cons_zero, List.set_cons_succ, ↓reduceIte, Bool.false_eq_true, Bool.not_true, Bool.not_false, Bool.true_and, Bool.false_and, Bool.and_true, Bool.and_false, Bool.or_true, Bool.or_false, Bool.true_or, Bool.false_or, Nat.reduceAdd, Nat.reduceSub, Nat.reduceLT, Nat.reduceLeDiff, true_and, and_true, and_self, decide_eq_true_eq, Nat.zero_lt_succ, Nat.lt_add_left_iff_pos, beq_self_eq_true, String.reduceBEq, String.reduceEq, Nat.le_refl, Nat.zero_le, Bool.true_eq_false, decide_true, decide_false, Int.reduceEq, Int.reduceLT, Int.reduceLE, Int.reduceSub, Int.reduceAdd, DL.wIfT, DL.wListRg, DL.eSortT]
    exact q
end
end K58D


set_option Elab.async false
set_option linter.all false
set_option maxRecDepth 100000
set_option maxHeartbeats 4000000
namespace K58D
open PySem L2 TG DL K58
section
variable {P : Program} {w : World} {K : PySem.W.Frag} {mg : Str → Option Value} {base : Heap}
theorem ok_law_taken {k : Nat} (T : Txt K mg)  : FnOk P w K mg base CX0 (k + 1) T.a_law_taken T.d_law_taken ["_law_row", "_law_many"] (spD K F_law_taken) := by
  refine (fun (hA : ∀ args P, F_law_taken args P → args.length = 2) => T.F_law_taken.ok (sp := spD K F_law_taken) sc_law_taken (fun vs H Q E h => spD_len hA h) (fun cdv A outer s H vs Q E hr h => ⟨_, (pss_cons (ps_if (pt_cmpR op_gt (pe_ix (ix_listK (K := K) rfl) (pv 0) pe_int (fun _ _ => rfl)) pe_int (nomark _))
  (pss_cons (ps_set (i := 2) sc_law_taken.nd rfl (Or.inl rfl) (pe_op op_mod (pe_callTy call_int1 rfl T.m_int (by decide +kernel) (pa_cons (pe_ix (ix_listK (K := K) rfl) (pv 0) pe_int (fun _ _ => rfl)) pa_nil)) (pv 1)))
  (pss_cons (ps_asg (pe_op op_fdiv (pe_ix (ix_listK (K := K) rfl) (pv 0) pe_int (fun _ _ => rfl)) (pv 1)) (pg_sub (pv 0) pe_int set_list))
  (pss_one (ps_ret (pv 2)))))
  pss_nil)
  (pss_cons (ps_asg (pe_op op_add (pe_ix (ix_listK (K := K) rfl) (pv 0) pe_int (fun _ _ => rfl)) pe_int) (pg_sub (pv 0) pe_int set_list))
  (pss_cons (ps_if (pt_cmpR op_gt (pe_ix (ix_listK (K := K) rfl) (pv 0) pe_int (fun _ _ => rfl)) (pe_callB (call_lenK (K := K) rfl) rfl T.m_len PySem.boot_len (pa_cons (pe_ix (ix_listK (K := K) rfl) (pv 0) pe_int (fun _ _ => rfl)) pa_nil)) (nomark _))
  (pss_cons (ps_asg (pe_op op_mod (pe_callTy call_int1 rfl T.m_int (by decide +kernel) (pa_cons (pe_op op_add (pe_op op_mul (pe_ix (ix_listK (K := K) rfl) (pv 0) pe_int (fun _ _ => rfl)) pe_int) pe_int) pa_nil)) pe_int) (pg_sub (pv 0) pe_int set_list))
  (pss_one (ps_ret (pe_op op_mod (pe_callTy call_int1 rfl T.m_int (by decide +kernel) (pa_cons (pe_op op_fdiv (pe_ix (ix_listK (K := K) rfl) (pv 0) pe_int (fun _ _ => rfl)) pe_int) pa_nil)) (pv 1)))))
  pss_nil)
  (pss_cons (ps_set (i := 3) sc_law_taken.nd rfl (Or.inl rfl) (pe_ix (ix_seqK (K := K) rfl) (pe_ix (ix_listK (K := K) rfl) (pv 0) pe_int (fun _ _ => rfl)) (pe_op op_sub (pe_ix (ix_listK (K := K) rfl) (pv 0) pe_int (fun _ _ => rfl)) pe_int) (fun _ _ => rfl)))
  (pss_cons (ps_asg (pe_op op_mod (pe_callTy call_int1 rfl T.m_int (by decide +kernel) (pa_cons (pe_op op_add (pe_op op_add (pe_op op_mul (pe_ix (ix_listK (K := K) rfl) (pv 0) pe_int (fun _ _ => rfl)) pe_int) (pv 3)) pe_int) pa_nil)) pe_int) (pg_sub (pv 0) pe_int set_list))
  (pss_cons (ps_if (pt_cmpR op_ge (pv 3) (pe_op op_pow pe_int pe_int) (nomark _))
  (pss_one (ps_asg (pe_op op_fdiv (pv 3) (pv 1)) (pg_sub (pv 0) pe_int set_list)))
  pss_nil)
  (pss_one (ps_ret (pe_op op_mod (pe_callTy call_int1 rfl T.m_int (by decide +kernel) (pa_cons (pv 3) pa_nil)) (pv 1)))))))))), fn_run (N := ["_law_row", "_law_many", "_law_found", "_law_cell"]) h (fun A' Hz' => (ss_seq (ss_if (st_test (se_op (sr_I0 (fun _ _ => rfl)) (se_op sr_ixL se_var se_int) se_int))
  (ss_seq (ss_asg (se_op (sr_I (fun _ _ => rfl)) (se_cb1 sc_int (se_op sr_ixL se_var se_int)) se_var) sg_name)
  (ss_seq (ss_asg (se_op (sr_I (fun _ _ => rfl)) (se_op sr_ixL se_var se_int) se_var) (sg_sub se_int))
  (ss_ret se_var)))
  ss_next)
  (ss_seq (ss_asg (se_op (sr_I0 (fun _ _ => rfl)) (se_op sr_ixL se_var se_int) se_int) (sg_sub se_int))
  (ss_seq (ss_if (st_test (se_op (sr_I0 (fun _ _ => rfl)) (se_op sr_ixL se_var se_int) (se_cb1 sc_len (se_op sr_ixL se_var se_int))))
  (ss_seq (ss_asg (se_op (sr_I (fun _ _ => rfl)) (se_cb1 sc_int (se_op (sr_I0 (fun _ _ => rfl)) (se_op (sr_I (fun _ _ => rfl)) (se_op sr_ixL se_var se_int) se_int) se_int)) se_int) (sg_sub se_int))
  (ss_ret (se_op (sr_I (fun _ _ => rfl)) (se_cb1 sc_int (se_op (sr_I (fun _ _ => rfl)) (se_op sr_ixL se_var se_int) se_int)) se_var)))
  ss_next)
  (ss_seq (ss_asg (se_op sr_ix (se_op sr_ixL se_var se_int) (se_op (sr_I0 (fun _ _ => rfl)) (se_op sr_ixL se_var se_int) se_int)) sg_name)
  (ss_seq (ss_asg (se_op (sr_I (fun _ _ => rfl)) (se_cb1 sc_int (se_op (sr_I0 (fun _ _ => rfl)) (se_op (sr_I0 (fun _ _ => rfl)) (se_op (sr_I (fun _ _ => rfl)) (se_op sr_ixL se_var se_int) se_int) se_var) se_int)) se_int) (sg_sub se_int))
  (ss_seq (ss_if (st_test (se_op (sr_I0 (fun _ _ => rfl)) se_var (se_op (sr_I (fun _ _ => rfl)) se_int se_int)))
  (ss_asg (se_op (sr_I (fun _ _ => rfl)) se_var se_var) (sg_sub se_int))
  ss_next)
  (ss_ret (se_op (sr_I (fun _ _ => rfl)) (se_cb1 sc_int se_var) se_var))))))))) (fun args P hl hF => ?_) (by rw [spD_len hA h]; exact Nat.le_of_ble_eq_true rfl)⟩)) (fun args P hF => ?_)
  rotate_left
  · obtain ⟨o, m, rfl, _⟩ := hF
    rfl
  obtain ⟨o, m, rfl, ⟨ns, i, z, t, rfl, h1, h2⟩, ⟨m0, m1⟩, q⟩ := hF
  simp -implicitDefEqProofs only [DL.WW, List.isEmpty_nil, List.lookup_cons, List.lookup_nil, List.map, List.length, List.length_cons, List.length_nil, List.length_set, List.replicate, List.append, List.cons_append, List.nil_append, List.append_nil, List.getElem?_cons_zero, List.getElem?_cons_succ, List.getElem?_nil, List.set_cons_zero, List.set_cons_succ, ↓reduceIte, Bool.false_eq_true, Bool.not_true, Bool.not_false, Bool.true_and, Bool.false_and, Bool.and_true, Bool.and_false, Bool.or_true, Bool.or_false, Bool.true_or, Bool.false_or, Nat.reduceAdd, Nat.reduceSub, Nat.reduceLT, Nat.reduceLeDiff, true_and, and_true, and_self, decide_eq_true_eq, Nat.zero_lt_succ, Nat.lt_add_left_iff_pos, beq_self_eq_true, String.reduceBEq, String.reduceEq, Nat.le_refl, Nat.zero_le, Bool.true_eq_false, decide_true, decide_false, Int.reduceEq, Int.reduceLT, Int.reduceLE, Int.reduceSub, Int.reduceAdd, rowL_eq]
  have row : ∀ i' z' t' : Int, 0 ≤ i' → IsRow (.lst (rowL ns i' z' t')) := fun i' z' t' h => ⟨ns, i', z', t', rfl, h1, h⟩
  have fin : ∀ (x i' z' t' : Int), 0 ≤ i' → P (.dat (.int (x % m))) [some (.ob (some 0) (.lst [.list (ns.map PyData.int), .int i', .int z', .int t'])), none] := fun x i' z' t' hi =>
    q _ _ (row i' z' t' hi) (Int.emod_nonneg _ (by omega)) (Int.emod_lt_of_pos _ m0)
  by_cases c : 0 < t
  · rw [if_pos c]
    exact ⟨m0, ⟨m0, m1⟩, fin _ _ _ _ h2⟩
  · rw [if_neg c]
    simp -implicitDefEqProofs only [DL.WW, List.isEmpty_nil, List.lookup_cons, List.lookup_nil, List.map, List.length, List.length_cons, List.length_nil, List.length_set, List.replicate, List.append, List.cons_append, List.nil_append, List.append_nil, List.getElem?_cons_zero, List.getElem?_cons_succ, List.getElem?_nil, List.set_cons_zero, List.set_cons_succ, ↓reduceIte, Bool.false_eq_true, Bool.not_true, Bool.not_false, Bool.true_and, Bool.false_and, Bool.and_true, Bool.and_false, Bool.or_true, Bool.or_false, Bool.true_or, Bool.false_or, Nat.reduceAdd, Nat.reduceSub, Nat.reduceLT, Nat.reduceLeDiff, true_and, and_true, and_self, decide_eq_true_eq, Nat.zero_lt_succ, Nat.lt_add_left_iff_pos, beq_self_eq_true, String.reduceBEq, String.reduceEq, Nat.le_refl, Nat.zero_le, Bool.true_eq_false, decide_true, decide_false, Int.reduceEq, Int.reduceLT, Int.reduceLE, Int.reduceSub, Int.reduceAdd, List.length_map]
    by_cases c2 : ((ns.length : Nat) : Int) < i + 1
    · rw [if_pos c2]
      exact ⟨mul_small, ⟨by decide, by decide⟩, m0, fin _ _ _ _ (by omega)⟩
    · rw [if_neg c2]
      have hi : i.toNat < ns.length := by omega
      have hv : atI (ns.map PyData.int) (i + 1 - 1) = some (.int (ns[i.toNat])) := by
        have e : i + 1 - 1 = ((i.toNat : Nat) : Int) := by omega
        rw [e]
        exact atI_nat (by rw [List.getElem?_map, List.getElem?_eq_getElem hi]; rfl)
      simp -implicitDefEqProofs only [DL.WW, List.isEmpty_nil, List.lookup_cons, List.lookup_nil, List.map, List.length, List.length_cons, List.length_nil, List.length_set, List.replicate, List.append, List.cons_append, List.nil_append, List.append_nil, List.getElem?_cons_zero, List.getElem?_cons_succ, List.getElem?_nil, List.set_cons_zero, List.set_cons_succ, ↓reduceIte, Bool.false_eq_true, Bool.not_true, Bool.not_false, Bool.true_and, Bool.false_and, Bool.and_true, Bool.and_false, Bool.or_true, Bool.or_false, Bool.true_or, Bool.false_or, Nat.reduceAdd, Nat.reduceSub, Nat.reduceLT, Nat.reduceLeDiff, true_and, and_true, and_self, decide_eq_true_eq, Nat.zero_lt_succ, Nat.lt_add_left_iff_pos, beq_self_eq_true, String.reduceBEq, String.reduceEq, Nat.le_refl, Nat.zero_le, Bool.true_eq_false, decide_true, decide_false, Int.reduceEq, Int.reduceLT, Int.reduceLE, Int.reduceSub, Int.reduceAdd, hv]
      refine ⟨mul_small, ⟨by decide, by decide, by decide⟩, ?_⟩
      split
      · exact ⟨⟨m0, m1⟩, m0, fin _ _ _ _ (by omega)⟩
      · exact ⟨m0, fin _ _ _ _ (by omega)⟩
end
end K58D


set_option Elab.async false
set_option linter.all false
set_option maxRecDepth 100000
set_option maxHeartbeats 4000000
namespace K58D
open PySem L2 TG DL K58
section
variable {P : Program} {w : World} {K : PySem.W.Frag} {mg : Str → Option Value} {base : Heap}
theorem ok_law_pick {k : Nat} (T : Txt K mg) (G_law_taken : FnOk P w K mg base CX0 (k) T.a_law_taken T.d_law_taken ["_law_row", "_law_many"] (spD K F_law_taken)) : FnOk P w K mg base CX0 (k + 1) T.a_law_pick T.d_law_pick ["_law_row", "_law_things"] (spD K F_law_pick) := by
  refine (fun (hA : ∀ args P, F_law_pick args P → args.length = 2) => T.F_law_pick.ok (sp := spD K F_law_pick) sc_law_pick (fun vs H Q E h => spD_len hA h) (fun cdv A outer s H vs Q E hr h => ⟨_, (pss_one (ps_ret (pe_ix (ix_listK (K := K) rfl) (pv 1) (pe_call G_law_taken hr rfl T.g_law_taken T.F_law_taken.kp T.b_law_taken .nil pass0 (pa_cons (pv 0) (pa_cons (pe_callB (call_lenK (K := K) rfl) rfl T.m_len PySem.boot_len (pa_cons (pv 1) pa_nil)) pa_nil))) (fun _ _ => rfl)))), fn_run (N := ["_law_row", "_law_things"]) h (fun A' Hz' => (ss_ret (se_op sr_ixL se_var (se_callO (sa_cons (se_cb1 sc_len se_var) sa_nil))))) (fun args P hl hF => ?_) (by rw [spD_len hA h]; exact Nat.le_of_ble_eq_true rfl)⟩)) (fun args P hF => ?_)
  rotate_left
  · obtain ⟨o, ds, rfl, _⟩ := hF
    rfl
  obtain ⟨o, ds, rfl, ho, ⟨h1, h2⟩, hP⟩ := hF
  simp -implicitDefEqProofs only [DL.WW, List.isEmpty_nil, List.lookup_cons, List.lookup_nil, List.map, List.length, List.length_cons, List.length_nil, List.length_set, List.replicate, List.append, List.cons_append, List.nil_append, List.append_nil, List.getElem?_cons_zero, List.getElem?_cons_succ, List.getElem?_nil, List.set_cons_zero, List.set_cons_succ, ↓reduceIte, Bool.false_eq_true, Bool.not_true, Bool.not_false, Bool.true_and, Bool.false_and, Bool.and_true, Bool.and_false, Bool.or_true, Bool.or_false, Bool.true_or, Bool.false_or, Nat.reduceAdd, Nat.reduceSub, Nat.reduceLT, Nat.reduceLeDiff, true_and, and_true, and_self, decide_eq_true_eq, Nat.zero_lt_succ, Nat.lt_add_left_iff_pos, beq_self_eq_true, String.reduceBEq, String.reduceEq, Nat.le_refl, Nat.zero_le, Bool.true_eq_false, decide_true, decide_false, Int.reduceEq, Int.reduceLT, Int.reduceLE, Int.reduceSub, Int.reduceAdd]
  refine ⟨o, _, rfl, ho, ⟨by omega, by omega⟩, fun x o' ho' x0 x1 => ?_⟩
  obtain ⟨x, rfl⟩ : ∃ k : Nat, x = k := ⟨x.toNat, by omega⟩
  have hx : x < ds.length := by omega
  have hat : atI ds (x : Int) = some ds[x] := atI_nat (List.getElem?_eq_getElem hx)
  simp -implicitDefEqProofs only [DL.WW, List.isEmpty_nil, List.lookup_cons, List.lookup_nil, List.map, List.length, List.length_cons, List.length_nil, List.length_set, List.replicate, List.append, List.cons_append, List.nil_append, List.append_nil, List.getElem?_cons_zero, List.getElem?_cons_succ, List.getElem?_nil, List.set_cons_zero, List.set_cons_succ, ↓reduceIte, Bool.false_eq_true, Bool.not_true, Bool.not_false, Bool.true_and, Bool.false_and, Bool.and_true, Bool.and_false, Bool.or_true, Bool.or_false, Bool.true_or, Bool.false_or, Nat.reduceAdd, Nat.reduceSub, Nat.reduceLT, Nat.reduceLeDiff, true_and, and_true, and_self, decide_eq_true_eq, Nat.zero_lt_succ, Nat.lt_add_left_iff_pos, beq_self_eq_true, String.reduceBEq, String.reduceEq, Nat.le_refl, Nat.zero_le, Bool.true_eq_false, decide_true, decide_false, Int.reduceEq, Int.reduceLT, Int.reduceLE, Int.reduceSub, Int.reduceAdd, hat]
  exact hP _ _ ho' (List.getElem_mem hx)
end
end K58D


set_option Elab.async false
set_option linter.all false
set_option maxRecDepth 100000
set_option maxHeartbeats 4000000
namespace K58
open PySem L2 TG
section
variable {P : Program} {w : World} {K : PySem.W.Frag} {mg : Str → Option Value} {base : Heap}
/-! ### is_int, is_in of ints -/
def spIsInt : Sp := fun vs H Q _ => ∃ n : Int, vs = [.int n] ∧ Q (.bl true) H
theorem ok_is_int {k : Nat} (T : Txt K mg) : FnOk P w K mg base CX0 (k + 1) T.a_is_int T.d_is_int ["value"] spIsInt := by
  refine T.F_is_int.ok sc_is_int (fun vs H Q E h => ?_) (fun cdv A outer s H vs Q E hr h => ?_)
  · obtain ⟨n, rfl, _⟩ := h
    rfl
  obtain ⟨n, rfl, q⟩ := h
  refine ⟨_, (pss_one (ps_ret (pe_and (pe_callB (call_isiG (K := K) rfl) rfl T.m_isinstance (by decide +kernel) (pa_cons (pv 0) (pa_cons (pe_bltn (v := .ty "int") (u := .type "int") rfl T.m_int (by decide +kernel) rfl) pa_nil))) (pe_one (pe_not (pe_callB (call_isiG (K := K) rfl) rfl T.m_isinstance (by decide +kernel) (pa_cons (pv 0) (pa_cons (pe_bltn (v := .ty "bool") (u := .type "bool") rfl T.m_bool (by decide +kernel) rfl) pa_nil)))))))), ?_⟩
  exact ⟨_, rfl, _, _, _, _, rfl, TyN.int, kit_int_int, _, rfl, _, rfl, _, _, _, _, rfl, TyN.int, kit_int_bool, _, rfl, q⟩
def spIsIn : Sp := fun vs H Q _ => ∃ n a b : Int, vs = [.int n, .int a, .int b] ∧ Q (.bl (decide (a ≤ n) && decide (n ≤ b))) H
theorem ok_is_in {k : Nat} (T : Txt K mg) (G_is_int : FnOk P w K mg base CX0 k T.a_is_int T.d_is_int ["value"] spIsInt) : FnOk P w K mg base CX0 (k + 1) T.a_is_in T.d_is_in ["value", "least", "most"] spIsIn := by
  refine T.F_is_in.ok sc_is_in (fun vs H Q E h => ?_) (fun cdv A outer s H vs Q E hr h => ?_)
  · obtain ⟨n, a, b, rfl, _⟩ := h
    rfl
  obtain ⟨n, a, b, rfl, q⟩ := h
  refine ⟨_, (pss_one (ps_ret (pe_and (pe_call G_is_int hr rfl T.g_is_int T.F_is_int.kp T.b_is_int .nil pass0 (pa_cons (pv 0) pa_nil)) (pe_one (pe_chain op_le op_le (pv 1) (pv 0) (pv 2)))))), ?_⟩
  simp only [tRet, tAndV, tOrV, tNotV, tAnd, tOr, tNot, tB, tTest, tCB, tCons, tNil, tVar, tC, L2.start, tOp, tUn, tIf, tIfS, tSeq, tAsg, gName, tNext, tNever, tPar, tDrop, tCall, tChain, rI, rI0, rU, rEq, rNe, scal, List.map, List.length, List.replicate, List.append, List.set, List.cons_append, List.nil_append, List.append_nil,
  List.getElem?_cons_zero, List.getElem?_cons_succ, List.set_cons_zero, List.set_cons_succ, Option.some.injEq, exists_eq_left', exists_eq_left, exists_eq_right, exists_eq_right', exists_and_left, V.int.injEq, V.bl.injEq, V.str.injEq, V.ref.injEq, List.cons.injEq, and_true, true_and, and_self, Nat.reduceAdd, Nat.reduceSub, Nat.sub_self, decide_eq_true_eq, Bool.not_eq_true', decide_eq_false_iff_not, ↓reduceIte, Bool.false_eq_true, TG.ex2_eq, TG.ex3_eq, TG.ex4_eq]
  refine ⟨n, rfl, true, rfl, ?_⟩
  rw [if_pos rfl]
  by_cases h : a ≤ n
  · rw [if_pos h]
    rw [decide_eq_true h] at q
    exact q
  · rw [if_neg h]
    rw [decide_eq_false h] at q
    exact q
end
end K58


set_option Elab.async false
set_option linter.all false
set_option maxRecDepth 100000
set_option maxHeartbeats 4000000
namespace K58
open PySem L2 TG
section
variable {P : Program} {w : World} {K : PySem.W.Frag} {mg : Str → Option Value} {base : Heap}
/-- a good number is let through -/
def spNeed : Sp := fun vs H Q _ => ∃ n a b : Int, vs = [.int n, .int a, .int b] ∧ (a ≤ n ∧ n ≤ b) ∧ Q .non H
theorem ok_need_number {k : Nat} (T : Txt K mg) (G_is_in : FnOk P w K mg base CX0 k T.a_is_in T.d_is_in ["value", "least", "most"] spIsIn) : FnOk P w K mg base CX0 (k + 1) T.a_need_number T.d_need_number ["value", "least", "most"] spNeed := by
  refine T.F_need_number.ok sc_need_number (fun vs H Q E h => ?_) (fun cdv A outer s H vs Q E hr h => ?_)
  · obtain ⟨n, a, b, rfl, _⟩ := h
    rfl
  obtain ⟨n, a, b, rfl, ⟨h1, h2⟩, q⟩ := h
  refine ⟨_, (pss_one (ps_if (pt_not (pt_val (pe_call G_is_in hr rfl T.g_is_in T.F_is_in.kp T.b_is_in .nil pass0 (pa_cons (pv 0) (pa_cons (pv 1) (pa_cons (pv 2) pa_nil))))))
  (pss_one ps_never)
  pss_nil)), ?_⟩
  simp only [tRet, tAndV, tOrV, tNotV, tAnd, tOr, tNot, tB, tTest, tCB, tCons, tNil, tVar, tC, L2.start, tOp, tUn, tIf, tIfS, tSeq, tAsg, gName, tNext, tNever, tPar, tDrop, tCall, tChain, rI, rI0, rU, rEq, rNe, scal, List.map, List.length, List.replicate, List.append, List.set, List.cons_append, List.nil_append, List.append_nil,
  List.getElem?_cons_zero, List.getElem?_cons_succ, List.set_cons_zero, List.set_cons_succ, Option.some.injEq, exists_eq_left', exists_eq_left, exists_eq_right, exists_eq_right', exists_and_left, V.int.injEq, V.bl.injEq, V.str.injEq, V.ref.injEq, List.cons.injEq, and_true, true_and, and_self, Nat.reduceAdd, Nat.reduceSub, Nat.sub_self, decide_eq_true_eq, Bool.not_eq_true', decide_eq_false_iff_not, ↓reduceIte, Bool.false_eq_true, TG.ex2_eq, TG.ex3_eq, TG.ex4_eq, spIsIn, h1, h2, decide_true, Bool.and_self, Bool.true_eq, Bool.not_true]
  simpa [h1, h2] using q
end
end K58


set_option linter.all false
namespace Hp
/-! values of heaps by a rule -/
abbrev ge (f : List Nat) (i : Nat) : Nat := f.getD i 0
/-- what a digit gives for a heap of f.length counters -/
def optAt (f : List Nat) (i d : Nat) : List Nat :=
  (if f.length = i + 1 ∧ d % 2 = 1 then [0] else []) ++ (if i + 1 < f.length ∧ d / 2 % 2 = 1 then [ge f (f.length - i - 1)] else []) ++
  (if 4 ≤ d then (List.range ((f.length - i - 1) / 2)).map fun p => ge f (p + 1) ^^^ ge f (f.length - i - 1 - (p + 1)) else [])
def optU (ds f : List Nat) (i : Nat) : List Nat := (List.range i).flatMap fun j => optAt f j (ge ds j)
/-- mex of naturals, specified -/
structure Mex (xs : List Nat) (m : Nat) : Prop where
  no : m ∉ xs
  yes : ∀ j, j < m → j ∈ xs
theorem Mex.uniq {xs ys : List Nat} {m n : Nat} (h : ∀ t, t ∈ xs ↔ t ∈ ys) (a : Mex xs m) (b : Mex ys n) : m = n := by
  rcases Nat.lt_trichotomy m n with c | c | c
  · exact absurd ((h m).mpr (b.yes m c)) a.no
  · exact c
  · exact absurd ((h n).mp (a.yes n c)) b.no
variable (mex : List Nat → Nat) (hmex : ∀ xs, Mex xs (mex xs))
def nextV (ds f : List Nat) : Nat := mex (optU ds f ds.length)
def vals (ds : List Nat) : Nat → List Nat
  | 0 => [0]
  | n + 1 => vals ds n ++ [nextV mex ds (vals ds n)]
theorem vals_len (ds : List Nat) : ∀ n, (vals mex ds n).length = n + 1
  | 0 => rfl
  | n + 1 => by rw [vals, List.length_append, vals_len ds n]; rfl
def g (ds : List Nat) (n : Nat) : Nat := ge (vals mex ds n) n
theorem ge_app {f : List Nat} {x i : Nat} (h : i < f.length) : ge (f ++ [x]) i = ge f i := by
  unfold ge
  simp only [List.getD_eq_getElem?_getD, List.getElem?_append_left h]
theorem vals_get (ds : List Nat) : ∀ n i, i ≤ n → ge (vals mex ds n) i = g mex ds i
  | 0, i, h => by
    have : i = 0 := by omega
    subst this
    rfl
  | n + 1, i, h => by
    by_cases c : i = n + 1
    · subst c
      rfl
    · rw [vals, ge_app (by rw [vals_len]; omega)]
      exact vals_get ds n i (by omega)
theorem g_succ (ds : List Nat) (n : Nat) : g mex ds (n + 1) = nextV mex ds (vals mex ds n) := by
  unfold g
  rw [vals]
  unfold ge
  simp [List.getD_eq_getElem?_getD, vals_len]
/-- the values behind a move in a heap of n -/
def Opt (ds : List Nat) (n x : Nat) : Prop := ∃ i, i < ds.length ∧ ((n = i + 1 ∧ ge ds i % 2 = 1 ∧ x = 0) ∨ (i + 1 < n ∧ ge ds i / 2 % 2 = 1 ∧ x = g mex ds (n - i - 1)) ∨
  (4 ≤ ge ds i ∧ ∃ a b, 1 ≤ a ∧ 1 ≤ b ∧ a + b + i + 1 = n ∧ x = g mex ds a ^^^ g mex ds b))
theorem mem_optAt (ds : List Nat) (n i d x : Nat) : x ∈ optAt (vals mex ds n) i d ↔ ((n + 1 = i + 1 ∧ d % 2 = 1 ∧ x = 0) ∨ (i + 1 < n + 1 ∧ d / 2 % 2 = 1 ∧ x = g mex ds (n + 1 - i - 1)) ∨
    (4 ≤ d ∧ ∃ a b, 1 ≤ a ∧ 1 ≤ b ∧ a + b + i + 1 = n + 1 ∧ x = g mex ds a ^^^ g mex ds b)) := by
  unfold optAt
  rw [vals_len, List.mem_append, List.mem_append, or_assoc]
  have e1 : (x ∈ (if n + 1 = i + 1 ∧ d % 2 = 1 then [0] else [])) ↔ (n + 1 = i + 1 ∧ d % 2 = 1 ∧ x = 0) := by
    by_cases c : n + 1 = i + 1 ∧ d % 2 = 1
    · rw [if_pos c, List.mem_singleton]
      exact ⟨fun h => ⟨c.1, c.2, h⟩, fun h => h.2.2⟩
    · rw [if_neg c]
      exact ⟨fun h => (List.not_mem_nil h).elim, fun h => (c ⟨h.1, h.2.1⟩).elim⟩
  have e2 : (x ∈ (if i + 1 < n + 1 ∧ d / 2 % 2 = 1 then [ge (vals mex ds n) (n + 1 - i - 1)] else [])) ↔ (i + 1 < n + 1 ∧ d / 2 % 2 = 1 ∧ x = g mex ds (n + 1 - i - 1)) := by
    by_cases c : i + 1 < n + 1 ∧ d / 2 % 2 = 1
    · rw [if_pos c, List.mem_singleton, vals_get mex ds n _ (by omega)]
      exact ⟨fun h => ⟨c.1, c.2, h⟩, fun h => h.2.2⟩
    · rw [if_neg c]
      exact ⟨fun h => (List.not_mem_nil h).elim, fun h => (c ⟨h.1, h.2.1⟩).elim⟩
  have e3 : (x ∈ (if 4 ≤ d then (List.range ((n + 1 - i - 1) / 2)).map (fun p => ge (vals mex ds n) (p + 1) ^^^ ge (vals mex ds n) (n + 1 - i - 1 - (p + 1))) else [])) ↔
      (4 ≤ d ∧ ∃ a b, 1 ≤ a ∧ 1 ≤ b ∧ a + b + i + 1 = n + 1 ∧ x = g mex ds a ^^^ g mex ds b) := by
    by_cases c : 4 ≤ d
    · rw [if_pos c, List.mem_map]
      constructor
      · rintro ⟨p, hp, rfl⟩
        have hp' := List.mem_range.mp hp
        refine ⟨c, p + 1, n + 1 - i - 1 - (p + 1), by omega, by omega, by omega, ?_⟩
        rw [vals_get mex ds n _ (by omega), vals_get mex ds n _ (by omega)]
      · rintro ⟨_, a, b, ha, hb, hab, rfl⟩
        by_cases hle : a ≤ b
        · refine ⟨a - 1, List.mem_range.mpr (by omega), ?_⟩
          rw [vals_get mex ds n _ (by omega), vals_get mex ds n _ (by omega), show a - 1 + 1 = a by omega, show n + 1 - i - 1 - a = b by omega]
        · refine ⟨b - 1, List.mem_range.mpr (by omega), ?_⟩
          rw [vals_get mex ds n _ (by omega), vals_get mex ds n _ (by omega), show b - 1 + 1 = b by omega, show n + 1 - i - 1 - b = a by omega, Nat.xor_comm]
    · rw [if_neg c]
      exact ⟨fun h => (List.not_mem_nil h).elim, fun h => (c h.1).elim⟩
  rw [e1, e2, e3]
theorem mem_optU (ds : List Nat) (n x : Nat) : x ∈ optU ds (vals mex ds n) ds.length ↔ Opt mex ds (n + 1) x := by
  unfold optU Opt
  rw [List.mem_flatMap]
  constructor
  · rintro ⟨i, hi, h⟩
    exact ⟨i, List.mem_range.mp hi, (mem_optAt mex ds n i _ x).mp h⟩
  · rintro ⟨i, hi, h⟩
    exact ⟨i, List.mem_range.mpr hi, (mem_optAt mex ds n i _ x).mpr h⟩
/-- equal option sets, equal values -/
theorem g_eq (hmex : ∀ xs, Mex xs (mex xs)) (ds : List Nat) {m n : Nat} (hm : 0 < m) (hn : 0 < n) (h : ∀ x, Opt mex ds m x ↔ Opt mex ds n x) : g mex ds m = g mex ds n := by
  obtain ⟨m, rfl⟩ : ∃ k, m = k + 1 := ⟨m - 1, by omega⟩
  obtain ⟨n, rfl⟩ : ∃ k, n = k + 1 := ⟨n - 1, by omega⟩
  rw [g_succ, g_succ]
  exact Mex.uniq (fun t => by rw [mem_optU, mem_optU]; exact h t) (hmex _) (hmex _)
/-! ### periods -/
def Match (ds : List Nat) (l n : Nat) : Prop := g mex ds n = g mex ds (n + l)
/-- a period that holds far enough holds for ever -/
theorem period (hmex : ∀ xs, Mex xs (mex xs)) (ds : List Nat) {s l : Nat} (hl : 1 ≤ l) (h : ∀ n, s ≤ n → n ≤ 2 * s + 2 * l + ds.length → Match mex ds l n) : ∀ n, s ≤ n → Match mex ds l n := by
  intro n
  induction n using Nat.strongRecOn with
  | _ n ih =>
    intro hs
    by_cases c : n ≤ 2 * s + 2 * l + ds.length
    · exact h n hs c
    · unfold Match
      refine g_eq mex hmex ds (by omega) (by omega) fun x => ?_
      constructor
      · rintro ⟨i, hi, h⟩
        refine ⟨i, hi, ?_⟩
        rcases h with ⟨e, _⟩ | ⟨e, hd, hx⟩ | ⟨hd, a, b, ha, hb, hab, hx⟩
        · omega
        · refine .inr (.inl ⟨by omega, hd, ?_⟩)
          have := ih (n - i - 1) (by omega) (by omega)
          unfold Match at this
          rw [hx, this, show n - i - 1 + l = n + l - i - 1 by omega]
        · refine .inr (.inr ⟨hd, ?_⟩)
          by_cases hle : a ≤ b
          · refine ⟨a, b + l, ha, by omega, by omega, ?_⟩
            have := ih b (by omega) (by omega)
            unfold Match at this
            rw [hx, this]
          · refine ⟨a + l, b, by omega, hb, by omega, ?_⟩
            have := ih a (by omega) (by omega)
            unfold Match at this
            rw [hx, this]
      · rintro ⟨i, hi, h⟩
        refine ⟨i, hi, ?_⟩
        rcases h with ⟨e, _⟩ | ⟨e, hd, hx⟩ | ⟨hd, a, b, ha, hb, hab, hx⟩
        · omega
        · refine .inr (.inl ⟨by omega, hd, ?_⟩)
          have := ih (n - i - 1) (by omega) (by omega)
          unfold Match at this
          rw [hx, this, show n - i - 1 + l = n + l - i - 1 by omega]
        · refine .inr (.inr ⟨hd, ?_⟩)
          by_cases hle : a ≤ b
          · refine ⟨a, b - l, ha, by omega, by omega, ?_⟩
            have := ih (b - l) (by omega) (by omega)
            unfold Match at this
            rw [hx, this, show b - l + l = b by omega]
          · refine ⟨a - l, b, by omega, hb, by omega, ?_⟩
            have := ih (a - l) (by omega) (by omega)
            unfold Match at this
            rw [hx, this, show a - l + l = a by omega]
end Hp


set_option Elab.async false
set_option linter.all false
set_option maxRecDepth 100000
set_option maxHeartbeats 4000000
namespace K58
open PySem L2 TG
/-! ### naturals as values -/
abbrev I (n : Nat) : V := .int (n : Int)
def mexN (xs : List Nat) : Nat := mexL (xs.map fun n : Nat => (n : Int))
theorem mem_cast (xs : List Nat) (j : Nat) : ((j : Int) ∈ xs.map fun n : Nat => (n : Int)) ↔ j ∈ xs := by
  rw [List.mem_map]
  constructor
  · rintro ⟨n, hn, e⟩
    have : n = j := by omega
    rw [← this]
    exact hn
  · intro h
    exact ⟨j, h, rfl⟩
theorem mexN_ok (xs : List Nat) : Hp.Mex xs (mexN xs) := by
  obtain ⟨h1, h2⟩ := mexL_spec (xs.map fun n : Nat => (n : Int))
  exact ⟨fun q => h1 ((mem_cast xs _).mpr q), fun j hj => (mem_cast xs j).mp (h2 j hj)⟩
abbrev vals (ds : List Nat) (n : Nat) : List Nat := Hp.vals mexN ds n
theorem vals_succ (ds : List Nat) (j : Nat) : vals ds (j + 1) = vals ds j ++ [Hp.nextV mexN ds (vals ds j)] := rfl
abbrev g (ds : List Nat) (n : Nat) : Nat := Hp.g mexN ds n
theorem optAt_len (f : List Nat) (i d : Nat) : (Hp.optAt f i d).length ≤ f.length + 2 := by
  unfold Hp.optAt
  rw [List.length_append, List.length_append]
  have h1 : (if f.length = i + 1 ∧ d % 2 = 1 then [0] else ([] : List Nat)).length ≤ 1 := by split <;> simp
  have h2 : (if i + 1 < f.length ∧ d / 2 % 2 = 1 then [Hp.ge f (f.length - i - 1)] else ([] : List Nat)).length ≤ 1 := by split <;> simp
  have h3 : (if 4 ≤ d then (List.range ((f.length - i - 1) / 2)).map (fun p => Hp.ge f (p + 1) ^^^ Hp.ge f (f.length - i - 1 - (p + 1))) else ([] : List Nat)).length ≤ f.length := by
    split
    · rw [List.length_map, List.length_range]
      omega
    · exact Nat.zero_le _
  omega
theorem optU_succ (ds f : List Nat) (i : Nat) : Hp.optU ds f (i + 1) = Hp.optU ds f i ++ Hp.optAt f i (Hp.ge ds i) := by
  unfold Hp.optU
  rw [List.range_succ, List.flatMap_append]
  simp
theorem optU_len (ds f : List Nat) : ∀ i, (Hp.optU ds f i).length ≤ i * (f.length + 2)
  | 0 => Nat.zero_le _
  | i + 1 => by
    rw [optU_succ, List.length_append, Nat.succ_mul]
    have := optU_len ds f i
    have := optAt_len f i (Hp.ge ds i)
    omega
/-- the digits of a rule -/
structure RuleOk (ds : List Nat) : Prop where
  l1 : 1 ≤ ds.length
  l6 : ds.length ≤ 6
  d7 : ∀ d ∈ ds, d ≤ 7
  nz : Hp.ge ds (ds.length - 1) ≠ 0
section
variable {P : Program} {w : World} {K : PySem.W.Frag} {mg : Str → Option Value} {base : Heap}
/-! ### least_missing of a dict -/
def spMiss : Sp := fun vs H Q _ => ∃ (d : Addr) (ks : List (Key × V)) (xs : List Int), vs = [.ref d] ∧ H d = some (.dK ks) ∧ Keys ks xs ∧ Q (I (mexL xs)) H
theorem ok_least_missing {k : Nat} (T : Txt K mg) : FnOk P w K mg base CX0 (k + 1) T.a_least_missing T.d_least_missing ["numbers"] spMiss := by
  refine T.F_least_missing.ok sc_least_missing (fun vs H Q E h => ?_) (fun cdv A outer s H vs Q E hr h => ?_)
  · obtain ⟨d, ks, xs, rfl, _⟩ := h
    rfl
  obtain ⟨d, ks, xs, rfl, hd, hk, q⟩ := h
  have hu := hu_of hr
  refine ⟨_, (pss_cons (ps_set (i := 1) sc_least_missing.nd rfl (Or.inl rfl) pe_int)
  (pss_cons (ps_while PassesOwn.never (pt_cmp (pc_din hu (pv 1) (pv 0)))
  (pss_one (ps_aug (i := 1) sc_least_missing.nd rfl (Or.inl rfl) pe_int ip_add)))
  (pss_one (ps_ret (pv 1))))), ?_⟩
  refine ⟨fun m σ H' => ∃ f : Nat, σ = [some (.ref d), some (.int (f : Int))] ∧ H' = H ∧ (∀ j : Nat, j < f → ((j : Int)) ∈ xs) ∧ m + f = xs.length + 1, ⟨xs.length + 1, 0, rfl, rfl, fun j hj => by omega, rfl⟩, ?_⟩
  rintro m σ H' ⟨f, rfl, rfl, hf, hm⟩
  refine ⟨_, rfl, _, rfl, d, _, rfl, DGet.k (k := Sum.inl (f : Int)) hd, _, rfl, ?_⟩
  rw [hk.has]
  by_cases c : ((f : Int)) ∈ xs
  · rw [decide_eq_true c]
    refine iteT ?_
    have hle : f + 1 ≤ xs.length := below_len (m := f + 1) fun j hj => by
      by_cases e : j = f
      · rw [e]; exact c
      · exact hf j (by omega)
    refine ⟨fun σ' H1 => σ' = [some (.ref d), some (.int ((f + 1 : Nat) : Int))] ∧ H1 = H', fun σ' H1 z => ?_, ?_⟩
    · obtain ⟨rfl, rfl⟩ := z
      exact ⟨m - 1, by omega, f + 1, rfl, rfl, fun j hj => by
        by_cases e : j = f
        · rw [e]; exact c
        · exact hf j (by omega), by omega⟩
    · exact ⟨_, rfl, _, _, rfl, rfl, rfl, rfl⟩
  · rw [decide_eq_false c]
    refine iteF ?_
    refine ⟨_, rfl, ?_⟩
    have e : mexL xs = f := mexL_of c hf
    rw [e] at q
    exact q
/-! ### need_rule: a good rule is let through -/
def spRule (K : PySem.W.Frag) : Sp := fun vs H Q _ => ∃ (a : Addr) (ds : List Nat), vs = [.ref a] ∧ SqT K H a (ds.map I) ∧ RuleOk ds ∧ ∀ H', Same H H' → Q .non H'
theorem ok_need_rule {k : Nat} (T : Txt K mg) (G_is_in : FnOk P w K mg base CX0 k T.a_is_in T.d_is_in ["value", "least", "most"] spIsIn) : FnOk P w K mg base CX0 (k + 1) T.a_need_rule T.d_need_rule ["value"] (spRule K) := by
  refine T.F_need_rule.ok sc_need_rule (fun vs H Q E h => ?_) (fun cdv A outer s H vs Q E hr h => ?_)
  · obtain ⟨a, ds, rfl, _⟩ := h
    rfl
  obtain ⟨a, ds, rfl, hS, hR, q⟩ := h
  refine ⟨_, (pss_cons (ps_if (PW.pt (pw_or (pt_not (pt_val (pe_callB (call_isiG (K := K) rfl) rfl T.m_isinstance (by decide +kernel) (pa_cons (pv 0) (pa_cons (pe_bltn (v := .ty "tuple") (u := .type "tuple") rfl T.m_tuple (by decide +kernel) rfl) pa_nil))))) (pw_or1 (pt_not (pt_chain op_le op_le pe_int (pe_callB (call_lenK (K := K) rfl) rfl T.m_len PySem.boot_len (pa_cons (pv 0) pa_nil)) (pe_glob (v := .int 6) rfl T.c_MOST_DIGITS ⟨_, rfl⟩))))))
  (pss_one ps_never)
  pss_nil)
  (pss_one (ps_if (PW.pt (pw_or (pt_not (pt_val (pe_callB (cr_allK (K := K) rfl rfl) rfl T.m_all (by decide +kernel) (pa_cons (pe_lc (own := [("digit", 1)]) rfl sc_need_rule.nd (pi_tupK (K := K) rfl (pv 0)) (blkOk_by (N := ["value", "digit"]) (sc := defScope s_need_rule) (by decide +kernel)) (fun _ _ _ _ _ => (pg_name (i := 1) sc_need_rule.nd rfl (Or.inl rfl))) (fun _ _ _ _ _ => pts_nil) (fun _ _ _ _ _ => (pe_call G_is_in hr rfl T.g_is_in T.F_is_in.kp T.b_is_in .nil pass0 (pa_cons (pv 1) (pa_cons pe_int (pa_cons pe_int pa_nil)))))) pa_nil)))) (pw_or1 (pt_cmpR op_eq (pe_ix (ix_tupK (K := K) rfl) (pv 0) (pe_un un_neg pe_int) (fun _ _ => rfl)) pe_int (nomark _)))))
  (pss_one ps_never)
  pss_nil))), ?_⟩
  have hl : ((ds.map I).length : Int) = (ds.length : Int) := by rw [List.length_map]
  have l1 := hR.l1
  have l6 := hR.l6
  refine ⟨_, rfl, _, _, _, _, rfl, TyN.tup hS, kit_tuple_tuple, _, rfl, iteF ?_⟩
  refine ⟨_, rfl, a, _, rfl, .inr hS, _, _, rfl, rfl, _, rfl, ?_⟩
  rw [hl, decide_eq_true (by omega)]
  refine iteT ⟨_, _, rfl, rfl, _, rfl, ?_⟩
  rw [decide_eq_true (by omega)]
  refine iteF ?_
  -- all([is_in(digit, 0, 7) for digit in value])
  dsimp only [tNext]
  refine go_ifS (go_or (go_not (go_B (go_cb (go_cons ?_)))))
  refine el_lcT (K := K) (a := a) (xs := ds.map I) (fun _ => true) (fun _ => .bl true) ?_ hS ?_ ?_ ?_ ?_ H (Evl.Ex.refl H) _ ?_
  · exact Evl.ev_var rfl
  · rw [List.length_map]
    omega
  · intro x
    rfl
  · intro i x H1 e1 hx H2 e2 Q2 q2
    exact q2 H2 (Evl.Ex.refl H2)
  · intro i x H1 e1 hx _ H2 e2 Q2 q2
    rw [List.getElem?_map] at hx
    cases hd : ds[i]? with
    | none => rw [hd] at hx; cases hx
    | some d =>
      rw [hd] at hx
      obtain rfl := Option.some.inj hx
      have d7 := hR.d7 d (List.mem_of_getElem? hd)
      refine ⟨_, rfl, _, _, _, rfl, ?_⟩
      rw [decide_eq_true (by omega), decide_eq_true (by omega)]
      exact q2 H2 (Evl.Ex.refl H2)
  · intro D1 H1 hD e1 h1
    have hg : Evl.given (ds.map I).length (fun _ => true) (fun _ => V.bl true) = (List.replicate ds.length true).map V.bl := by
      rw [given_all, List.length_map, List.map_replicate, List.map_const', List.length_range]
    rw [hg] at h1
    refine ⟨D1, _, rfl, SqL.of h1, _, rfl, ?_⟩
    have ha : (List.replicate ds.length true).all id = true := by simp
    rw [ha]
    refine iteF ?_
    -- value[-1] == 0
    refine ⟨_, rfl, _, rfl, a, _, _, I (Hp.ge ds (ds.length - 1)), rfl, rfl, Evl.ex_t e1 hS, ?_, rfl, _, rfl, ?_⟩
    · have e : ds.map I = (ds.dropLast.map I) ++ [I (Hp.ge ds (ds.length - 1))] := by
        have hne : ds ≠ [] := fun z => by rw [z] at l1; exact absurd l1 (by decide)
        have hlast : Hp.ge ds (ds.length - 1) = ds.getLast hne := by
          unfold Hp.ge
          rw [List.getD_eq_getElem?_getD, List.getElem?_eq_getElem (by omega), List.getLast_eq_getElem]
          rfl
        rw [hlast, ← List.map_singleton (f := I), ← List.map_append, List.dropLast_concat_getLast]
      rw [e]
      exact atI_last _ _
    · have hz : ¬ (V.int ((Hp.ge ds (ds.length - 1) : Nat) : Int) = V.int 0) := fun z => hR.nz (by
        have := V.int.inj z
        omega)
      rw [decide_eq_false hz]
      refine iteF ?_
      exact q H1 e1
/-! ### value_after -/
def spAfter (K : PySem.W.Frag) : Sp := fun vs H Q _ => ∃ (a p : Addr) (ds f : List Nat), vs = [.ref a, .ref p] ∧ SqT K H a (ds.map I) ∧ SqL K H p (f.map I) ∧ ds.length ≤ 6 ∧ 1 ≤ f.length ∧ f.length ≤ 2000 ∧ ∀ H', Same H H' → Q (I (Hp.nextV mexN ds f)) H'
theorem at_ge {f : List Nat} {i : Nat} (h : i < f.length) : atI (f.map I) ((i : Nat) : Int) = some (I (Hp.ge f i)) := by
  refine atI_nat ?_
  rw [List.getElem?_map, List.getElem?_eq_getElem h]
  unfold Hp.ge
  rw [List.getD_eq_getElem?_getD, List.getElem?_eq_getElem h]
  rfl
theorem xorI (a b : Nat) : Builtin.bitXor (a : Int) (b : Int) = ((a ^^^ b : Nat) : Int) := by
  rw [Bits.bitXor_pp (Int.natCast_nonneg _) (Int.natCast_nonneg _), Int.toNat_natCast, Int.toNat_natCast]
theorem ok_value_after {k : Nat} (T : Txt K mg) (G_least_missing : FnOk P w K mg base CX0 k T.a_least_missing T.d_least_missing ["numbers"] spMiss) : FnOk P w K mg base CX0 (k + 1) T.a_value_after T.d_value_after ["rule", "found"] (spAfter K) := by
  refine T.F_value_after.ok sc_value_after (fun vs H Q E h => ?_) (fun cdv A outer s H vs Q E hr h => ?_)
  · obtain ⟨a, p, ds, f, rfl, _⟩ := h
    rfl
  obtain ⟨a, p, ds, f, rfl, hS, hF, l6, f1, f2, q⟩ := h
  have hu := hu_of hr
  refine ⟨_, (pss_cons (ps_par (i := 2) (j := 3) rfl sc_value_after.nd rfl rfl (by decide) rfl rfl (pa_cons (pe_callB (call_lenK (K := K) rfl) rfl T.m_len PySem.boot_len (pa_cons (pv 1) pa_nil)) (pa_cons pe_dnewK pa_nil)) rfl)
  (pss_cons (ps_for PassesOwn.never rfl (pi_enumT (K := K) rfl rfl T.m_enumerate (pa_cons (pv 0) pa_nil)) (pg_tupK (K := K) (n := 2) rfl rfl (pgs_cons (pg_name (i := 4) sc_value_after.nd rfl (Or.inl rfl)) (pgs_cons (pg_name (i := 5) sc_value_after.nd rfl (Or.inl rfl)) pgs_nil)))
  (pss_cons (ps_set (i := 6) sc_value_after.nd rfl (Or.inl rfl) (pe_op op_sub (pe_op op_sub (pv 2) (pv 4)) pe_int))
  (Evl.pss_cut (ps_if (PW.pt (pw_and (pt_cmpR op_eq (pv 6) pe_int (nomark _)) (pw_and1 (pt_cmpR op_eq (pe_op op_mod (pv 5) pe_int) pe_int (nomark _)))))
  (pss_one (ps_dput hu (pv 3) pe_int pe_bl rfl))
  pss_nil)
  (Evl.pss_cut (ps_if (PW.pt (pw_and (pt_cmpR op_gt (pv 6) pe_int (nomark _)) (pw_and1 (pt_cmpR op_eq (pe_op op_mod (pe_op op_fdiv (pv 5) pe_int) pe_int) pe_int (nomark _)))))
  (pss_one (ps_dput hu (pv 3) (pe_ix (ix_listK (K := K) rfl) (pv 1) (pv 6) (fun _ _ => rfl)) pe_bl rfl))
  pss_nil)
  (pss_one (ps_if (pt_cmpR op_ge (pv 5) pe_int (nomark _))
  (pss_one (ps_for PassesOwn.never rfl (pi_range2 rfl T.m_range (pa_cons pe_int (pa_cons (pe_op op_add (pe_op op_fdiv (pv 6) pe_int) pe_int) pa_nil))) (pg_name (i := 7) sc_value_after.nd rfl (Or.inl rfl))
  (pss_one (ps_dput hu (pv 3) (pe_op op_xor (pe_ix (ix_listK (K := K) rfl) (pv 1) (pv 7) (fun _ _ => rfl)) (pe_ix (ix_listK (K := K) rfl) (pv 1) (pe_op op_sub (pv 6) (pv 7)) (fun _ _ => rfl))) pe_bl rfl))))
  pss_nil))))))
  (pss_one (ps_ret (pe_call G_least_missing hr rfl T.g_least_missing T.F_least_missing.kp T.b_least_missing .nil pass0 (pa_cons (pv 3) pa_nil)))))), ?_⟩
  have hfl : (((f.map I).length : Nat) : Int) = (f.length : Int) := by rw [List.length_map]
  -- size, told = len(found), {}
  refine ⟨_, rfl, p, _, rfl, .inl hF, fun z hz => ⟨_, _, rfl, ?_⟩⟩
  rw [hfl]
  have s0 : Same H (upd H z (.dK [])) := same_new hz _
  -- the invariant: the keys so far
  refine ⟨_, rfl, a, _, rfl, sqT s0 hS, for_enumT (K := K) (a := a) (xs := ds.map I) (fun i σ' H' => ∃ ks x4 x5 x6 x7, σ' = [some (.ref a), some (.ref p), some (.int (f.length : Int)), some (.ref z), x4, x5, x6, x7] ∧ Keys ks ((Hp.optU ds f i).map fun n : Nat => (n : Int)) ∧ H' z = some (.dK ks) ∧ Same H H') ?_ ?_ ?_ ?_⟩
  · exact ⟨[], none, none, none, none, rfl, Keys.nil, upd_same, s0⟩
  · rintro i σ' H' _ ⟨_, _, _, _, _, _, _, _, sm⟩
    exact sqT sm hS
  · rintro i x σ' H1 H2 hx ⟨ks, x4, x5, x6, x7, rfl, hk, hz1, sm1⟩ s2
    obtain ⟨d, hd, rfl⟩ : ∃ d, ds[i]? = some d ∧ x = I d := by
      rw [List.getElem?_map] at hx
      cases e : ds[i]? with
      | none => rw [e] at hx; cases hx
      | some d => rw [e] at hx; exact ⟨d, rfl, (Option.some.inj hx).symm⟩
    have hi : i < ds.length := (List.getElem?_eq_some_iff.mp hd).1
    have hgd : Hp.ge ds i = d := by
      unfold Hp.ge
      rw [List.getD_eq_getElem?_getD, hd]
      rfl
    have hul := optU_len ds f i
    have hul2 : i * (f.length + 2) ≤ 6 * 2002 := Nat.mul_le_mul (by omega) (by omega)
    -- the end of the turn
    have sm2 : Same H H2 := sm1.trans s2
    have hz2 : H2 z = some (.dK ks) := s2 _ _ hz1
    have keep : ∀ (H3 : Hp) (o : HO), Same H H3 → Same H (upd H3 z o) := fun H3 o sm b u e => by
      rw [upd_ne (ne_of_none e hz)]
      exact sm b u e
    have opt1 : Hp.optU ds f (i + 1) = Hp.optU ds f i ++ Hp.optAt f i d := by rw [optU_succ, hgd]
    have two : (0 : Int) < 2 := by decide
    have cd : ∀ x : Int, CDiv x 2 := fun x => ⟨by decide, by decide⟩
    have hdl : (Hp.optAt f i d).length ≤ 2002 := by have := optAt_len f i d; omega
    have putM : ∀ (H3 : Hp) (ks3 : List (Key × V)) (xs3 : List Nat) (t : Nat), Same H H3 → H3 z = some (.dK ks3) → Keys ks3 (xs3.map fun n : Nat => (n : Int)) → xs3.length ≤ 20000 →
        ∃ ks4, DPut H3 z (.int (t : Int)) (.bl true) (upd H3 z (.dK ks4)) ∧ Keys ks4 ((xs3 ++ [t]).map fun n : Nat => (n : Int)) ∧ Same H (upd H3 z (.dK ks4)) := by
      intro H3 ks3 xs3 t sm3 hz3 hk3 hl3
      refine ⟨_, DPut.k (k := Sum.inl (t : Int)) hz3 ?_, ?_, keep _ _ sm3⟩
      · have := hk3.len
        rw [List.length_map] at this
        exact Nat.lt_of_le_of_lt (Nat.le_trans this hl3) (by decide)
      · have := hk3.put (t : Int) (.bl true)
        rw [List.map_append]
        exact this
    refine ⟨_, rfl, _, rfl, _, _, rfl, rfl, _, _, rfl, rfl, ?_⟩
    -- if rest == 0
    refine ⟨fun σ' H3 => σ' = [some (.ref a), some (.ref p), some (.int (f.length : Int)), some (.ref z), some (.int (i : Int)), some (I d), some (.int ((f.length : Int) - (i : Int) - 1)), x7] ∧ ∃ ks3, Keys ks3 ((Hp.optU ds f i ++ (if f.length = i + 1 ∧ d % 2 = 1 then [0] else [])).map fun n : Nat => (n : Int)) ∧ H3 z = some (.dK ks3) ∧ Same H H3, ?_, ?_⟩
    · have e1 : ((f.length : Int) - (i : Int) - 1 = 0) = (f.length = i + 1) := propext ⟨fun h => by omega, fun h => by omega⟩
      have e2 : ((d : Int) % 2 = 1) = (d % 2 = 1) := propext ⟨fun h => by omega, fun h => by omega⟩
      simp only [tRet, tAndV, tOrV, tNotV, tAnd, tOr, tNot, tB, tTest, tCB, tCons, tNil, tVar, tC, L2.start, tOp, tUn, tIf, tIfS, tSeq, tAsg, gName, tNext, tNever, tPar, tDrop, tCall, tChain, rI, rI0, rU, rEq, rNe, scal, List.map, List.length, List.replicate, List.append, List.set, List.cons_append, List.nil_append, List.append_nil,
  List.getElem?_cons_zero, List.getElem?_cons_succ, List.set_cons_zero, List.set_cons_succ, Option.some.injEq, exists_eq_left', exists_eq_left, exists_eq_right, exists_eq_right', exists_and_left, V.int.injEq, V.bl.injEq, V.str.injEq, V.ref.injEq, List.cons.injEq, and_true, true_and, and_self, Nat.reduceAdd, Nat.reduceSub, Nat.sub_self, decide_eq_true_eq, Bool.not_eq_true', decide_eq_false_iff_not, ↓reduceIte, Bool.false_eq_true, TG.ex2_eq, TG.ex3_eq, TG.ex4_eq, e1, e2, two]
      by_cases c1 : f.length = i + 1
      · by_cases c2 : d % 2 = 1
        · rw [if_pos c1, if_pos c2, if_pos ⟨c1, c2⟩]
          obtain ⟨ks4, p4, k4, s4⟩ := putM H2 ks (Hp.optU ds f i) 0 sm2 hz2 hk (by omega)
          exact ⟨_, rfl, _, _, rfl, p4, rfl, ks4, k4, upd_same, s4⟩
        · rw [if_pos c1, if_neg c2, if_neg (fun h => c2 h.2), List.append_nil]
          exact ⟨ks, hk, hz2, sm2⟩
      · rw [if_neg c1, if_neg (fun h => c1 h.1), List.append_nil]
        exact ⟨ks, hk, hz2, sm2⟩
    rintro σ' H3 ⟨rfl, ks3, hk3, hz3, sm3⟩
    have l3 : (Hp.optU ds f i ++ (if f.length = i + 1 ∧ d % 2 = 1 then [0] else [])).length ≤ 6 * 2002 + 1 := by
      rw [List.length_append]
      split <;> simp <;> omega
    generalize hx3 : Hp.optU ds f i ++ (if f.length = i + 1 ∧ d % 2 = 1 then [0] else []) = xs3 at hk3 l3
    -- if rest > 0
    refine ⟨fun σ' H4 => σ' = [some (.ref a), some (.ref p), some (.int (f.length : Int)), some (.ref z), some (.int (i : Int)), some (I d), some (.int ((f.length : Int) - (i : Int) - 1)), x7] ∧ ∃ ks4, Keys ks4 ((xs3 ++ (if i + 1 < f.length ∧ d / 2 % 2 = 1 then [Hp.ge f (f.length - i - 1)] else [])).map fun n : Nat => (n : Int)) ∧ H4 z = some (.dK ks4) ∧ Same H H4, ?_, ?_⟩
    · have e1 : (0 < (f.length : Int) - (i : Int) - 1) = (i + 1 < f.length) := propext ⟨fun h => by omega, fun h => by omega⟩
      have e2 : ((d : Int) / 2 % 2 = 1) = (d / 2 % 2 = 1) := propext ⟨fun h => by omega, fun h => by omega⟩
      simp only [tRet, tAndV, tOrV, tNotV, tAnd, tOr, tNot, tB, tTest, tCB, tCons, tNil, tVar, tC, L2.start, tOp, tUn, tIf, tIfS, tSeq, tAsg, gName, tNext, tNever, tPar, tDrop, tCall, tChain, rI, rI0, rU, rEq, rNe, scal, List.map, List.length, List.replicate, List.append, List.set, List.cons_append, List.nil_append, List.append_nil,
  List.getElem?_cons_zero, List.getElem?_cons_succ, List.set_cons_zero, List.set_cons_succ, Option.some.injEq, exists_eq_left', exists_eq_left, exists_eq_right, exists_eq_right', exists_and_left, V.int.injEq, V.bl.injEq, V.str.injEq, V.ref.injEq, List.cons.injEq, and_true, true_and, and_self, Nat.reduceAdd, Nat.reduceSub, Nat.sub_self, decide_eq_true_eq, Bool.not_eq_true', decide_eq_false_iff_not, ↓reduceIte, Bool.false_eq_true, TG.ex2_eq, TG.ex3_eq, TG.ex4_eq, e1, e2, two, cd]
      by_cases c1 : i + 1 < f.length
      · by_cases c2 : d / 2 % 2 = 1
        · rw [if_pos c1, if_pos c2, if_pos ⟨c1, c2⟩]
          obtain ⟨ks4, p4, k4, s4⟩ := putM H3 ks3 xs3 (Hp.ge f (f.length - i - 1)) sm3 hz3 hk3 (by omega)
          have er : (f.length : Int) - (i : Int) - 1 = ((f.length - i - 1 : Nat) : Int) := by omega
          refine ⟨_, rfl, _, rfl, _, rfl, p, _, _, _, rfl, rfl, sqL sm3 hF, ?_, z, _, rfl, p4, rfl, ks4, k4, upd_same, s4⟩
          rw [er]
          exact at_ge (by omega)
        · rw [if_pos c1, if_neg c2, if_neg (fun h => c2 h.2), List.append_nil]
          exact ⟨ks3, hk3, hz3, sm3⟩
      · rw [if_neg c1, if_neg (fun h => c1 h.1), List.append_nil]
        exact ⟨ks3, hk3, hz3, sm3⟩
    rintro σ' H4 ⟨rfl, ks4, hk4, hz4, sm4⟩
    have l4 : (xs3 ++ (if i + 1 < f.length ∧ d / 2 % 2 = 1 then [Hp.ge f (f.length - i - 1)] else [])).length ≤ 6 * 2002 + 2 := by
      rw [List.length_append]
      split <;> simp <;> omega
    generalize hx4 : xs3 ++ (if i + 1 < f.length ∧ d / 2 % 2 = 1 then [Hp.ge f (f.length - i - 1)] else []) = xs4 at hk4 l4
    have opt2 : Hp.optU ds f (i + 1) = xs4 ++ (if 4 ≤ d then (List.range ((f.length - i - 1) / 2)).map fun p => Hp.ge f (p + 1) ^^^ Hp.ge f (f.length - i - 1 - (p + 1)) else []) := by
      rw [opt1, ← hx4, ← hx3]
      unfold Hp.optAt
      rw [List.append_assoc, List.append_assoc, List.append_assoc]
    -- if digit >= 4
    refine ⟨_, rfl, _, _, rfl, rfl, _, rfl, ?_⟩
    by_cases c4 : 4 ≤ d
    · rw [decide_eq_true (by omega : (4 : Int) ≤ (d : Int))]
      rw [if_pos c4] at opt2
      have er : ((f.length : Int) - (i : Int) - 1) / 2 + 1 - 1 = (((f.length : Int) - (i : Int) - 1) / 2) := by omega
      have en : (((f.length : Int) - (i : Int) - 1) / 2 + 1 - 1).toNat = (f.length - i - 1) / 2 := by omega
      refine iteT ⟨_, rfl, _, _, rfl, rfl, cd _, _, _, rfl, rfl, _, _, rfl, ⟨by decide, by decide, by omega, by omega⟩, ?_⟩
      rw [en]
      refine for_range (lo := 1) (n := (f.length - i - 1) / 2) (fun j σ' H5 => ∃ y7 ks5, σ' = [some (.ref a), some (.ref p), some (.int (f.length : Int)), some (.ref z), some (.int (i : Int)), some (I d), some (.int ((f.length : Int) - (i : Int) - 1)), y7] ∧ Keys ks5 ((xs4 ++ (List.range j).map fun p => Hp.ge f (p + 1) ^^^ Hp.ge f (f.length - i - 1 - (p + 1))).map fun n : Nat => (n : Int)) ∧ H5 z = some (.dK ks5) ∧ Same H H5) ?_ ?_ ?_
      · exact ⟨x7, ks4, rfl, by simpa using hk4, hz4, sm4⟩
      · rintro j σ' H5 hj ⟨y7, ks5, rfl, hk5, hz5, sm5⟩
        obtain ⟨ks6, p6, k6, s6⟩ := putM H5 ks5 _ (Hp.ge f (j + 1) ^^^ Hp.ge f (f.length - i - 1 - (j + 1))) sm5 hz5 hk5 (by rw [List.length_append, List.length_map, List.length_range]; omega)
        have a1 : atI (f.map I) (1 + (j : Int)) = some (I (Hp.ge f (j + 1))) := by
          rw [show (1 : Int) + (j : Int) = ((j + 1 : Nat) : Int) by omega]
          exact at_ge (by omega)
        have a2 : atI (f.map I) ((f.length : Int) - (i : Int) - 1 - (1 + (j : Int))) = some (I (Hp.ge f (f.length - i - 1 - (j + 1)))) := by
          rw [show (f.length : Int) - (i : Int) - 1 - (1 + (j : Int)) = ((f.length - i - 1 - (j + 1) : Nat) : Int) by omega]
          exact at_ge (by omega)
        rw [← xorI] at p6
        refine ⟨_, rfl, _, rfl, _, rfl, p, _, _, _, rfl, rfl, sqL sm5 hF, a1, _, rfl, _, rfl, _, rfl, _, _, rfl, rfl, p, _, _, _, rfl, rfl, sqL sm5 hF, a2, _, _, rfl, rfl, z, _, rfl, p6, _, ks6, rfl, ?_, upd_same, s6⟩
        have eL : xs4 ++ (List.range (j + 1)).map (fun p => Hp.ge f (p + 1) ^^^ Hp.ge f (f.length - i - 1 - (p + 1))) = xs4 ++ (List.range j).map (fun p => Hp.ge f (p + 1) ^^^ Hp.ge f (f.length - i - 1 - (p + 1))) ++ [Hp.ge f (j + 1) ^^^ Hp.ge f (f.length - i - 1 - (j + 1))] := by
          rw [List.range_succ, List.map_append, List.append_assoc]
          rfl
        rw [eL]
        exact k6
      · rintro σ' H5 ⟨y7, ks5, rfl, hk5, hz5, sm5⟩
        rw [← opt2] at hk5
        exact ⟨ks5, _, _, _, _, rfl, hk5, hz5, sm5⟩
    · rw [decide_eq_false (by omega : ¬ (4 : Int) ≤ (d : Int))]
      rw [if_neg c4, List.append_nil] at opt2
      refine iteF ?_
      rw [← opt2] at hk4
      exact ⟨ks4, _, _, _, _, rfl, hk4, hz4, sm4⟩
  · rintro σ' H' ⟨ks, x4, x5, x6, x7, rfl, hk, hz1, sm1⟩
    rw [List.length_map] at hk
    refine ⟨_, rfl, z, ks, _, rfl, hz1, hk, ?_⟩
    exact q H' sm1
/-! ### values_to -/
def spTo (K : PySem.W.Frag) : Sp := fun vs H Q _ => ∃ (a : Addr) (n : Nat) (ds : List Nat), vs = [.ref a, .int (n : Int)] ∧ SqT K H a (ds.map I) ∧ ds.length ≤ 6 ∧ n ≤ 1500 ∧ ∀ p H', Same H H' → H p = none → H' p = some (.lst ((vals ds n).map I)) → Q (.ref p) H'
theorem ok_values_to {k : Nat} (T : Txt K mg) (G_value_after : FnOk P w K mg base CX0 k T.a_value_after T.d_value_after ["rule", "found"] (spAfter K)) : FnOk P w K mg base CX0 (k + 1) T.a_values_to T.d_values_to ["rule", "count"] (spTo K) := by
  refine T.F_values_to.ok sc_values_to (fun vs H Q E h => ?_) (fun cdv A outer s H vs Q E hr h => ?_)
  · obtain ⟨a, n, ds, rfl, _⟩ := h
    rfl
  obtain ⟨a, n, ds, rfl, hS, l6, hn, q⟩ := h
  refine ⟨_, (pss_cons (ps_set (i := 2) sc_values_to.nd rfl (Or.inl rfl) (pe_lst (pa_cons pe_int pa_nil)))
  (pss_cons (ps_while PassesOwn.never (pt_cmpR op_le (pe_callB (call_lenK (K := K) rfl) rfl T.m_len PySem.boot_len (pa_cons (pv 2) pa_nil)) (pv 1) (nomark _))
  (pss_one (ps_expr (pe_bmK (K := K) rfl PySem.F.plainAttrs_list PySem.F.slot_list_append PySem.F.type_list_append mt_append (pv 2) (pa_cons (pe_call G_value_after hr rfl T.g_value_after T.F_value_after.kp T.b_value_after .nil pass0 (pa_cons (pv 0) (pa_cons (pv 2) pa_nil))) pa_nil)))))
  (pss_one (ps_ret (pv 2))))), ?_⟩
  refine ⟨by decide, fun p hp => ?_⟩
  refine ⟨fun m σ' H' => ∃ j, j ≤ n ∧ m + j = n ∧ σ' = [some (.ref a), some (.int (n : Int)), some (.ref p)] ∧ H' p = some (.lst ((vals ds j).map I)) ∧ Same H H', ⟨n, 0, Nat.zero_le _, rfl, rfl, upd_same, same_new hp _⟩, ?_⟩
  rintro m σ' H' ⟨j, hj, hm, rfl, hp1, sm⟩
  have hlen : ((((vals ds j).map I).length : Nat) : Int) = ((j + 1 : Nat) : Int) := by rw [List.length_map, Hp.vals_len]
  refine ⟨_, rfl, p, _, rfl, .inl (SqL.of hp1), _, rfl, _, _, rfl, rfl, _, rfl, ?_⟩
  rw [hlen]
  by_cases c : j + 1 ≤ n
  · rw [decide_eq_true (by omega : ((j + 1 : Nat) : Int) ≤ (n : Int))]
    refine iteT ⟨fun σ2 H2 => σ2 = [some (.ref a), some (.int (n : Int)), some (.ref p)] ∧ H2 p = some (.lst ((vals ds (j + 1)).map I)) ∧ Same H H2, fun σ2 H2 z => ⟨m - 1, by omega, j + 1, c, by omega, z.1, z.2.1, z.2.2⟩, ?_⟩
    refine ⟨_, rfl, .inl ⟨rfl, _, SqL.of hp1⟩, _, rfl, _, rfl, a, p, ds, vals ds j, rfl, sqT sm hS, SqL.of hp1, l6, ?_, ?_, fun H2 s2 => ?_⟩
    · rw [Hp.vals_len]; omega
    · rw [Hp.vals_len]; omega
    refine ⟨p, _, _, rfl, rfl, s2 _ _ hp1, ?_, rfl, ?_, ?_⟩
    · rw [List.length_map, Hp.vals_len]
      exact Nat.lt_of_le_of_lt (by omega : j + 1 ≤ 1500) (by decide)
    · rw [upd_same, vals_succ, List.map_append]
      rfl
    · intro b u e
      rw [upd_ne (ne_of_none e hp)]
      exact s2 _ _ (sm b u e)
  · rw [decide_eq_false (by omega : ¬ ((j + 1 : Nat) : Int) ≤ (n : Int))]
    refine iteF ⟨_, rfl, ?_⟩
    have e : j = n := by omega
    rw [e] at hp1
    exact q p H' sm hp hp1
/-! ### heap_values -/
def spHV (K : PySem.W.Frag) : Sp := fun vs H Q _ => ∃ (a : Addr) (n : Nat) (ds : List Nat), vs = [.ref a, .int (n : Int)] ∧ SqT K H a (ds.map I) ∧ RuleOk ds ∧ n ≤ 400 ∧ ∀ p H', Same H H' → H p = none → H' p = some (.tup ((vals ds n).map I)) → Q (.ref p) H'
theorem ok_heap_values {k : Nat} (T : Txt K mg) (G_need_rule : FnOk P w K mg base CX0 k T.a_need_rule T.d_need_rule ["value"] (spRule K)) (G_need_number : FnOk P w K mg base CX0 k T.a_need_number T.d_need_number ["value", "least", "most"] spNeed)
    (G_values_to : FnOk P w K mg base CX0 k T.a_values_to T.d_values_to ["rule", "count"] (spTo K)) : FnOk P w K mg base CX0 (k + 1) T.a_heap_values T.d_heap_values ["rule", "count"] (spHV K) := by
  refine T.F_heap_values.ok sc_heap_values (fun vs H Q E h => ?_) (fun cdv A outer s H vs Q E hr h => ?_)
  · obtain ⟨a, n, ds, rfl, _⟩ := h
    rfl
  obtain ⟨a, n, ds, rfl, hS, hR, hn, q⟩ := h
  refine ⟨_, (pss_cons (ps_expr (pe_call G_need_rule hr rfl T.g_need_rule T.F_need_rule.kp T.b_need_rule .nil pass0 (pa_cons (pv 0) pa_nil)))
  (pss_cons (ps_expr (pe_call G_need_number hr rfl T.g_need_number T.F_need_number.kp T.b_need_number .nil pass0 (pa_cons (pv 1) (pa_cons pe_int (pa_cons (pe_glob (v := .int 400) rfl T.c_MOST_COUNT ⟨_, rfl⟩) pa_nil)))))
  (pss_one (ps_ret (pe_callTy (call_tuple_ofK (K := K) rfl) rfl T.m_tuple (by decide +kernel) (pa_cons (pe_call G_values_to hr rfl T.g_values_to T.F_values_to.kp T.b_values_to .nil pass0 (pa_cons (pv 0) (pa_cons (pv 1) pa_nil))) pa_nil)))))), ?_⟩
  refine ⟨_, rfl, a, ds, rfl, hS, hR, fun H1 s1 => ?_⟩
  refine ⟨_, rfl, _, _, _, rfl, ⟨by omega, by omega⟩, ?_⟩
  refine ⟨_, rfl, _, rfl, a, n, ds, rfl, sqT s1 hS, hR.l6, by omega, fun p H2 s2 hp h2 => ?_⟩
  refine ⟨p, _, rfl, .inl ⟨SqL.of h2, fun l hl => ?_⟩⟩
  exact q l _ ((s1.trans s2).trans (same_new hl _)) ((s1.trans s2).free hl) upd_same
end
end K58


set_option Elab.async false
set_option linter.all false
set_option maxRecDepth 100000
set_option maxHeartbeats 4000000
namespace K58
open PySem L2 TG
/-- the period holds as far as it is looked at -/
def Shows (ds : List Nat) (l s : Nat) : Prop := ∀ n, s ≤ n → n ≤ 2 * s + 2 * l + ds.length → g ds n = g ds (n + l)
theorem Shows.ever {ds : List Nat} {l s : Nat} (hl : 1 ≤ l) (h : Shows ds l s) : ∀ n, s ≤ n → g ds n = g ds (n + l) := Hp.period mexN mexN_ok ds hl h
section
variable {P : Program} {w : World} {K : PySem.W.Frag} {mg : Str → Option Value} {base : Heap}
def spEnd (K : PySem.W.Frag) : Sp := fun vs H Q _ => ∃ (a : Addr) (s l : Int) (ds : List Nat), vs = [.ref a, .int s, .int l] ∧ SqT K H a (ds.map I) ∧ Q (.int (2 * s + 2 * l + (ds.length : Int))) H
theorem ok_end_of {k : Nat} (T : Txt K mg) : FnOk P w K mg base CX0 (k + 1) T.a_end_of T.d_end_of ["rule", "start", "length"] (spEnd K) := by
  refine T.F_end_of.ok sc_end_of (fun vs H Q E h => ?_) (fun cdv A outer s H vs Q E hr h => ?_)
  · obtain ⟨a, s, l, ds, rfl, _⟩ := h
    rfl
  obtain ⟨a, s, l, ds, rfl, hS, q⟩ := h
  refine ⟨_, (pss_one (ps_ret (pe_op op_add (pe_op op_add (pe_op op_mul pe_int (pv 1)) (pe_op op_mul pe_int (pv 2))) (pe_callB (call_lenK (K := K) rfl) rfl T.m_len PySem.boot_len (pa_cons (pv 0) pa_nil))))), ?_⟩
  have c2 : ∀ x : Int, CMul 2 x := fun x => .inl ⟨by decide, by decide⟩
  refine ⟨_, rfl, _, _, rfl, rfl, c2 _, _, rfl, _, _, rfl, rfl, c2 _, _, _, rfl, rfl, _, rfl, a, _, rfl, .inr hS, _, _, rfl, rfl, ?_⟩
  rw [List.length_map]
  exact q
theorem at_val {ds : List Nat} {n i : Nat} (h : i ≤ n) : atI ((vals ds n).map I) ((i : Nat) : Int) = some (I (g ds i)) := by
  rw [at_ge (by rw [Hp.vals_len]; omega)]
  exact congrArg (fun x => some (I x)) (Hp.vals_get mexN ds n i h)
theorem dec_I (a b : Nat) : decide (I a = I b) = decide (a = b) := by
  by_cases h : a = b
  · subst h
    simp
  · rw [decide_eq_false h]
    refine decide_eq_false fun z => h ?_
    have := V.int.inj z
    omega
/-! ### shows_period -/
def spShows (K : PySem.W.Frag) : Sp := fun vs H Q _ => ∃ (a p : Addr) (ds : List Nat) (s l : Nat), vs = [.ref a, .ref p] ∧ SqT K H a (ds.map I) ∧ RuleOk ds ∧ SqT K H p [I s, I l] ∧ s ≤ 200 ∧ 1 ≤ l ∧ l ≤ 100 ∧ ∀ (b : Bool) H', (b = true ↔ Shows ds l s) → Same H H' → Q (.bl b) H'
theorem ok_shows_period {k : Nat} (T : Txt K mg) (G_need_rule : FnOk P w K mg base CX0 k T.a_need_rule T.d_need_rule ["value"] (spRule K)) (G_is_in : FnOk P w K mg base CX0 k T.a_is_in T.d_is_in ["value", "least", "most"] spIsIn)
    (G_end_of : FnOk P w K mg base CX0 k T.a_end_of T.d_end_of ["rule", "start", "length"] (spEnd K)) (G_values_to : FnOk P w K mg base CX0 k T.a_values_to T.d_values_to ["rule", "count"] (spTo K)) : FnOk P w K mg base CX0 (k + 1) T.a_shows_period T.d_shows_period ["rule", "period"] (spShows K) := by
  refine T.F_shows_period.ok sc_shows_period (fun vs H Q E h => ?_) (fun cdv A outer s H vs Q E hr h => ?_)
  · obtain ⟨a, p, ds, s, l, rfl, _⟩ := h
    rfl
  obtain ⟨a, p, ds, s, l, rfl, hS, hR, hP, hs, hl1, hl2, q⟩ := h
  refine ⟨_, (pss_cons (ps_expr (pe_call G_need_rule hr rfl T.g_need_rule T.F_need_rule.kp T.b_need_rule .nil pass0 (pa_cons (pv 0) pa_nil)))
  (pss_cons (ps_if (PW.pt (pw_or (pt_not (pt_val (pe_callB (call_isiG (K := K) rfl) rfl T.m_isinstance (by decide +kernel) (pa_cons (pv 1) (pa_cons (pe_bltn (v := .ty "tuple") (u := .type "tuple") rfl T.m_tuple (by decide +kernel) rfl) pa_nil))))) (pw_or1 (pt_cmpR op_ne (pe_callB (call_lenK (K := K) rfl) rfl T.m_len PySem.boot_len (pa_cons (pv 1) pa_nil)) pe_int (nomark _)))))
  (pss_one ps_never)
  pss_nil)
  (pss_cons (ps_if (PW.pt (pw_or (pt_not (pt_val (pe_call G_is_in hr rfl T.g_is_in T.F_is_in.kp T.b_is_in .nil pass0 (pa_cons (pe_ix (ix_tupK (K := K) rfl) (pv 1) pe_int (fun _ _ => rfl)) (pa_cons pe_int (pa_cons (pe_glob (v := .int 200) rfl T.c_MOST_START ⟨_, rfl⟩) pa_nil)))))) (pw_or1 (pt_not (pt_val (pe_call G_is_in hr rfl T.g_is_in T.F_is_in.kp T.b_is_in .nil pass0 (pa_cons (pe_ix (ix_tupK (K := K) rfl) (pv 1) pe_int (fun _ _ => rfl)) (pa_cons pe_int (pa_cons (pe_glob (v := .int 100) rfl T.c_MOST_LENGTH ⟨_, rfl⟩) pa_nil)))))))))
  (pss_one ps_never)
  pss_nil)
  (pss_cons (ps_asg (pv 1) (pg_tupK (K := K) (n := 2) rfl rfl (pgs_cons (pg_name (i := 2) sc_shows_period.nd rfl (Or.inl rfl)) (pgs_cons (pg_name (i := 3) sc_shows_period.nd rfl (Or.inr rfl)) pgs_nil))))
  (pss_cons (ps_set (i := 4) sc_shows_period.nd rfl (Or.inl rfl) (pe_call G_end_of hr rfl T.g_end_of T.F_end_of.kp T.b_end_of .nil pass0 (pa_cons (pv 0) (pa_cons (pv 2) (pa_cons (pv 3) pa_nil)))))
  (pss_cons (ps_set (i := 5) sc_shows_period.nd rfl (Or.inr rfl) (pe_call G_values_to hr rfl T.g_values_to T.F_values_to.kp T.b_values_to .nil pass0 (pa_cons (pv 0) (pa_cons (pe_op op_add (pv 4) (pv 3)) pa_nil))))
  (pss_one (ps_ret (pe_callB (cr_allK (K := K) rfl rfl) rfl T.m_all (by decide +kernel) (pa_cons (pe_lc (own := [("size", 6)]) rfl sc_shows_period.nd (pi_range2 rfl T.m_range (pa_cons (pv 2) (pa_cons (pe_op op_add (pv 4) pe_int) pa_nil))) (blkOk_by (N := ["rule", "period", "start", "length", "last", "values", "size"]) (sc := defScope s_shows_period) (by decide +kernel)) (fun _ _ _ _ _ => (pg_name (i := 6) sc_shows_period.nd rfl (Or.inl rfl))) (fun _ _ _ _ _ => pts_nil) (fun _ _ _ _ _ => (pe_cmpR op_eq (pe_ix (ix_listK (K := K) rfl) (pv 5) (pv 6) (fun _ _ => rfl)) (pe_ix (ix_listK (K := K) rfl) (pv 5) (pe_op op_add (pv 6) (pv 3)) (fun _ _ => rfl)) (nomark _)))) pa_nil)))))))))), ?_⟩
  have l6 := hR.l6
  refine ⟨_, rfl, a, ds, rfl, hS, hR, fun H1 s1 => ?_⟩
  have hP1 := sqT s1 hP
  have hS1 := sqT s1 hS
  refine ⟨_, rfl, _, _, _, _, rfl, TyN.tup hP1, kit_tuple_tuple, _, rfl, iteF ?_⟩
  refine ⟨_, rfl, p, _, rfl, .inr hP1, rfl, _, rfl, iteF ?_⟩
  dsimp only [tNext]
  refine ⟨_, rfl, p, _, 0, _, rfl, rfl, hP1, rfl, _, _, _, rfl, _, rfl, ?_⟩
  rw [decide_eq_true (by omega), decide_eq_true (by omega)]
  refine iteF ?_
  refine ⟨_, rfl, p, _, 1, _, rfl, rfl, hP1, rfl, _, _, _, rfl, _, rfl, ?_⟩
  rw [decide_eq_true (by omega), decide_eq_true (by omega)]
  refine iteF ?_
  dsimp only [tNext]
  -- start, length = period
  refine ⟨_, rfl, p, _, rfl, hP1, rfl, _, _, rfl, _, _, rfl, rfl, ?_⟩
  -- last, values
  refine ⟨_, rfl, _, rfl, _, rfl, a, _, _, ds, rfl, hS1, ?_⟩
  refine ⟨_, rfl, _, rfl, _, rfl, _, _, rfl, rfl, a, 2 * s + 2 * l + ds.length + l, ds, ?_, hS1, l6, by omega, fun vp H2 s2 hv h2 => ?_⟩
  · show [V.ref a, V.int (2 * (s : Int) + 2 * (l : Int) + (ds.length : Int) + (l : Int))] = _
    rw [show (2 * (s : Int) + 2 * (l : Int) + (ds.length : Int) + (l : Int)) = ((2 * s + 2 * l + ds.length + l : Nat) : Int) by omega]
  dsimp only [gName]
  refine go_ret (go_cb (go_cons ?_))
  refine el_lcR2 (lo := (s : Int)) (hi := 2 * (s : Int) + 2 * (l : Int) + (ds.length : Int) + 1) (fun _ => true) (fun i => .bl (decide (g ds (s + i) = g ds (s + i + l)))) ?_ ?_ ?_ ?_ ?_ H2 (Evl.Ex.refl H2) _ ?_
  · intro H3 e3 Q3 q3
    exact ⟨_, rfl, _, rfl, _, _, rfl, rfl, q3 H3 (Evl.Ex.refl H3)⟩
  · omega
  · intro x
    rfl
  · intro i H3 e3 _ H4 e4 Q4 q4
    exact q4 H4 (Evl.Ex.refl H4)
  · intro i H3 e3 hi _ H4 e4 Q4 q4
    have e1 : (s : Int) + (i : Int) = ((s + i : Nat) : Int) := by omega
    have e2 : (s : Int) + (i : Int) + (l : Int) = ((s + i + l : Nat) : Int) := by omega
    refine ⟨_, rfl, _, rfl, vp, _, _, I (g ds (s + i)), rfl, rfl, SqL.of (e4 _ _ (e3 _ _ h2)), ?_, _, rfl, _, rfl, _, rfl, _, _, rfl, rfl, vp, _, _, I (g ds (s + i + l)), rfl, rfl, SqL.of (e4 _ _ (e3 _ _ h2)), ?_, rfl, ?_⟩
    · rw [e1]
      exact at_val (by omega)
    · rw [e2]
      exact at_val (by omega)
    · rw [dec_I]
      exact q4 H4 (Evl.Ex.refl H4)
  · intro D1 H3 hD e3 h3
    have hn : (2 * (s : Int) + 2 * (l : Int) + (ds.length : Int) + 1 - (s : Int)).toNat = s + 2 * l + ds.length + 1 := by omega
    rw [hn, given_all] at h3
    have hm : (List.range (s + 2 * l + ds.length + 1)).map (fun i => V.bl (decide (g ds (s + i) = g ds (s + i + l)))) = ((List.range (s + 2 * l + ds.length + 1)).map fun i => decide (g ds (s + i) = g ds (s + i + l))).map V.bl := by
      rw [List.map_map]
      rfl
    rw [hm] at h3
    refine ⟨D1, _, rfl, SqL.of h3, ?_⟩
    refine q _ H3 ?_ ((s1.trans s2).trans e3)
    rw [List.all_map, List.all_eq_true]
    constructor
    · intro h n h1 h2
      have := h (n - s) (List.mem_range.mpr (by omega))
      simp only [Function.comp, id, decide_eq_true_eq] at this
      rw [show s + (n - s) = n by omega] at this
      exact this
    · intro h i hi
      have hi' := List.mem_range.mp hi
      simp only [Function.comp, id, decide_eq_true_eq]
      exact h (s + i) (by omega) (by omega)
/-! ### least_start -/
def spLeast (K : PySem.W.Frag) : Sp := fun vs H Q _ => ∃ (a p : Addr) (ds : List Nat) (l : Nat), vs = [.ref a, .ref p, .int (l : Int)] ∧ SqT K H a (ds.map I) ∧ ds.length ≤ 6 ∧ SqL K H p ((vals ds (700 + ds.length)).map I) ∧ 1 ≤ l ∧ l ≤ 100 ∧
  (∀ s : Nat, s ≤ 200 → Shows ds l s → (∀ s', s' < s → ¬ Shows ds l s') → Q (.int (s : Int)) H) ∧ ((∀ s, s ≤ 200 → ¬ Shows ds l s) → Q .non H)
theorem ok_least_start {k : Nat} (T : Txt K mg) (G_end_of : FnOk P w K mg base CX0 k T.a_end_of T.d_end_of ["rule", "start", "length"] (spEnd K)) : FnOk P w K mg base CX0 (k + 1) T.a_least_start T.d_least_start ["rule", "values", "length"] (spLeast K) := by
  refine T.F_least_start.ok sc_least_start (fun vs H Q E h => ?_) (fun cdv A outer s H vs Q E hr h => ?_)
  · obtain ⟨a, p, ds, l, rfl, _⟩ := h
    rfl
  obtain ⟨a, p, ds, l, rfl, hS, l6, hV, hl1, hl2, q1, q2⟩ := h
  refine ⟨_, (pss_cons (ps_set (i := 3) sc_least_start.nd rfl (Or.inl rfl) pe_int)
  (pss_cons (ps_for PassesOwn.never rfl (pi_range1 rfl T.m_range (pa_cons (pe_op op_sub (pe_callB (call_lenK (K := K) rfl) rfl T.m_len PySem.boot_len (pa_cons (pv 1) pa_nil)) (pv 2)) pa_nil)) (pg_name (i := 4) sc_least_start.nd rfl (Or.inl rfl))
  (pss_one (ps_if (pt_cmpR op_ne (pe_ix (ix_listK (K := K) rfl) (pv 1) (pv 4) (fun _ _ => rfl)) (pe_ix (ix_listK (K := K) rfl) (pv 1) (pe_op op_add (pv 4) (pv 2)) (fun _ _ => rfl)) (nomark _))
  (pss_cons (ps_if (pt_cmpR op_gt (pv 4) (pe_call G_end_of hr rfl T.g_end_of T.F_end_of.kp T.b_end_of .nil pass0 (pa_cons (pv 0) (pa_cons (pv 3) (pa_cons (pv 2) pa_nil)))) (nomark _))
  (pss_one (ps_ret (pv 3)))
  pss_nil)
  (pss_cons (ps_set (i := 3) sc_least_start.nd rfl (Or.inl rfl) (pe_op op_add (pv 4) pe_int))
  (pss_one (ps_if (pt_cmpR op_gt (pv 3) (pe_glob (v := .int 200) rfl T.c_MOST_START ⟨_, rfl⟩) (nomark _))
  (pss_one (ps_ret pe_non))
  pss_nil))))
  pss_nil)))
  (pss_one (ps_ret (pv 3))))), ?_⟩
  have hlen : ((((vals ds (700 + ds.length)).map I).length : Nat) : Int) = ((701 + ds.length : Nat) : Int) := by
    rw [List.length_map, Hp.vals_len]
    congr 1
    omega
  refine ⟨_, rfl, p, _, rfl, .inl hV, _, rfl, _, _, rfl, rfl, _, rfl, ?_⟩
  rw [hlen]
  have hn : (((701 + ds.length : Nat) : Int) - (l : Int)).toNat = 701 + ds.length - l := by omega
  refine ⟨by omega, by omega, ?_⟩
  rw [hn]
  refine for_range (lo := 0) (n := 701 + ds.length - l) (fun i σ' H' => ∃ (s : Nat) (x4 : Option V), σ' = [some (.ref a), some (.ref p), some (.int (l : Int)), some (.int (s : Int)), x4] ∧ H' = H ∧ s ≤ i ∧ s ≤ 200 ∧ (∀ n, s ≤ n → n < i → g ds n = g ds (n + l)) ∧ ∀ s', s' < s → ¬ Shows ds l s') ?_ ?_ ?_
  · exact ⟨0, none, rfl, rfl, Nat.le_refl _, Nat.zero_le _, fun n _ h => by omega, fun s' h => by omega⟩
  · rintro i σ' H' hi ⟨s, x4, rfl, rfl, hsi, hs2, hok, hno⟩
    rw [Int.zero_add]
    have e2 : (i : Int) + (l : Int) = ((i + l : Nat) : Int) := by omega
    refine ⟨_, rfl, _, rfl, p, _, _, I (g ds i), rfl, rfl, hV, at_val (by omega), _, rfl, _, rfl, _, rfl, _, _, rfl, rfl, p, _, _, I (g ds (i + l)), rfl, rfl, hV, ?_, rfl, _, rfl, ?_⟩
    · rw [e2]
      exact at_val (by omega)
    rw [dec_I]
    by_cases c : g ds i = g ds (i + l)
    · rw [decide_eq_true c]
      refine iteF ?_
      refine ⟨s, _, rfl, rfl, by omega, hs2, fun n h1 h2 => ?_, hno⟩
      by_cases e : n = i
      · rw [e]; exact c
      · exact hok n h1 (by omega)
    · rw [decide_eq_false c]
      refine iteT ?_
      refine ⟨_, rfl, _, rfl, _, rfl, _, rfl, a, _, _, ds, rfl, hS, _, _, rfl, rfl, _, rfl, ?_⟩
      by_cases c2 : 2 * s + 2 * l + ds.length < i
      · rw [decide_eq_true (by omega)]
        refine iteT ⟨_, rfl, ?_⟩
        exact q1 s hs2 (fun n h1 h2 => hok n h1 (by omega)) hno
      · rw [decide_eq_false (by omega)]
        refine iteF ?_
        have hno' : ∀ s', s' < i + 1 → ¬ Shows ds l s' := fun s' h hsh => by
          by_cases cs : s' < s
          · exact hno s' cs hsh
          · exact c (hsh i (by omega) (by omega))
        refine ⟨_, rfl, _, _, rfl, rfl, _, rfl, _, _, rfl, rfl, _, rfl, ?_⟩
        by_cases c3 : 200 < i + 1
        · rw [decide_eq_true (by omega)]
          refine iteT ?_
          exact q2 fun s' h => hno' s' (by omega)
        · rw [decide_eq_false (by omega)]
          refine iteF ?_
          exact ⟨i + 1, _, rfl, rfl, Nat.le_refl _, by omega, fun n h1 h2 => by omega, hno'⟩
  · rintro σ' H' ⟨s, x4, rfl, rfl, hsi, hs2, hok, hno⟩
    refine ⟨_, rfl, ?_⟩
    exact q1 s hs2 (fun n h1 h2 => hok n h1 (by omega)) hno
/-! ### period_of -/
def spPeriod (K : PySem.W.Frag) : Sp := fun vs H Q _ => ∃ (a : Addr) (ds : List Nat), vs = [.ref a] ∧ SqT K H a (ds.map I) ∧ RuleOk ds ∧
  (∀ (s l : Nat) (p : Addr) (H' : Hp), 1 ≤ l → l ≤ 100 → s ≤ 200 → Shows ds l s → (∀ s', s' < s → ¬ Shows ds l s') → (∀ l' s', 1 ≤ l' → l' < l → s' ≤ 200 → ¬ Shows ds l' s') → Same H H' → H p = none → H' p = some (.tup [I s, I l]) → Q (.ref p) H') ∧
  ∀ H', (∀ l' s', 1 ≤ l' → l' ≤ 100 → s' ≤ 200 → ¬ Shows ds l' s') → Same H H' → Q .non H'
theorem ok_period_of {k : Nat} (T : Txt K mg) (G_need_rule : FnOk P w K mg base CX0 k T.a_need_rule T.d_need_rule ["value"] (spRule K)) (G_end_of : FnOk P w K mg base CX0 k T.a_end_of T.d_end_of ["rule", "start", "length"] (spEnd K))
    (G_values_to : FnOk P w K mg base CX0 k T.a_values_to T.d_values_to ["rule", "count"] (spTo K)) (G_least_start : FnOk P w K mg base CX0 k T.a_least_start T.d_least_start ["rule", "values", "length"] (spLeast K)) : FnOk P w K mg base CX0 (k + 1) T.a_period_of T.d_period_of ["rule"] (spPeriod K) := by
  refine T.F_period_of.ok sc_period_of (fun vs H Q E h => ?_) (fun cdv A outer s H vs Q E hr h => ?_)
  · obtain ⟨a, ds, rfl, _⟩ := h
    rfl
  obtain ⟨a, ds, rfl, hS, hR, q1, q2⟩ := h
  have l6 := hR.l6
  refine ⟨_, (pss_cons (ps_expr (pe_call G_need_rule hr rfl T.g_need_rule T.F_need_rule.kp T.b_need_rule .nil pass0 (pa_cons (pv 0) pa_nil)))
  (pss_cons (ps_set (i := 1) sc_period_of.nd rfl (Or.inl rfl) (pe_call G_values_to hr rfl T.g_values_to T.F_values_to.kp T.b_values_to .nil pass0 (pa_cons (pv 0) (pa_cons (pe_op op_add (pe_call G_end_of hr rfl T.g_end_of T.F_end_of.kp T.b_end_of .nil pass0 (pa_cons (pv 0) (pa_cons (pe_glob (v := .int 200) rfl T.c_MOST_START ⟨_, rfl⟩) (pa_cons (pe_glob (v := .int 100) rfl T.c_MOST_LENGTH ⟨_, rfl⟩) pa_nil)))) (pe_glob (v := .int 100) rfl T.c_MOST_LENGTH ⟨_, rfl⟩)) pa_nil))))
  (pss_cons (ps_for PassesOwn.never rfl (pi_range2 rfl T.m_range (pa_cons pe_int (pa_cons (pe_op op_add (pe_glob (v := .int 100) rfl T.c_MOST_LENGTH ⟨_, rfl⟩) pe_int) pa_nil))) (pg_name (i := 2) sc_period_of.nd rfl (Or.inl rfl))
  (pss_cons (ps_set (i := 3) sc_period_of.nd rfl (Or.inl rfl) (pe_call G_least_start hr rfl T.g_least_start T.F_least_start.kp T.b_least_start .nil pass0 (pa_cons (pv 0) (pa_cons (pv 1) (pa_cons (pv 2) pa_nil)))))
  (pss_one (ps_if (pt_cmpR op_notN (pv 3) pe_non (nomark _))
  (pss_one (ps_ret (pe_tup (pa_cons (pv 3) (pa_cons (pv 2) pa_nil)))))
  pss_nil))))
  (pss_one (ps_ret pe_non))))), ?_⟩
  refine ⟨_, rfl, a, ds, rfl, hS, hR, fun H1 s1 => ?_⟩
  have hS1 := sqT s1 hS
  refine ⟨_, rfl, _, rfl, a, _, _, ds, rfl, hS1, _, _, rfl, rfl, a, 700 + ds.length, ds, ?_, hS1, l6, by omega, fun vp H2 s2 hv h2 => ?_⟩
  · show [V.ref a, V.int (2 * (200 : Int) + 2 * (100 : Int) + (ds.length : Int) + 100)] = _
    rw [show (2 * (200 : Int) + 2 * (100 : Int) + (ds.length : Int) + 100) = ((700 + ds.length : Nat) : Int) by omega]
  have hS2 := sqT s2 hS1
  refine ⟨_, _, rfl, rfl, _, _, rfl, ⟨by decide, by decide, by decide, by decide⟩, for_range (lo := 1) (n := 100) (fun i σ' H' => ∃ x2 x3, σ' = [some (.ref a), some (.ref vp), x2, x3] ∧ H' = H2 ∧ ∀ l' s', 1 ≤ l' → l' < i + 1 → s' ≤ 200 → ¬ Shows ds l' s') ?_ ?_ ?_⟩
  · exact ⟨none, none, rfl, rfl, fun l' s' h1 h2 => by omega⟩
  · rintro i σ' H' hi ⟨x2, x3, rfl, rfl, hno⟩
    have e1 : (1 : Int) + (i : Int) = ((i + 1 : Nat) : Int) := by omega
    rw [e1]
    refine ⟨_, rfl, _, rfl, _, rfl, a, vp, ds, i + 1, rfl, hS2, l6, SqL.of h2, by omega, by omega, fun s hs hsh hmin => ?_, fun hnone => ?_⟩
    · refine ⟨_, rfl, rfl, _, rfl, iteT ?_⟩
      refine ⟨_, rfl, _, rfl, by show 2 ≤ sizeLine; decide, fun t ht => ?_⟩
      exact q1 s (i + 1) t _ (by omega) (by omega) hs hsh hmin hno ((s1.trans s2).trans (same_new ht _)) ((s1.trans s2).free ht) upd_same
    · refine ⟨_, rfl, rfl, _, rfl, iteF ?_⟩
      refine ⟨_, _, rfl, rfl, fun l' s' h1 h2 h3 => ?_⟩
      by_cases e : l' = i + 1
      · rw [e]
        exact hnone s' h3
      · exact hno l' s' h1 (by omega) h3
  · rintro σ' H' ⟨x2, x3, rfl, rfl, hno⟩
    exact q2 _ (fun l' s' h1 h2 h3 => hno l' s' h1 (by omega) h3) (s1.trans s2)
end
end K58


set_option Elab.async false
set_option linter.all false
set_option maxRecDepth 100000
set_option maxHeartbeats 4000000
namespace K58
open PySem L2 TG
section
variable {P : Program} {w : World} {K : PySem.W.Frag} {mg : Str → Option Value} {base : Heap}
def xorH (ds : List Nat) (x : List Nat) : Nat := x.foldl (fun t h => t ^^^ g ds h) 0
def spWins (K : PySem.W.Frag) : Sp := fun vs H Q _ => ∃ (a p : Addr) (ds hs : List Nat), vs = [.ref a, .ref p] ∧ SqT K H a (ds.map I) ∧ RuleOk ds ∧ SqT K H p (hs.map I) ∧ hs.length ≤ 8 ∧ (∀ h ∈ hs, h ≤ 400) ∧ ∀ H', Same H H' → Q (.bl (decide (xorH ds hs ≠ 0))) H'
theorem ok_wins_heaps {k : Nat} (T : Txt K mg) (G_need_rule : FnOk P w K mg base CX0 k T.a_need_rule T.d_need_rule ["value"] (spRule K)) (G_is_in : FnOk P w K mg base CX0 k T.a_is_in T.d_is_in ["value", "least", "most"] spIsIn)
    (G_values_to : FnOk P w K mg base CX0 k T.a_values_to T.d_values_to ["rule", "count"] (spTo K)) : FnOk P w K mg base CX0 (k + 1) T.a_wins_heaps T.d_wins_heaps ["rule", "heaps"] (spWins K) := by
  refine T.F_wins_heaps.ok sc_wins_heaps (fun vs H Q E h => ?_) (fun cdv A outer s H vs Q E hr h => ?_)
  · obtain ⟨a, p, ds, hs, rfl, _⟩ := h
    rfl
  obtain ⟨a, p, ds, hs, rfl, hS, hR, hP, hl, hh, q⟩ := h
  refine ⟨_, (pss_cons (ps_expr (pe_call G_need_rule hr rfl T.g_need_rule T.F_need_rule.kp T.b_need_rule .nil pass0 (pa_cons (pv 0) pa_nil)))
  (pss_cons (ps_if (PW.pt (pw_or (pt_not (pt_val (pe_callB (call_isiG (K := K) rfl) rfl T.m_isinstance (by decide +kernel) (pa_cons (pv 1) (pa_cons (pe_bltn (v := .ty "tuple") (u := .type "tuple") rfl T.m_tuple (by decide +kernel) rfl) pa_nil))))) (pw_or1 (pt_cmpR op_gt (pe_callB (call_lenK (K := K) rfl) rfl T.m_len PySem.boot_len (pa_cons (pv 1) pa_nil)) (pe_glob (v := .int 8) rfl T.c_MOST_HEAPS ⟨_, rfl⟩) (nomark _)))))
  (pss_one ps_never)
  pss_nil)
  (pss_cons (ps_if (pt_not (pt_val (pe_callB (cr_allK (K := K) rfl rfl) rfl T.m_all (by decide +kernel) (pa_cons (pe_lc (own := [("size", 4)]) rfl sc_wins_heaps.nd (pi_tupK (K := K) rfl (pv 1)) (blkOk_by (N := ["rule", "heaps", "values", "total", "size"]) (sc := defScope s_wins_heaps) (by decide +kernel)) (fun _ _ _ _ _ => (pg_name (i := 4) sc_wins_heaps.nd rfl (Or.inl rfl))) (fun _ _ _ _ _ => pts_nil) (fun _ _ _ _ _ => (pe_call G_is_in hr rfl T.g_is_in T.F_is_in.kp T.b_is_in .nil pass0 (pa_cons (pv 4) (pa_cons pe_int (pa_cons (pe_glob (v := .int 400) rfl T.c_MOST_COUNT ⟨_, rfl⟩) pa_nil)))))) pa_nil))))
  (pss_one ps_never)
  pss_nil)
  (pss_cons (ps_par (i := 2) (j := 3) rfl sc_wins_heaps.nd rfl rfl (by decide) rfl rfl (pa_cons (pe_call G_values_to hr rfl T.g_values_to T.F_values_to.kp T.b_values_to .nil pass0 (pa_cons (pv 0) (pa_cons (pe_callB (cr_maxK (K := K) rfl rfl) rfl T.m_max (by decide +kernel) (pa_cons (pe_lst (pa_cons pe_int (pa_starK (K := K) rfl (pv 1) pa_nil))) pa_nil)) pa_nil))) (pa_cons pe_int pa_nil)) rfl)
  (pss_cons (ps_for PassesOwn.never rfl (pi_tupK (K := K) rfl (pv 1)) (pg_name (i := 4) sc_wins_heaps.nd rfl (Or.inl rfl))
  (pss_one (ps_set (i := 3) sc_wins_heaps.nd rfl (Or.inl rfl) (pe_op op_xor (pv 3) (pe_ix (ix_listK (K := K) rfl) (pv 2) (pv 4) (fun _ _ => rfl))))))
  (pss_one (ps_ret (pe_cmpR op_ne (pv 3) pe_int (nomark _))))))))), ?_⟩
  have l6 := hR.l6
  have ehl : ((hs.map I).length : Int) = (hs.length : Int) := by rw [List.length_map]
  refine ⟨_, rfl, a, ds, rfl, hS, hR, fun H1 s1 => ?_⟩
  have hP1 := sqT s1 hP
  have hS1 := sqT s1 hS
  refine ⟨_, rfl, _, _, _, _, rfl, TyN.tup hP1, kit_tuple_tuple, _, rfl, iteF ?_⟩
  refine ⟨_, rfl, p, _, rfl, .inr hP1, _, _, rfl, rfl, _, rfl, ?_⟩
  rw [ehl, decide_eq_false (by omega)]
  refine iteF ?_
  dsimp only [tNext]
  refine go_ifS (go_not (go_B (go_cb (go_cons ?_))))
  refine el_lcT (K := K) (a := p) (xs := hs.map I) (fun _ => true) (fun _ => .bl true) ?_ hP1 ?_ ?_ ?_ ?_ H1 (Evl.Ex.refl H1) _ ?_
  · exact Evl.ev_var rfl
  · rw [List.length_map]
    omega
  · intro x
    rfl
  · intro i x H2 e1 hx H3 e2 Q2 q2
    exact q2 H3 (Evl.Ex.refl H3)
  · intro i x H2 e1 hx _ H3 e2 Q2 q2
    rw [List.getElem?_map] at hx
    cases hd : hs[i]? with
    | none => rw [hd] at hx; cases hx
    | some d =>
      rw [hd] at hx
      obtain rfl := Option.some.inj hx
      have d7 := hh d (List.mem_of_getElem? hd)
      refine ⟨_, rfl, _, _, _, rfl, ?_⟩
      rw [decide_eq_true (by omega), decide_eq_true (by omega)]
      exact q2 H3 (Evl.Ex.refl H3)
  · intro D1 H2 hD e2 h2
    have hg : Evl.given (hs.map I).length (fun _ => true) (fun _ => V.bl true) = (List.replicate hs.length true).map V.bl := by
      rw [given_all, List.length_map, List.map_replicate, List.map_const', List.length_range]
    rw [hg] at h2
    refine ⟨D1, _, rfl, SqL.of h2, _, rfl, ?_⟩
    have ha : (List.replicate hs.length true).all id = true := by simp
    rw [ha]
    refine iteF ?_
    dsimp only [tNext]
    have s2 : Same H H2 := s1.trans e2
    have hP2 := sqT s2 hP
    have hS2 := sqT s2 hS
    refine ⟨_, rfl, _, rfl, p, _, rfl, .inl hP2, ⟨?_, fun z hz => ?_⟩⟩
    · show (V.int 0 :: (hs.map I ++ [])).length ≤ sizeLine
      rw [List.length_cons, List.append_nil, List.length_map]
      exact Nat.le_trans (Nat.succ_le_succ hl) (by decide)
    have s3 := same_new hz (.lst (V.int 0 :: (hs.map I ++ [])))
    refine ⟨z, 0 :: hs.map (fun n : Nat => (n : Int)), rfl, SqL.of ?_, Nat.succ_pos _, fun m hm hmax => ?_⟩
    · rw [upd_same]
      simp
    have m0 : 0 ≤ m := hmax 0 (List.mem_cons_self ..)
    obtain ⟨m, rfl⟩ := Int.eq_ofNat_of_zero_le m0
    have m4 : m ≤ 400 := by
      rcases List.mem_cons.mp hm with h | h
      · omega
      · have := hh m ((mem_cast hs m).mp h)
        omega
    have hmx : ∀ h ∈ hs, h ≤ m := fun h hh => by
      have := hmax h (List.mem_cons_of_mem _ ((mem_cast hs h).mpr hh))
      omega
    refine ⟨a, m, ds, rfl, sqT (s2.trans s3) hS, l6, by omega, fun vp H4 s4 hv h4 => ?_⟩
    have s5 := (s2.trans s3).trans s4
    refine ⟨_, _, rfl, ?_⟩
    refine ⟨_, rfl, p, rfl, ⟨_, sqT s5 hP⟩, for_tup (K := K) (a := p) (xs := hs.map I) (fun i σ' H' => ∃ x4, σ' = [some (.ref a), some (.ref p), some (.ref vp), some (I (xorH ds (hs.take i))), x4] ∧ H' = H4) ?_ ?_ ?_ ?_⟩
    · exact ⟨none, rfl, rfl⟩
    · rintro i σ' H' _ ⟨_, _, rfl⟩
      exact sqT s5 hP
    · rintro i x σ' H' hx ⟨x4, rfl, rfl⟩
      rw [List.getElem?_map] at hx
      cases hd : hs[i]? with
      | none => rw [hd] at hx; cases hx
      | some d =>
      rw [hd] at hx
      obtain rfl := Option.some.inj hx
      refine ⟨_, rfl, _, rfl, _, rfl, vp, _, _, I (g ds d), rfl, rfl, SqL.of h4, at_val (hmx d (List.mem_of_getElem? hd)), ?_⟩
      refine ⟨_, _, rfl, rfl, some (I d), ?_, rfl⟩
      have ex : xorH ds (hs.take (i + 1)) = xorH ds (hs.take i) ^^^ g ds d := by
        unfold xorH
        rw [List.take_succ, hd, List.foldl_append]
        rfl
      rw [ex]
      show [_, _, _, some (V.int (Builtin.bitXor _ _)), _] = _
      rw [xorI]
    · rintro σ' H' ⟨x4, rfl, rfl⟩
      rw [List.length_map, List.take_length]
      refine ⟨_, rfl, ?_⟩
      have ed : (decide (I (xorH ds hs) = V.int 0)) = decide (xorH ds hs = 0) := by
        by_cases c : xorH ds hs = 0
        · rw [c]; rfl
        · rw [decide_eq_false c, decide_eq_false]
          intro z
          have := V.int.inj z
          omega
      dsimp only [tC, rNe]
      refine ⟨rfl, ?_⟩
      rw [ed]
      have := q H' s5
      rw [show decide (xorH ds hs ≠ 0) = !decide (xorH ds hs = 0) by simp] at this
      exact this
end
end K58


set_option Elab.async false
set_option linter.all false
set_option maxRecDepth 100000
set_option maxHeartbeats 4000000
namespace K58D
open PySem L2 TG DL K58
section
variable {P : Program} {w : World} {K : PySem.W.Frag} {mg : Str → Option Value} {base : Heap}
theorem row_ref {H : Hp} {v : V} {ds : List Nat} (h : DL.Dp K H v (rowD ds)) : ∃ a, v = .ref a ∧ SqT K H a (ds.map N) := by
  obtain ⟨a, xs, rfl, h1, h2⟩ := dp_tup (show DL.Dp K H v (.tuple (ds.map fun n : Nat => .int n)) from h)
  refine ⟨a, rfl, ?_⟩
  have e : xs = ds.map N := by
    clear h h1
    induction ds generalizing xs with
    | nil => cases h2; rfl
    | cons d ds ih =>
      cases h2 with
      | cons a b =>
        cases a
        rw [ih _ b]
        rfl
  rw [← e]
  exact h1
def F_heap_values : FSp := fun args P => ∃ (ds : List Nat) (n : Nat), args = [some (.dat (rowD ds)), some (.dat (.int n))] ∧ RuleOk ds ∧ n ≤ 400 ∧ P (.dat (rowD (vals ds n))) [none, none]
def F_shows_period : FSp := fun args P => ∃ (ds : List Nat) (s l : Nat), args = [some (.dat (rowD ds)), some (.dat (.tuple [.int s, .int l]))] ∧ RuleOk ds ∧ s ≤ 200 ∧ 1 ≤ l ∧ l ≤ 100 ∧ ∀ b : Bool, (b = true ↔ Shows ds l s) → P (.dat (.bool b)) [none, none]
theorem sy_pair {vs : List V} {H Hz : Hp} {A : List Addr} {d e : PyData} (y : Sy ⟨K, A, Hz, H, vs.length⟩ [] [] [some (.dat d), some (.dat e)] (vs.map some) Hz H) (hl : 2 = vs.length) : ∃ v u, vs = [v, u] ∧ DL.Dp K H v d ∧ DL.Dp K H u e := by
  obtain ⟨v, h1, h2⟩ := sy_dat (i := 0) y rfl
  obtain ⟨u, h3, h4⟩ := sy_dat (i := 1) y rfl
  match vs, hl, h1, h3 with
  | [_, _], _, h1, h3 =>
    cases h1
    cases h3
    exact ⟨_, _, rfl, h2, h4⟩
theorem up_hv (vs : List V) (H : Hp) (Q : VK) (E : XK) (h : spD K F_heap_values vs H Q E) : spHV K vs H Q E := by
  obtain ⟨args, A, Hz, P, y, hl, ⟨ds, n, rfl, hok, hn, hP⟩, hQ⟩ := h
  obtain ⟨v, u, rfl, hv, hu⟩ := sy_pair y hl
  obtain ⟨a, rfl, ha⟩ := row_ref hv
  cases hu
  refine ⟨a, n, ds, rfl, ha, hok, hn, fun p H' s h0 hp => ?_⟩
  refine hand_dat y hQ hl hP s ?_ ?_
  · refine DL.Dp.tup (SqT.of hp) ?_
    generalize vals ds n = l
    induction l with
    | nil => exact .nil
    | cons a l ih => exact .cons (.int _) ih
  · unfold rowD pT
    exact pTs_all _ fun d hd => by
      obtain ⟨z, _, rfl⟩ := List.mem_map.mp hd
      rfl
theorem up_shows (vs : List V) (H : Hp) (Q : VK) (E : XK) (h : spD K F_shows_period vs H Q E) : spShows K vs H Q E := by
  obtain ⟨args, A, Hz, P, y, hl, ⟨ds, s, l, rfl, hok, h1, h2, h3, hP⟩, hQ⟩ := h
  obtain ⟨v, u, rfl, hv, hu⟩ := sy_pair y hl
  obtain ⟨a, rfl, ha⟩ := row_ref hv
  obtain ⟨b, rfl, hb⟩ := row_ref (ds := [s, l]) hu
  refine ⟨a, b, ds, s, l, rfl, ha, hok, hb, h1, h2, h3, fun c H' hc s => ?_⟩
  exact hand_dat y hQ hl (hP c hc) s (.bl _) rfl
def F_wins_heaps : FSp := fun args P => ∃ ds hs : List Nat, args = [some (.dat (rowD ds)), some (.dat (rowD hs))] ∧ RuleOk ds ∧ hs.length ≤ 8 ∧ (∀ h ∈ hs, h ≤ 400) ∧ P (.dat (.bool (decide (xorH ds hs ≠ 0)))) [none, none]
theorem up_wins (vs : List V) (H : Hp) (Q : VK) (E : XK) (h : spD K F_wins_heaps vs H Q E) : spWins K vs H Q E := by
  obtain ⟨args, A, Hz, P, y, hl, ⟨ds, hs, rfl, hok, h1, h2, hP⟩, hQ⟩ := h
  obtain ⟨v, u, rfl, hv, hu⟩ := sy_pair y hl
  obtain ⟨a, rfl, ha⟩ := row_ref hv
  obtain ⟨b, rfl, hb⟩ := row_ref hu
  refine ⟨a, b, ds, hs, rfl, ha, hok, hb, h1, h2, fun H' s => ?_⟩
  exact hand_dat y hQ hl hP s (.bl _) rfl
end
end K58D


set_option Elab.async false
set_option linter.all false
set_option maxRecDepth 100000
set_option maxHeartbeats 4000000
/-! tuple * 1 is the tuple itself -/
namespace L2
open PySem PySem.Spec PyProof.Rows
theorem tuple_mulOne (l : Addr) (items : Array Value) (n : Nat) (dd : Option Addr) (sl : Array (Option Value)) (u : Tok) :
    Meets (Builtin.«tuple.__mul__» ⟨[.ref l, .int 1 u], []⟩) (fun _ R s => s.heap.get? l = some { cls := .type "tuple", dict := dd, data := .seq items n, slots := sl } ∧
      R (.ok (.ret (Value.ref l))) s) :=
  .of_wp fun prog w A R s h => by
    obtain ⟨hp, g, d, tk, os⟩ := s
    obtain ⟨hl, h⟩ := h
    have f1 := AutoSeq1.idx_int
    have c0 : (decide ((1 : Int) < -(2 ^ 63)) || decide ((1 : Int) ≥ 2 ^ 63)) = false := by decide
    have c1 : (items.isEmpty || (1 : Int) == 1) = true := by simp
    wp_walk using wpAny_loadPart' hl
    repeat (first
      | (refine wpAny_ite_false (decide_eq_false (by rw [c0]; exact Bool.false_ne_true)) ?_; wp_walk using wpAny_loadPart' hl)
      | (refine wpAny_ite_true (decide_eq_true (by rw [c1])) ?_; wp_walk using wpAny_loadPart' hl))
    exact ⟨_, rfl, h⟩
def rRep1 (K : PySem.W.Frag) : R2 := fun x y H Q => ∃ l xs, x = .ref l ∧ y = .int 1 ∧ SqT K H l xs ∧ Q (.ref l) H
section
variable {X : Cx}
theorem op_rep1 : OpR X (binaryOp .Mult) (rRep1 X.K) := by
  intro pins s σ H x y v u Q I rx ry h
  obtain ⟨l, xs, rfl, rfl, hT, q⟩ := h
  cases rx
  obtain ⟨t, rfl⟩ := ry
  obtain ⟨its, r, ⟨⟨cls, dd, data, sl⟩, ho, hc, n, hd⟩, hs⟩ := I.tuple hT
  simp only at hc hd
  subst hc hd
  refine wpAny_binaryOp_repeat_ref (T := "tuple") (U := "int") (by decide) ⟨_, ho, rfl⟩ (fun s' => typeIs_int s' 1 t) noFill_tuple_mul F.fills_int_mul F.slot_int_rmul repeat_tuple F.slot_int_index.lookup
    (call_meets F.slot_int_rmul (typeIs_int s 1 t) F.entry_int_rmul (F.args_int_rmul_2 _ _) (int_rmul_tuple 1 t l its.toArray n dd sl)
      ⟨ho, rfl, ⟨_, ho, rfl⟩, call_meets F.slot_tuple_mul ⟨_, ho, rfl⟩ F.entry_tuple_mul (F.args_tuple_mul_2 _ _) (tuple_mulOne l its.toArray n dd sl t) ⟨ho, ?_⟩⟩)
  exact ⟨.ref l, _, I, rfl, q⟩
/-- tuple * int, from 1 on -/
def rRepA (K : PySem.W.Frag) : R2 := fun x y H Q => rRepT K x y H Q ∨ rRep1 K x y H Q
theorem op_repA : OpR X (binaryOp .Mult) (rRepA X.K) := by
  intro pins s σ H x y v u Q I rx ry h
  rcases h with h | h
  · exact op_repT pins s σ H x y v u Q I rx ry h
  · exact op_rep1 pins s σ H x y v u Q I rx ry h
end
end L2


set_option Elab.async false
set_option linter.all false
set_option maxRecDepth 100000
set_option maxHeartbeats 4000000
/-! tuple * int; an empty dict as data. -/
namespace DL
open PySem L2 TG
section
variable {f : Fr}
def gRepT (d1 d2 : PyData) (P : Vl → Prop) : Prop := match d1, d2 with
  | .tuple ds, .int k => (ds ≠ [] ∧ 1 ≤ k ∧ k ≤ 1000 ∧ ds.length ≤ 1000) ∧ P (.dat (.tuple (List.replicate k.toNat ds).flatten))
  | _, _ => False
theorem eRepT {ds : List PyData} {k : Int} {P : Vl → Prop} : gRepT (.tuple ds) (.int k) P = ((ds ≠ [] ∧ 1 ≤ k ∧ k ≤ 1000 ∧ ds.length ≤ 1000) ∧ P (.dat (.tuple (List.replicate k.toNat ds).flatten))) := rfl
theorem sr_repT : SR f (rRepA f.K) gRepT := ⟨fun {L W e σ Hz H x y d1 d2 Post Q} r1 r2 s h k => by
  unfold gRepT at h
  split at h
  · rename_i ds n
    obtain ⟨⟨h1, h2, h3, h4⟩, h5⟩ := h
    obtain ⟨a, xs, rfl, q1, q2⟩ := dp_tup r1
    cases r2
    have hne : xs ≠ [] := fun c => h1 (by
      have := dps_len q2
      rw [c] at this
      exact List.eq_nil_of_length_eq_zero this.symm)
    by_cases c : n = 1
    · subst c
      refine .inr ⟨a, xs, rfl, rfl, sqT s.sm q1, ?_⟩
      refine k _ _ _ _ h5 same_refl s ?_
      have e : (List.replicate (Int.toNat 1) ds).flatten = ds := by
        show (List.replicate 1 ds).flatten = ds
        simp
      rw [e]
      exact Dp.tup q1 q2
    · refine .inl ⟨a, n, xs, rfl, rfl, sqT s.sm q1, hne, by omega, h3, by rw [dps_len q2]; exact h4, fun p hp => ?_⟩
      have s1 := same_new (s.hz hp) (.tup (List.replicate n.toNat xs).flatten)
      exact k _ _ _ _ h5 s1 (s.newT hp) (Dp.tup (SqT.of upd_same) (dps_mono s1 _ _ (dps_rep2 q2 _)))
  · exact h.elim⟩
/-- {} as data -/
def wEDic (e : En) (P : Vl → En → Prop) : Prop := P (.dat (.dict [])) e
theorem se_edic : SE f tDNewK wEDic := ⟨fun {L W e σ Hz H Post Q} w y k p hp => k (.dat (.dict [])) _ _ _ _ w (same_new (y.hz hp) (.dK [])) (y.newT hp) (Dp.dic upd_same)⟩
end
end DL


set_option Elab.async false
set_option linter.all false
set_option maxRecDepth 100000
set_option maxHeartbeats 4000000
namespace K58D
open PySem L2 TG DL K58
section
variable {P : Program} {w : World} {K : PySem.W.Frag} {mg : Str → Option Value} {base : Heap}
def datB : PyData → Bool
  | .dict _ => false
  | _ => true
def dat2B : PyData → Bool
  | .dict _ => false
  | .tuple ds => ds.all datB
  | _ => true
theorem dat_of {d : PyData} (h : datB d = true) : Dat d := by
  cases d with
  | dict _ => cases h
  | none => exact .non
  | int n => exact .int n
  | bool b => exact .bool b
  | str s => exact .str s
  | tuple ds => exact .tup ds
  | list ds => exact .lst ds
theorem dat2_of {d : PyData} (h : dat2B d = true) : Dat2 d := by
  refine ⟨dat_of ?_, fun ds e x hx => ?_⟩
  · cases d with
    | dict _ => cases h
    | _ => rfl
  · subst e
    exact dat_of (List.all_eq_true.mp h x hx)
theorem g_one : ∀ n, g [1] (n + 2) = 0 := fun n => by
  have e : g [1] (n + 2) = Hp.nextV mexN [1] (vals [1] (n + 1)) := Hp.g_succ mexN [1] (n + 1)
  rw [e]
  have h0 : Hp.optU [1] (vals [1] (n + 1)) 1 = [] := by
    unfold Hp.optU Hp.optAt
    rw [show List.range 1 = [0] from rfl]
    have hl : (vals [1] (n + 1)).length = n + 2 := Hp.vals_len mexN [1] (n + 1)
    simp [hl]
  show mexN (Hp.optU [1] (vals [1] (n + 1)) 1) = 0
  rw [h0]
  rfl
theorem shows_one : Shows [1] 100 200 := fun n h1 h2 => by
  obtain ⟨m, rfl⟩ : ∃ m, n = m + 2 := ⟨n - 2, by omega⟩
  rw [g_one, show m + 2 + 100 = (m + 100) + 2 by omega, g_one]
def F_law (T : Txt K mg) : GSp := fun args G P => ∃ ns : List Int, args = [some (.dat (.list (ns.map PyData.int)))] ∧ G T.cP_law = some (tabC "law.<locals>.<lambda>") ∧ ns.length ≤ 63 ∧ ∀ G', P (.dat (.bool true)) [none] G'
theorem ok_law {k : Nat} (T : Txt K mg) (hB : LamX.TabB base mg T.cc_law T.cP_law) (G_law_pick : FnOk P w K mg base CX0 (k + 2) T.a_law_pick T.d_law_pick ["_law_row", "_law_things"] (spD K F_law_pick)) (G_wins_heaps : FnOk P w K mg base CX0 (k + 2) T.a_wins_heaps T.d_wins_heaps ["rule", "heaps"] (spD K F_wins_heaps)) (G_shows_period : FnOk P w K mg base CX0 (k + 2) T.a_shows_period T.d_shows_period ["rule", "period"] (spD K F_shows_period)) (G_nim_times : FnOk P w K mg base CX0 (k + 2) T.a_nim_times T.d_nim_times ["one", "other"] (spD K F_nim_times)) (G_heap_values : FnOk P w K mg base CX0 (k + 2) T.a_heap_values T.d_heap_values ["rule", "count"] (spD K F_heap_values)) (G_nim_inverse : FnOk P w K mg base CX0 (k + 2) T.a_nim_inverse T.d_nim_inverse ["number"] (spD K F_nim_inverse)) (GX_heap_values : FnOk P w K mg base (L2.CX P w) k T.a_heap_values T.d_heap_values ["rule", "count"] (spX K (FX_heap_values T))) (GX_heap_options : FnOk P w K mg base (L2.CX P w) k T.a_heap_options T.d_heap_options ["rule", "size"] (spX K (FX_heap_options T))) (GX_wins_heaps : FnOk P w K mg base (L2.CX P w) k T.a_wins_heaps T.d_wins_heaps ["rule", "heaps"] (spX K (FX_wins_heaps T))) (GX_shows_period : FnOk P w K mg base (L2.CX P w) k T.a_shows_period T.d_shows_period ["rule", "period"] (spX K (FX_shows_period T))) (GX_period_of : FnOk P w K mg base (L2.CX P w) k T.a_period_of T.d_period_of ["rule"] (spX K (FX_period_of T))) (GX_nim_times : FnOk P w K mg base (L2.CX P w) k T.a_nim_times T.d_nim_times ["one", "other"] (spX K (FX_nim_times T))) (GX_nim_inverse : FnOk P w K mg base (L2.CX P w) k T.a_nim_inverse T.d_nim_inverse ["number"] (spX K (FX_nim_inverse T))) : FnOk P w K mg base CX0 (k + 2 + 1) T.a_law T.d_law ["_law_script"] (spG K (F_law T)) := by
  refine (fun (hA : ∀ args G P, (F_law T) args G P → args.length = 1) => T.fc_law.ok (sp := spG K (F_law T)) sc_law (fun vs H Q E h => spG_len hA h) (fun A outer s H vs Q E hr h => ⟨_, (pss_cons (ps_set (i := 1) sc_law.nd rfl (Or.inl rfl) (pe_lst (pa_cons (pv 0) (pa_cons pe_int (pa_cons pe_int (pa_cons pe_int pa_nil))))))
  (pss_cons (ps_set (i := 2) sc_law.nd rfl (Or.inr rfl) (pe_call G_law_pick hr rfl T.g_law_pick T.F_law_pick.kp T.b_law_pick .nil pass0 (pa_cons (pv 1) (pa_cons (pe_lst (pa_cons pe_non (pa_cons (pe_tup pa_nil) (pa_cons (pe_lst (pa_cons pe_int pa_nil)) (pa_cons (pe_tup (pa_cons pe_int pa_nil)) (pa_cons (pe_tup (pa_cons pe_int (pa_cons pe_int pa_nil))) (pa_cons (pe_tup (pa_cons (pe_un un_neg pe_int) pa_nil)) (pa_cons (pe_op op_repA (pe_tup (pa_cons pe_int pa_nil)) pe_int) (pa_cons (pe_tup (pa_cons pe_bl pa_nil)) (pa_cons (pe_tup (pa_cons pe_str pa_nil)) (pa_cons pe_str (pa_cons (pe_tup (pa_cons pe_int (pa_cons pe_non (pa_cons pe_int pa_nil)))) (pa_cons (pe_tup (pa_cons (pe_tup pa_nil) pa_nil)) pa_nil))))))))))))) pa_nil))))
  (pss_cons (ps_for PassesOwn.never rfl (pi_listK (K := K) rfl (pe_lst (pa_cons (pe_glob (v := .ref T.a_heap_values) rfl T.g_heap_values rfl) (pa_cons (pe_glob (v := .ref T.a_heap_options) rfl T.g_heap_options rfl) (pa_cons (pe_glob (v := .ref T.a_wins_heaps) rfl T.g_wins_heaps rfl) (pa_cons (pe_glob (v := .ref T.a_shows_period) rfl T.g_shows_period rfl) pa_nil)))))) (pg_name (i := 3) sc_law.nd rfl (Or.inr rfl))
  (pss_one (ps_if (pt_cmpR (op_neDK (K := K) rfl hr.units) (LamY.pe_lamF (q := "law.<locals>.<lambda>") (P := T.cP_law) (c := T.cc_law) (k := k) rfl T.g_law_word T.F_law_word T.b_law_word sc_law_word rfl (Or.inl rfl) (fun cdv => word_gives (K := K) (mg := mg) rfl rfl T _ cdv) hB rfl rfl hr (LamY.lamN_by (sc := defScope s_law) (N := ["_law_script", "_law_row", "_law_bad", "_law_work", "_law_wrong", "_law_words"]) (by decide +kernel)) (LamY.DefW.no rfl rfl) LamY.binds_none (fun A' outer' s' H' E' f' d' hr2 => (LamY.pe_callV (i := 3) (tab_cons GX_heap_values T.F_heap_values.kp T.b_heap_values (tab_cons GX_heap_options T.F_heap_options.kp T.b_heap_options (tab_cons GX_wins_heaps T.F_wins_heaps.kp T.b_wins_heaps (tab_cons GX_shows_period T.F_shows_period.kp T.b_shows_period tab_nil)))) hr2 rfl (by first | exact Or.inl rfl | exact Or.inr (Or.inl rfl) | exact Or.inr (Or.inr rfl)) (passes_call (takes_of rfl rfl rfl rfl) (fun _ _ _ _ h => h)) (pa_cons (pv 2) (pa_cons pe_non pa_nil))))) pe_str (nomark _))
  (pss_one (ps_ret pe_bl))
  pss_nil)))
  (pss_cons (ps_if (pt_cmpR (op_neDK (K := K) rfl hr.units) (LamY.pe_lamF (q := "law.<locals>.<lambda>") (P := T.cP_law) (c := T.cc_law) (k := k) rfl T.g_law_word T.F_law_word T.b_law_word sc_law_word rfl (Or.inl rfl) (fun cdv => word_gives (K := K) (mg := mg) rfl rfl T _ cdv) hB rfl rfl hr (LamY.lamN_by (sc := defScope s_law) (N := ["_law_script", "_law_row", "_law_bad", "_law_work", "_law_wrong", "_law_words"]) (by decide +kernel)) (LamY.DefW.no rfl rfl) LamY.binds_none (fun A' outer' s' H' E' f' d' hr2 => (pe_call GX_period_of hr2 rfl T.g_period_of T.F_period_of.kp T.b_period_of .nil (passes_call (takes_of rfl rfl rfl rfl) (fun _ _ _ _ h => h)) (pa_cons (pv 2) pa_nil)))) pe_str (nomark _))
  (pss_one (ps_ret pe_bl))
  pss_nil)
  (pss_cons (ps_set (i := 4) sc_law.nd rfl (Or.inr rfl) (pe_call G_law_pick hr rfl T.g_law_pick T.F_law_pick.kp T.b_law_pick .nil pass0 (pa_cons (pv 1) (pa_cons (pe_lst (pa_cons pe_non (pa_cons (pe_un un_neg pe_int) (pa_cons pe_bl (pa_cons pe_str (pa_cons (pe_tup (pa_cons pe_int pa_nil)) (pa_cons pe_int (pa_cons (pe_op op_pow pe_int pe_int) pa_nil)))))))) pa_nil))))
  (pss_cons (ps_if (pt_cmpR (op_neDK (K := K) rfl hr.units) (LamY.pe_lamF (q := "law.<locals>.<lambda>") (P := T.cP_law) (c := T.cc_law) (k := k) rfl T.g_law_word T.F_law_word T.b_law_word sc_law_word rfl (Or.inl rfl) (fun cdv => word_gives (K := K) (mg := mg) rfl rfl T _ cdv) hB rfl rfl hr (LamY.lamN_by (sc := defScope s_law) (N := ["_law_script", "_law_row", "_law_bad", "_law_work", "_law_wrong", "_law_words"]) (by decide +kernel)) (LamY.DefW.no rfl rfl) LamY.binds_none (fun A' outer' s' H' E' f' d' hr2 => (pe_call GX_heap_values hr2 rfl T.g_heap_values T.F_heap_values.kp T.b_heap_values .nil (passes_call (takes_of rfl rfl rfl rfl) (fun _ _ _ _ h => h)) (pa_cons (pe_tup (pa_cons pe_int pa_nil)) (pa_cons (pv 4) pa_nil))))) pe_str (nomark _))
  (pss_one (ps_ret pe_bl))
  pss_nil)
  (pss_cons (ps_if (pt_cmpR (op_neDK (K := K) rfl hr.units) (LamY.pe_lamF (q := "law.<locals>.<lambda>") (P := T.cP_law) (c := T.cc_law) (k := k) rfl T.g_law_word T.F_law_word T.b_law_word sc_law_word rfl (Or.inl rfl) (fun cdv => word_gives (K := K) (mg := mg) rfl rfl T _ cdv) hB rfl rfl hr (LamY.lamN_by (sc := defScope s_law) (N := ["_law_script", "_law_row", "_law_bad", "_law_work", "_law_wrong", "_law_words"]) (by decide +kernel)) (LamY.DefW.no rfl rfl) LamY.binds_none (fun A' outer' s' H' E' f' d' hr2 => (pe_call GX_heap_options hr2 rfl T.g_heap_options T.F_heap_options.kp T.b_heap_options .nil (passes_call (takes_of rfl rfl rfl rfl) (fun _ _ _ _ h => h)) (pa_cons (pe_tup (pa_cons pe_int pa_nil)) (pa_cons pe_int pa_nil))))) pe_str (nomark _))
  (pss_one (ps_ret pe_bl))
  pss_nil)
  (pss_cons (ps_if (pt_cmpR (op_neDK (K := K) rfl hr.units) (LamY.pe_lamF (q := "law.<locals>.<lambda>") (P := T.cP_law) (c := T.cc_law) (k := k) rfl T.g_law_word T.F_law_word T.b_law_word sc_law_word rfl (Or.inl rfl) (fun cdv => word_gives (K := K) (mg := mg) rfl rfl T _ cdv) hB rfl rfl hr (LamY.lamN_by (sc := defScope s_law) (N := ["_law_script", "_law_row", "_law_bad", "_law_work", "_law_wrong", "_law_words"]) (by decide +kernel)) (LamY.DefW.no rfl rfl) LamY.binds_none (fun A' outer' s' H' E' f' d' hr2 => (pe_call GX_heap_options hr2 rfl T.g_heap_options T.F_heap_options.kp T.b_heap_options .nil (passes_call (takes_of rfl rfl rfl rfl) (fun _ _ _ _ h => h)) (pa_cons (pe_tup (pa_cons pe_int (pa_cons pe_int pa_nil))) (pa_cons (pv 4) pa_nil))))) pe_str (nomark _))
  (pss_one (ps_ret pe_bl))
  pss_nil)
  (pss_cons (ps_set (i := 4) sc_law.nd rfl (Or.inr rfl) (pe_call G_law_pick hr rfl T.g_law_pick T.F_law_pick.kp T.b_law_pick .nil pass0 (pa_cons (pv 1) (pa_cons (pe_lst (pa_cons pe_non (pa_cons (pe_lst (pa_cons pe_int pa_nil)) (pa_cons (pe_tup (pa_cons pe_int (pa_cons (pe_un un_neg pe_int) pa_nil))) (pa_cons (pe_tup (pa_cons pe_int pa_nil)) (pa_cons (pe_op op_repA (pe_tup (pa_cons pe_int pa_nil)) pe_int) (pa_cons (pe_tup (pa_cons pe_bl pa_nil)) (pa_cons (pe_tup (pa_cons pe_str pa_nil)) (pa_cons pe_int (pa_cons (pe_tup (pa_cons pe_int (pa_cons (pe_tup pa_nil) pa_nil))) pa_nil)))))))))) pa_nil))))
  (pss_cons (ps_if (pt_cmpR (op_neDK (K := K) rfl hr.units) (LamY.pe_lamF (q := "law.<locals>.<lambda>") (P := T.cP_law) (c := T.cc_law) (k := k) rfl T.g_law_word T.F_law_word T.b_law_word sc_law_word rfl (Or.inl rfl) (fun cdv => word_gives (K := K) (mg := mg) rfl rfl T _ cdv) hB rfl rfl hr (LamY.lamN_by (sc := defScope s_law) (N := ["_law_script", "_law_row", "_law_bad", "_law_work", "_law_wrong", "_law_words"]) (by decide +kernel)) (LamY.DefW.no rfl rfl) LamY.binds_none (fun A' outer' s' H' E' f' d' hr2 => (pe_call GX_wins_heaps hr2 rfl T.g_wins_heaps T.F_wins_heaps.kp T.b_wins_heaps .nil (passes_call (takes_of rfl rfl rfl rfl) (fun _ _ _ _ h => h)) (pa_cons (pe_tup (pa_cons pe_int pa_nil)) (pa_cons (pv 4) pa_nil))))) pe_str (nomark _))
  (pss_one (ps_ret pe_bl))
  pss_nil)
  (pss_cons (ps_if (PW.pt (pw_or (pt_cmpR op_notBl (pe_call G_wins_heaps hr rfl T.g_wins_heaps T.F_wins_heaps.kp T.b_wins_heaps .nil pass0 (pa_cons (pe_tup (pa_cons pe_int pa_nil)) (pa_cons (pe_tup pa_nil) pa_nil))) pe_bl (nomark _)) (pw_or1 (pt_cmpR op_notBl (pe_call G_wins_heaps hr rfl T.g_wins_heaps T.F_wins_heaps.kp T.b_wins_heaps .nil pass0 (pa_cons (pe_tup (pa_cons pe_int (pa_cons pe_int (pa_cons pe_int (pa_cons pe_int (pa_cons pe_int (pa_cons pe_int pa_nil))))))) (pa_cons (pe_op op_repA (pe_tup (pa_cons pe_int pa_nil)) pe_int) pa_nil))) pe_bl (nomark _)))))
  (pss_one (ps_ret pe_bl))
  pss_nil)
  (pss_cons (ps_set (i := 4) sc_law.nd rfl (Or.inr rfl) (pe_call G_law_pick hr rfl T.g_law_pick T.F_law_pick.kp T.b_law_pick .nil pass0 (pa_cons (pv 1) (pa_cons (pe_lst (pa_cons pe_non (pa_cons (pe_tup (pa_cons pe_int pa_nil)) (pa_cons (pe_tup (pa_cons pe_int (pa_cons pe_int pa_nil))) (pa_cons (pe_tup (pa_cons (pe_un un_neg pe_int) (pa_cons pe_int pa_nil))) (pa_cons (pe_tup (pa_cons pe_int (pa_cons pe_int pa_nil))) (pa_cons (pe_tup (pa_cons pe_int (pa_cons pe_int pa_nil))) (pa_cons (pe_lst (pa_cons pe_int (pa_cons pe_int pa_nil))) (pa_cons (pe_tup (pa_cons pe_int (pa_cons pe_bl pa_nil))) (pa_cons (pe_tup (pa_cons pe_int (pa_cons pe_int (pa_cons pe_int pa_nil)))) (pa_cons (pe_tup (pa_cons pe_str (pa_cons pe_int pa_nil))) pa_nil))))))))))) pa_nil))))
  (pss_cons (ps_if (PW.pt (pw_or (pt_cmpR (op_neDK (K := K) rfl hr.units) (LamY.pe_lamF (q := "law.<locals>.<lambda>") (P := T.cP_law) (c := T.cc_law) (k := k) rfl T.g_law_word T.F_law_word T.b_law_word sc_law_word rfl (Or.inl rfl) (fun cdv => word_gives (K := K) (mg := mg) rfl rfl T _ cdv) hB rfl rfl hr (LamY.lamN_by (sc := defScope s_law) (N := ["_law_script", "_law_row", "_law_bad", "_law_work", "_law_wrong", "_law_words"]) (by decide +kernel)) (LamY.DefW.no rfl rfl) LamY.binds_none (fun A' outer' s' H' E' f' d' hr2 => (pe_call GX_shows_period hr2 rfl T.g_shows_period T.F_shows_period.kp T.b_shows_period .nil (passes_call (takes_of rfl rfl rfl rfl) (fun _ _ _ _ h => h)) (pa_cons (pe_tup (pa_cons pe_int pa_nil)) (pa_cons (pv 4) pa_nil))))) pe_str (nomark _)) (pw_or1 (pt_cmpR op_notBl (pe_call G_shows_period hr rfl T.g_shows_period T.F_shows_period.kp T.b_shows_period .nil pass0 (pa_cons (pe_tup (pa_cons pe_int pa_nil)) (pa_cons (pe_tup (pa_cons pe_int (pa_cons pe_int pa_nil))) pa_nil))) pe_bl (nomark _)))))
  (pss_one (ps_ret pe_bl))
  pss_nil)
  (pss_cons (ps_set (i := 4) sc_law.nd rfl (Or.inr rfl) (pe_call G_law_pick hr rfl T.g_law_pick T.F_law_pick.kp T.b_law_pick .nil pass0 (pa_cons (pv 1) (pa_cons (pe_lst (pa_cons pe_non (pa_cons (pe_un un_neg pe_int) (pa_cons pe_int (pa_cons pe_bl (pa_cons pe_str (pa_cons (pe_tup (pa_cons pe_int pa_nil)) (pa_cons (pe_op op_pow pe_int pe_int) pa_nil)))))))) pa_nil))))
  (pss_cons (ps_set (i := 5) sc_law.nd rfl (Or.inl rfl) (pe_lst (pa_cons (LamY.pe_lamF (q := "law.<locals>.<lambda>") (P := T.cP_law) (c := T.cc_law) (k := k) rfl T.g_law_word T.F_law_word T.b_law_word sc_law_word rfl (Or.inl rfl) (fun cdv => word_gives (K := K) (mg := mg) rfl rfl T _ cdv) hB rfl rfl hr (LamY.lamN_by (sc := defScope s_law) (N := ["_law_script", "_law_row", "_law_bad", "_law_work", "_law_wrong", "_law_words"]) (by decide +kernel)) (LamY.DefW.no rfl rfl) LamY.binds_none (fun A' outer' s' H' E' f' d' hr2 => (pe_call GX_nim_times hr2 rfl T.g_nim_times T.F_nim_times.kp T.b_nim_times .nil (passes_call (takes_of rfl rfl rfl rfl) (fun _ _ _ _ h => h)) (pa_cons (pv 4) (pa_cons pe_non pa_nil))))) (pa_cons (LamY.pe_lamF (q := "law.<locals>.<lambda>") (P := T.cP_law) (c := T.cc_law) (k := k) rfl T.g_law_word T.F_law_word T.b_law_word sc_law_word rfl (Or.inl rfl) (fun cdv => word_gives (K := K) (mg := mg) rfl rfl T _ cdv) hB rfl rfl hr (LamY.lamN_by (sc := defScope s_law) (N := ["_law_script", "_law_row", "_law_bad", "_law_work", "_law_wrong", "_law_words"]) (by decide +kernel)) (LamY.DefW.one rfl rfl) (LamY.binds_one rfl) (fun A' outer' s' H' E' f' d' hr2 => (pe_call GX_nim_times hr2 rfl T.g_nim_times T.F_nim_times.kp T.b_nim_times .nil (passes_call (takes_of rfl rfl rfl rfl) (fun _ _ _ _ h => h)) (pa_cons pe_int (pa_cons (pv 4) pa_nil))))) pa_nil))))
  (pss_cons (ps_expr (pe_bmK (K := K) rfl PySem.F.plainAttrs_list PySem.F.slot_list_append PySem.F.type_list_append mt_append (pv 5) (pa_cons (LamY.pe_lamF (q := "law.<locals>.<lambda>") (P := T.cP_law) (c := T.cc_law) (k := k) rfl T.g_law_word T.F_law_word T.b_law_word sc_law_word rfl (Or.inl rfl) (fun cdv => word_gives (K := K) (mg := mg) rfl rfl T _ cdv) hB rfl rfl hr (LamY.lamN_by (sc := defScope s_law) (N := ["_law_script", "_law_row", "_law_bad", "_law_work", "_law_wrong", "_law_words"]) (by decide +kernel)) (LamY.DefW.no rfl rfl) LamY.binds_none (fun A' outer' s' H' E' f' d' hr2 => (pe_call GX_nim_inverse hr2 rfl T.g_nim_inverse T.F_nim_inverse.kp T.b_nim_inverse .nil (passes_call (takes_of rfl rfl rfl rfl) (fun _ _ _ _ h => h)) (pa_cons (pv 4) pa_nil)))) pa_nil)))
  (pss_cons (ps_expr (pe_bmK (K := K) rfl PySem.F.plainAttrs_list PySem.F.slot_list_append PySem.F.type_list_append mt_append (pv 5) (pa_cons (LamY.pe_lamF (q := "law.<locals>.<lambda>") (P := T.cP_law) (c := T.cc_law) (k := k) rfl T.g_law_word T.F_law_word T.b_law_word sc_law_word rfl (Or.inl rfl) (fun cdv => word_gives (K := K) (mg := mg) rfl rfl T _ cdv) hB rfl rfl hr (LamY.lamN_by (sc := defScope s_law) (N := ["_law_script", "_law_row", "_law_bad", "_law_work", "_law_wrong", "_law_words"]) (by decide +kernel)) (LamY.DefW.no rfl rfl) LamY.binds_none (fun A' outer' s' H' E' f' d' hr2 => (pe_call GX_nim_inverse hr2 rfl T.g_nim_inverse T.F_nim_inverse.kp T.b_nim_inverse .nil (passes_call (takes_of rfl rfl rfl rfl) (fun _ _ _ _ h => h)) (pa_cons pe_int pa_nil)))) pa_nil)))
  (pss_cons (ps_if (PW.pt (pw_or (pt_cmpR (op_neDK (K := K) rfl hr.units) (pv 5) (pe_op op_rep (pe_lst (pa_cons pe_str pa_nil)) pe_int) (nomark _)) (pw_or1 (pt_cmpR (op_neDK (K := K) rfl hr.units) (pe_call G_nim_times hr rfl T.g_nim_times T.F_nim_times.kp T.b_nim_times .nil pass0 (pa_cons pe_int (pa_cons pe_int pa_nil))) pe_int (nomark _)))))
  (pss_one (ps_ret pe_bl))
  pss_nil)
  (pss_one (ps_ret (pe_and (pe_cmpR (op_eqDK (K := K) rfl hr.units) (pe_callB (call_lenK (K := K) rfl) rfl T.m_len PySem.boot_len (pa_cons (pe_call G_heap_values hr rfl T.g_heap_values T.F_heap_values.kp T.b_heap_values .nil pass0 (pa_cons (pe_tup (pa_cons pe_int (pa_cons pe_int pa_nil))) (pa_cons pe_int pa_nil))) pa_nil)) pe_int (nomark _)) (pe_one (pe_cmpR (op_eqDK (K := K) rfl hr.units) (pe_call G_nim_inverse hr rfl T.g_nim_inverse T.F_nim_inverse.kp T.b_nim_inverse .nil pass0 (pa_cons pe_int pa_nil)) pe_int (nomark _)))))))))))))))))))))))), fnG_run (N := ["_law_script", "_law_row", "_law_bad", "_law_work", "_law_wrong", "_law_words"]) h (fun A' Hz' => (ss_seq (ss_asg (se_lst (sa_cons se_var (sa_cons se_int (sa_cons se_int (sa_cons se_int sa_nil))))) sg_name)
  (ss_seq (ss_asg (se_callO (sa_cons (se_lst (sa_cons se_non (sa_cons (se_tup sa_nil) (sa_cons (se_lst (sa_cons se_int sa_nil)) (sa_cons (se_tup (sa_cons se_int sa_nil)) (sa_cons (se_tup (sa_cons se_int (sa_cons se_int sa_nil))) (sa_cons (se_tup (sa_cons (se_un (fun _ => rfl) se_int) sa_nil)) (sa_cons (se_op sr_repT (se_tup (sa_cons se_int sa_nil)) se_int) (sa_cons (se_tup (sa_cons se_bl sa_nil)) (sa_cons (se_tup (sa_cons se_str sa_nil)) (sa_cons se_str (sa_cons (se_tup (sa_cons se_int (sa_cons se_non (sa_cons se_int sa_nil)))) (sa_cons (se_tup (sa_cons (se_tup sa_nil) sa_nil)) sa_nil))))))))))))) sa_nil)) sg_name)
  (ss_seq (ss_for (si_list (se_lst (sa_cons se_fun (sa_cons se_fun (sa_cons se_fun (sa_cons se_fun sa_nil)))))) sg_name
  (ss_if (st_test (se_op sr_neD (se_wordV (n := 6) (sa_cons se_var (sa_cons se_non sa_nil))) se_str))
  (ss_ret se_bl)
  ss_next))
  (ss_seq (ss_if (st_test (se_op sr_neD (se_word (n := 6) (sa_cons se_var sa_nil)) se_str))
  (ss_ret se_bl)
  ss_next)
  (ss_seq (ss_asg (se_callO (sa_cons (se_lst (sa_cons se_non (sa_cons (se_un (fun _ => rfl) se_int) (sa_cons se_bl (sa_cons se_str (sa_cons (se_tup (sa_cons se_int sa_nil)) (sa_cons se_int (sa_cons (se_op (sr_I (fun _ _ => rfl)) se_int se_int) sa_nil)))))))) sa_nil)) sg_name)
  (ss_seq (ss_if (st_test (se_op sr_neD (se_word (n := 6) (sa_cons (se_tup (sa_cons se_int sa_nil)) (sa_cons se_var sa_nil))) se_str))
  (ss_ret se_bl)
  ss_next)
  (ss_seq (ss_if (st_test (se_op sr_neD (se_word (n := 6) (sa_cons (se_tup (sa_cons se_int sa_nil)) (sa_cons se_int sa_nil))) se_str))
  (ss_ret se_bl)
  ss_next)
  (ss_seq (ss_if (st_test (se_op sr_neD (se_word (n := 6) (sa_cons (se_tup (sa_cons se_int (sa_cons se_int sa_nil))) (sa_cons se_var sa_nil))) se_str))
  (ss_ret se_bl)
  ss_next)
  (ss_seq (ss_asg (se_callO (sa_cons (se_lst (sa_cons se_non (sa_cons (se_lst (sa_cons se_int sa_nil)) (sa_cons (se_tup (sa_cons se_int (sa_cons (se_un (fun _ => rfl) se_int) sa_nil))) (sa_cons (se_tup (sa_cons se_int sa_nil)) (sa_cons (se_op sr_repT (se_tup (sa_cons se_int sa_nil)) se_int) (sa_cons (se_tup (sa_cons se_bl sa_nil)) (sa_cons (se_tup (sa_cons se_str sa_nil)) (sa_cons se_int (sa_cons (se_tup (sa_cons se_int (sa_cons (se_tup sa_nil) sa_nil))) sa_nil)))))))))) sa_nil)) sg_name)
  (ss_seq (ss_if (st_test (se_op sr_neD (se_word (n := 6) (sa_cons (se_tup (sa_cons se_int sa_nil)) (sa_cons se_var sa_nil))) se_str))
  (ss_ret se_bl)
  ss_next)
  (ss_seq (ss_if (st_or (st_test (se_op sr_notB (se_call (sa_cons (se_tup (sa_cons se_int sa_nil)) (sa_cons (se_tup sa_nil) sa_nil))) se_bl)) (st_test (se_op sr_notB (se_call (sa_cons (se_tup (sa_cons se_int (sa_cons se_int (sa_cons se_int (sa_cons se_int (sa_cons se_int (sa_cons se_int sa_nil))))))) (sa_cons (se_op sr_repT (se_tup (sa_cons se_int sa_nil)) se_int) sa_nil))) se_bl)))
  (ss_ret se_bl)
  ss_next)
  (ss_seq (ss_asg (se_callO (sa_cons (se_lst (sa_cons se_non (sa_cons (se_tup (sa_cons se_int sa_nil)) (sa_cons (se_tup (sa_cons se_int (sa_cons se_int sa_nil))) (sa_cons (se_tup (sa_cons (se_un (fun _ => rfl) se_int) (sa_cons se_int sa_nil))) (sa_cons (se_tup (sa_cons se_int (sa_cons se_int sa_nil))) (sa_cons (se_tup (sa_cons se_int (sa_cons se_int sa_nil))) (sa_cons (se_lst (sa_cons se_int (sa_cons se_int sa_nil))) (sa_cons (se_tup (sa_cons se_int (sa_cons se_bl sa_nil))) (sa_cons (se_tup (sa_cons se_int (sa_cons se_int (sa_cons se_int sa_nil)))) (sa_cons (se_tup (sa_cons se_str (sa_cons se_int sa_nil))) sa_nil))))))))))) sa_nil)) sg_name)
  (ss_seq (ss_if (st_or (st_test (se_op sr_neD (se_word (n := 6) (sa_cons (se_tup (sa_cons se_int sa_nil)) (sa_cons se_var sa_nil))) se_str)) (st_test (se_op sr_notB (se_call (sa_cons (se_tup (sa_cons se_int sa_nil)) (sa_cons (se_tup (sa_cons se_int (sa_cons se_int sa_nil))) sa_nil))) se_bl)))
  (ss_ret se_bl)
  ss_next)
  (ss_seq (ss_asg (se_callO (sa_cons (se_lst (sa_cons se_non (sa_cons (se_un (fun _ => rfl) se_int) (sa_cons se_int (sa_cons se_bl (sa_cons se_str (sa_cons (se_tup (sa_cons se_int sa_nil)) (sa_cons (se_op (sr_I (fun _ _ => rfl)) se_int se_int) sa_nil)))))))) sa_nil)) sg_name)
  (ss_seq (ss_asg (se_lst (sa_cons (se_word (n := 6) (sa_cons se_var (sa_cons se_non sa_nil))) (sa_cons (se_word (n := 6) (sa_cons se_int (sa_cons se_var sa_nil))) sa_nil))) sg_name)
  (ss_seq (ss_drop (se_app (se_word (n := 6) (sa_cons se_var sa_nil))))
  (ss_seq (ss_drop (se_app (se_word (n := 6) (sa_cons se_int sa_nil))))
  (ss_seq (ss_if (st_or (st_test (se_op sr_neD se_var (se_rep (se_lst (sa_cons se_str sa_nil)) se_int))) (st_test (se_op sr_neD (se_call (sa_cons se_int (sa_cons se_int sa_nil))) se_int)))
  (ss_ret se_bl)
  ss_next)
  (ss_ret (se_andV (se_op sr_eqD (se_cb1 sc_len (se_call (sa_cons (se_tup (sa_cons se_int (sa_cons se_int sa_nil))) (sa_cons se_int sa_nil)))) se_int) (se_op sr_eqD (se_call (sa_cons se_int sa_nil)) se_int)))))))))))))))))))))) (fun args G P hl hF => ?_) (by rw [spG_len hA h]; exact Nat.le_of_ble_eq_true rfl)⟩)) (fun args G P hF => ?_)
  rotate_left
  · obtain ⟨ns, rfl, _⟩ := hF
    rfl
  obtain ⟨ns, rfl, hG, hl2, q⟩ := hF
  simp -implicitDefEqProofs only [DL.WW, List.isEmpty_nil, List.lookup_cons, List.lookup_nil, List.map, List.length, List.length_cons, List.length_nil, List.length_set, List.replicate, List.append, List.cons_append, List.nil_append, List.append_nil, List.getElem?_cons_zero, List.getElem?_cons_succ, List.getElem?_nil, List.set_cons_zero, List.set_cons_succ, ↓reduceIte, Bool.false_eq_true, Bool.not_true, Bool.not_false, Bool.true_and, Bool.false_and, Bool.and_true, Bool.and_false, Bool.or_true, Bool.or_false, Bool.true_or, Bool.false_or, Nat.reduceAdd, Nat.reduceSub, Nat.reduceLT, Nat.reduceLeDiff, true_and, and_true, and_self, decide_eq_true_eq, Nat.zero_lt_succ, Nat.lt_add_left_iff_pos, beq_self_eq_true, String.reduceBEq, String.reduceEq, Nat.le_refl, Nat.zero_le, Bool.true_eq_false, decide_true, decide_false, Int.reduceEq, Int.reduceLT, Int.reduceLE, Int.reduceSub, Int.reduceAdd, DL.wIfT, DL.wListRg, DL.eSortT, DL.wFun, DL.wWord, DL.wWordV, DL.wCallX, DL.wRaise, DL.eRepT]
  refine ⟨by decide, ?_⟩
  refine ⟨_, _, rfl, isRow_new hl2, by decide, fun d o1 ho1 hd => ?_⟩
  have hb : Dat2 d ∧ ruleB d = false := by
    have ha : ∀ ds : List PyData, (ds.all fun d => dat2B d && !ruleB d) = true → ∀ d ∈ ds, Dat2 d ∧ ruleB d = false := fun ds h d hd => by
      have := List.all_eq_true.mp h d hd
      rw [Bool.and_eq_true, Bool.not_eq_true'] at this
      exact ⟨dat2_of this.1, this.2⟩
    exact ha _ (by decide +kernel) d hd
  clear hd
  obtain ⟨hb1, hb2⟩ := hb
  simp -implicitDefEqProofs only [DL.WW, List.isEmpty_nil, List.lookup_cons, List.lookup_nil, List.map, List.length, List.length_cons, List.length_nil, List.length_set, List.replicate, List.append, List.cons_append, List.nil_append, List.append_nil, List.getElem?_cons_zero, List.getElem?_cons_succ, List.getElem?_nil, List.set_cons_zero, List.set_cons_succ, ↓reduceIte, Bool.false_eq_true, Bool.not_true, Bool.not_false, Bool.true_and, Bool.false_and, Bool.and_true, Bool.and_false, Bool.or_true, Bool.or_false, Bool.true_or, Bool.false_or, Nat.reduceAdd, Nat.reduceSub, Nat.reduceLT, Nat.reduceLeDiff, true_and, and_true, and_self, decide_eq_true_eq, Nat.zero_lt_succ, Nat.lt_add_left_iff_pos, beq_self_eq_true, String.reduceBEq, String.reduceEq, Nat.le_refl, Nat.zero_le, Bool.true_eq_false, decide_true, decide_false, Int.reduceEq, Int.reduceLT, Int.reduceLE, Int.reduceSub, Int.reduceAdd, DL.wIfT, DL.wListRg, DL.eSortT, DL.wFun, DL.wWord, DL.wWordV, DL.wCallX, DL.wRaise]
  refine for_use ?_
  simp -implicitDefEqProofs only [DL.WW, List.isEmpty_nil, List.lookup_cons, List.lookup_nil, List.map, List.length, List.length_cons, List.length_nil, List.length_set, List.replicate, List.append, List.cons_append, List.nil_append, List.append_nil, List.getElem?_cons_zero, List.getElem?_cons_succ, List.getElem?_nil, List.set_cons_zero, List.set_cons_succ, ↓reduceIte, Bool.false_eq_true, Bool.not_true, Bool.not_false, Bool.true_and, Bool.false_and, Bool.and_true, Bool.and_false, Bool.or_true, Bool.or_false, Bool.true_or, Bool.false_or, Nat.reduceAdd, Nat.reduceSub, Nat.reduceLT, Nat.reduceLeDiff, true_and, and_true, and_self, decide_eq_true_eq, Nat.zero_lt_succ, Nat.lt_add_left_iff_pos, beq_self_eq_true, String.reduceBEq, String.reduceEq, Nat.le_refl, Nat.zero_le, Bool.true_eq_false, decide_true, decide_false, Int.reduceEq, Int.reduceLT, Int.reduceLE, Int.reduceSub, Int.reduceAdd, DL.wIfT, DL.wListRg, DL.eSortT, DL.wFun, DL.wWord, DL.wWordV, DL.wCallX, DL.wRaise]
  have sr : PyData.strOk (Str.ofString "rule") = true := by decide +kernel
  have sn : PyData.strOk (Str.ofString "number") = true := by decide +kernel
  have sm : PyData.strOk (Str.ofString "numbers") = true := by decide +kernel
  have sp : PyData.strOk (Str.ofString "period") = true := by decide +kernel
  have en : Dat .none := .non
  have no : ruleB d = true → False := fun h => by rw [hb2] at h; cases h
  refine ⟨fun _ e => ∃ z3, e = [some (.dat (.list (ns.map PyData.int))), some (.ob none o1), some (.dat d), z3, none, none, some (.gs G)], ⟨none, rfl⟩, fun i dd e hd h => ?_, fun e h => ?_⟩
  · obtain ⟨z3, rfl⟩ := h
    have hm := List.mem_of_getElem? hd
    simp only [List.mem_cons, List.not_mem_nil, or_false] at hm
    rcases hm with rfl | rfl | rfl | rfl
    · simp -implicitDefEqProofs only [DL.WW, List.isEmpty_nil, List.lookup_cons, List.lookup_nil, List.map, List.length, List.length_cons, List.length_nil, List.length_set, List.replicate, List.append, List.cons_append, List.nil_append, List.append_nil, List.getElem?_cons_zero, List.getElem?_cons_succ, List.getElem?_nil, List.set_cons_zero, List.set_cons_succ, ↓reduceIte, Bool.false_eq_true, Bool.not_true, Bool.not_false, Bool.true_and, Bool.false_and, Bool.and_true, Bool.and_false, Bool.or_true, Bool.or_false, Bool.true_or, Bool.false_or, Nat.reduceAdd, Nat.reduceSub, Nat.reduceLT, Nat.reduceLeDiff, true_and, and_true, and_self, decide_eq_true_eq, Nat.zero_lt_succ, Nat.lt_add_left_iff_pos, beq_self_eq_true, String.reduceBEq, String.reduceEq, Nat.le_refl, Nat.zero_le, Bool.true_eq_false, decide_true, decide_false, Int.reduceEq, Int.reduceLT, Int.reduceLE, Int.reduceSub, Int.reduceAdd, DL.wIfT, DL.wListRg, DL.eSortT, DL.wFun, DL.wWord, DL.wWordV, DL.wCallX, DL.wRaise, hG]
      refine ⟨FX_heap_values T, by simp, d, .none, rfl, hb1, en, fun _ => ⟨rfl, _, .rule, ?_⟩, fun h => (no h).elim⟩
      simp -implicitDefEqProofs only [DL.WW, List.isEmpty_nil, List.lookup_cons, List.lookup_nil, List.map, List.length, List.length_cons, List.length_nil, List.length_set, List.replicate, List.append, List.cons_append, List.nil_append, List.append_nil, List.getElem?_cons_zero, List.getElem?_cons_succ, List.getElem?_nil, List.set_cons_zero, List.set_cons_succ, ↓reduceIte, Bool.false_eq_true, Bool.not_true, Bool.not_false, Bool.true_and, Bool.false_and, Bool.and_true, Bool.and_false, Bool.or_true, Bool.or_false, Bool.true_or, Bool.false_or, Nat.reduceAdd, Nat.reduceSub, Nat.reduceLT, Nat.reduceLeDiff, true_and, and_true, and_self, decide_eq_true_eq, Nat.zero_lt_succ, Nat.lt_add_left_iff_pos, beq_self_eq_true, String.reduceBEq, String.reduceEq, Nat.le_refl, Nat.zero_le, Bool.true_eq_false, decide_true, decide_false, Int.reduceEq, Int.reduceLT, Int.reduceLE, Int.reduceSub, Int.reduceAdd, DL.wIfT, DL.wListRg, DL.eSortT, DL.wFun, DL.wWord, DL.wWordV, DL.wCallX, DL.wRaise, sr, sn, sm, sp]
      exact ⟨_, rfl⟩
    · simp -implicitDefEqProofs only [DL.WW, List.isEmpty_nil, List.lookup_cons, List.lookup_nil, List.map, List.length, List.length_cons, List.length_nil, List.length_set, List.replicate, List.append, List.cons_append, List.nil_append, List.append_nil, List.getElem?_cons_zero, List.getElem?_cons_succ, List.getElem?_nil, List.set_cons_zero, List.set_cons_succ, ↓reduceIte, Bool.false_eq_true, Bool.not_true, Bool.not_false, Bool.true_and, Bool.false_and, Bool.and_true, Bool.and_false, Bool.or_true, Bool.or_false, Bool.true_or, Bool.false_or, Nat.reduceAdd, Nat.reduceSub, Nat.reduceLT, Nat.reduceLeDiff, true_and, and_true, and_self, decide_eq_true_eq, Nat.zero_lt_succ, Nat.lt_add_left_iff_pos, beq_self_eq_true, String.reduceBEq, String.reduceEq, Nat.le_refl, Nat.zero_le, Bool.true_eq_false, decide_true, decide_false, Int.reduceEq, Int.reduceLT, Int.reduceLE, Int.reduceSub, Int.reduceAdd, DL.wIfT, DL.wListRg, DL.eSortT, DL.wFun, DL.wWord, DL.wWordV, DL.wCallX, DL.wRaise, hG]
      refine ⟨FX_heap_options T, by simp, d, .none, rfl, hb1, en, fun _ => ⟨rfl, _, .rule, ?_⟩, fun h => (no h).elim⟩
      simp -implicitDefEqProofs only [DL.WW, List.isEmpty_nil, List.lookup_cons, List.lookup_nil, List.map, List.length, List.length_cons, List.length_nil, List.length_set, List.replicate, List.append, List.cons_append, List.nil_append, List.append_nil, List.getElem?_cons_zero, List.getElem?_cons_succ, List.getElem?_nil, List.set_cons_zero, List.set_cons_succ, ↓reduceIte, Bool.false_eq_true, Bool.not_true, Bool.not_false, Bool.true_and, Bool.false_and, Bool.and_true, Bool.and_false, Bool.or_true, Bool.or_false, Bool.true_or, Bool.false_or, Nat.reduceAdd, Nat.reduceSub, Nat.reduceLT, Nat.reduceLeDiff, true_and, and_true, and_self, decide_eq_true_eq, Nat.zero_lt_succ, Nat.lt_add_left_iff_pos, beq_self_eq_true, String.reduceBEq, String.reduceEq, Nat.le_refl, Nat.zero_le, Bool.true_eq_false, decide_true, decide_false, Int.reduceEq, Int.reduceLT, Int.reduceLE, Int.reduceSub, Int.reduceAdd, DL.wIfT, DL.wListRg, DL.eSortT, DL.wFun, DL.wWord, DL.wWordV, DL.wCallX, DL.wRaise, sr, sn, sm, sp]
      exact ⟨_, rfl⟩
    · simp -implicitDefEqProofs only [DL.WW, List.isEmpty_nil, List.lookup_cons, List.lookup_nil, List.map, List.length, List.length_cons, List.length_nil, List.length_set, List.replicate, List.append, List.cons_append, List.nil_append, List.append_nil, List.getElem?_cons_zero, List.getElem?_cons_succ, List.getElem?_nil, List.set_cons_zero, List.set_cons_succ, ↓reduceIte, Bool.false_eq_true, Bool.not_true, Bool.not_false, Bool.true_and, Bool.false_and, Bool.and_true, Bool.and_false, Bool.or_true, Bool.or_false, Bool.true_or, Bool.false_or, Nat.reduceAdd, Nat.reduceSub, Nat.reduceLT, Nat.reduceLeDiff, true_and, and_true, and_self, decide_eq_true_eq, Nat.zero_lt_succ, Nat.lt_add_left_iff_pos, beq_self_eq_true, String.reduceBEq, String.reduceEq, Nat.le_refl, Nat.zero_le, Bool.true_eq_false, decide_true, decide_false, Int.reduceEq, Int.reduceLT, Int.reduceLE, Int.reduceSub, Int.reduceAdd, DL.wIfT, DL.wListRg, DL.eSortT, DL.wFun, DL.wWord, DL.wWordV, DL.wCallX, DL.wRaise, hG]
      refine ⟨FX_wins_heaps T, by simp, d, .none, rfl, hb1, dat2_of rfl, fun _ => ⟨rfl, _, .rule, ?_⟩, fun h => (no h).elim⟩
      simp -implicitDefEqProofs only [DL.WW, List.isEmpty_nil, List.lookup_cons, List.lookup_nil, List.map, List.length, List.length_cons, List.length_nil, List.length_set, List.replicate, List.append, List.cons_append, List.nil_append, List.append_nil, List.getElem?_cons_zero, List.getElem?_cons_succ, List.getElem?_nil, List.set_cons_zero, List.set_cons_succ, ↓reduceIte, Bool.false_eq_true, Bool.not_true, Bool.not_false, Bool.true_and, Bool.false_and, Bool.and_true, Bool.and_false, Bool.or_true, Bool.or_false, Bool.true_or, Bool.false_or, Nat.reduceAdd, Nat.reduceSub, Nat.reduceLT, Nat.reduceLeDiff, true_and, and_true, and_self, decide_eq_true_eq, Nat.zero_lt_succ, Nat.lt_add_left_iff_pos, beq_self_eq_true, String.reduceBEq, String.reduceEq, Nat.le_refl, Nat.zero_le, Bool.true_eq_false, decide_true, decide_false, Int.reduceEq, Int.reduceLT, Int.reduceLE, Int.reduceSub, Int.reduceAdd, DL.wIfT, DL.wListRg, DL.eSortT, DL.wFun, DL.wWord, DL.wWordV, DL.wCallX, DL.wRaise, sr, sn, sm, sp]
      exact ⟨_, rfl⟩
    · simp -implicitDefEqProofs only [DL.WW, List.isEmpty_nil, List.lookup_cons, List.lookup_nil, List.map, List.length, List.length_cons, List.length_nil, List.length_set, List.replicate, List.append, List.cons_append, List.nil_append, List.append_nil, List.getElem?_cons_zero, List.getElem?_cons_succ, List.getElem?_nil, List.set_cons_zero, List.set_cons_succ, ↓reduceIte, Bool.false_eq_true, Bool.not_true, Bool.not_false, Bool.true_and, Bool.false_and, Bool.and_true, Bool.and_false, Bool.or_true, Bool.or_false, Bool.true_or, Bool.false_or, Nat.reduceAdd, Nat.reduceSub, Nat.reduceLT, Nat.reduceLeDiff, true_and, and_true, and_self, decide_eq_true_eq, Nat.zero_lt_succ, Nat.lt_add_left_iff_pos, beq_self_eq_true, String.reduceBEq, String.reduceEq, Nat.le_refl, Nat.zero_le, Bool.true_eq_false, decide_true, decide_false, Int.reduceEq, Int.reduceLT, Int.reduceLE, Int.reduceSub, Int.reduceAdd, DL.wIfT, DL.wListRg, DL.eSortT, DL.wFun, DL.wWord, DL.wWordV, DL.wCallX, DL.wRaise, hG]
      refine ⟨FX_shows_period T, by simp, d, .none, rfl, hb1, dat2_of rfl, fun _ => ⟨rfl, _, .rule, ?_⟩, fun h => (no h).elim⟩
      simp -implicitDefEqProofs only [DL.WW, List.isEmpty_nil, List.lookup_cons, List.lookup_nil, List.map, List.length, List.length_cons, List.length_nil, List.length_set, List.replicate, List.append, List.cons_append, List.nil_append, List.append_nil, List.getElem?_cons_zero, List.getElem?_cons_succ, List.getElem?_nil, List.set_cons_zero, List.set_cons_succ, ↓reduceIte, Bool.false_eq_true, Bool.not_true, Bool.not_false, Bool.true_and, Bool.false_and, Bool.and_true, Bool.and_false, Bool.or_true, Bool.or_false, Bool.true_or, Bool.false_or, Nat.reduceAdd, Nat.reduceSub, Nat.reduceLT, Nat.reduceLeDiff, true_and, and_true, and_self, decide_eq_true_eq, Nat.zero_lt_succ, Nat.lt_add_left_iff_pos, beq_self_eq_true, String.reduceBEq, String.reduceEq, Nat.le_refl, Nat.zero_le, Bool.true_eq_false, decide_true, decide_false, Int.reduceEq, Int.reduceLT, Int.reduceLE, Int.reduceSub, Int.reduceAdd, DL.wIfT, DL.wListRg, DL.eSortT, DL.wFun, DL.wWord, DL.wWordV, DL.wCallX, DL.wRaise, sr, sn, sm, sp]
      exact ⟨_, rfl⟩
  obtain ⟨z3, rfl⟩ := h
  simp -implicitDefEqProofs only [DL.WW, List.isEmpty_nil, List.lookup_cons, List.lookup_nil, List.map, List.length, List.length_cons, List.length_nil, List.length_set, List.replicate, List.append, List.cons_append, List.nil_append, List.append_nil, List.getElem?_cons_zero, List.getElem?_cons_succ, List.getElem?_nil, List.set_cons_zero, List.set_cons_succ, ↓reduceIte, Bool.false_eq_true, Bool.not_true, Bool.not_false, Bool.true_and, Bool.false_and, Bool.and_true, Bool.and_false, Bool.or_true, Bool.or_false, Bool.true_or, Bool.false_or, Nat.reduceAdd, Nat.reduceSub, Nat.reduceLT, Nat.reduceLeDiff, true_and, and_true, and_self, decide_eq_true_eq, Nat.zero_lt_succ, Nat.lt_add_left_iff_pos, beq_self_eq_true, String.reduceBEq, String.reduceEq, Nat.le_refl, Nat.zero_le, Bool.true_eq_false, decide_true, decide_false, Int.reduceEq, Int.reduceLT, Int.reduceLE, Int.reduceSub, Int.reduceAdd, DL.wIfT, DL.wListRg, DL.eSortT, DL.wFun, DL.wWord, DL.wWordV, DL.wCallX, DL.wRaise, hG]
  refine ⟨d, rfl, hb1, hb2, rfl, _, .rule, ?_⟩
  simp -implicitDefEqProofs only [DL.WW, List.isEmpty_nil, List.lookup_cons, List.lookup_nil, List.map, List.length, List.length_cons, List.length_nil, List.length_set, List.replicate, List.append, List.cons_append, List.nil_append, List.append_nil, List.getElem?_cons_zero, List.getElem?_cons_succ, List.getElem?_nil, List.set_cons_zero, List.set_cons_succ, ↓reduceIte, Bool.false_eq_true, Bool.not_true, Bool.not_false, Bool.true_and, Bool.false_and, Bool.and_true, Bool.and_false, Bool.or_true, Bool.or_false, Bool.true_or, Bool.false_or, Nat.reduceAdd, Nat.reduceSub, Nat.reduceLT, Nat.reduceLeDiff, true_and, and_true, and_self, decide_eq_true_eq, Nat.zero_lt_succ, Nat.lt_add_left_iff_pos, beq_self_eq_true, String.reduceBEq, String.reduceEq, Nat.le_refl, Nat.zero_le, Bool.true_eq_false, decide_true, decide_false, Int.reduceEq, Int.reduceLT, Int.reduceLE, Int.reduceSub, Int.reduceAdd, DL.wIfT, DL.wListRg, DL.eSortT, DL.wFun, DL.wWord, DL.wWordV, DL.wCallX, DL.wRaise, sr, sn, sm, sp]
  have pick : ∀ (g : PyData → Bool) (ds : List PyData), (ds.all fun d => dat2B d && !g d) = true → ∀ d ∈ ds, Dat2 d ∧ g d = false := fun g ds h d hd => by
    have := List.all_eq_true.mp h d hd
    rw [Bool.and_eq_true, Bool.not_eq_true'] at this
    exact ⟨dat2_of this.1, this.2⟩
  refine ⟨⟨by decide, by decide, by decide⟩, o1, _, rfl, ho1, by decide, fun e o2 ho2 he => ?_⟩
  obtain ⟨he1, he2⟩ := pick (inB 0 400) _ (by decide +kernel) e he
  obtain ⟨_, he3⟩ := pick (inB 0 60) _ (by decide +kernel) e he
  clear he
  have r07 : ruleB (.tuple [.int 0, .int 7]) = true := by decide +kernel
  have r3 : Dat2 (.tuple [.int 3]) ∧ ruleB (.tuple [.int 3]) = true := ⟨dat2_of rfl, by decide +kernel⟩
  simp -implicitDefEqProofs only [DL.WW, List.isEmpty_nil, List.lookup_cons, List.lookup_nil, List.map, List.length, List.length_cons, List.length_nil, List.length_set, List.replicate, List.append, List.cons_append, List.nil_append, List.append_nil, List.getElem?_cons_zero, List.getElem?_cons_succ, List.getElem?_nil, List.set_cons_zero, List.set_cons_succ, ↓reduceIte, Bool.false_eq_true, Bool.not_true, Bool.not_false, Bool.true_and, Bool.false_and, Bool.and_true, Bool.and_false, Bool.or_true, Bool.or_false, Bool.true_or, Bool.false_or, Nat.reduceAdd, Nat.reduceSub, Nat.reduceLT, Nat.reduceLeDiff, true_and, and_true, and_self, decide_eq_true_eq, Nat.zero_lt_succ, Nat.lt_add_left_iff_pos, beq_self_eq_true, String.reduceBEq, String.reduceEq, Nat.le_refl, Nat.zero_le, Bool.true_eq_false, decide_true, decide_false, Int.reduceEq, Int.reduceLT, Int.reduceLE, Int.reduceSub, Int.reduceAdd, DL.wIfT, DL.wListRg, DL.eSortT, DL.wFun, DL.wWord, DL.wWordV, DL.wCallX, DL.wRaise, sr, sn, sm, sp, hG]
  refine ⟨_, _, rfl, r3.1, he1.1, (fun h => by rw [r3.2] at h; cases h), fun _ => ⟨he2, rfl, _, .number, ?_⟩⟩
  simp -implicitDefEqProofs only [DL.WW, List.isEmpty_nil, List.lookup_cons, List.lookup_nil, List.map, List.length, List.length_cons, List.length_nil, List.length_set, List.replicate, List.append, List.cons_append, List.nil_append, List.append_nil, List.getElem?_cons_zero, List.getElem?_cons_succ, List.getElem?_nil, List.set_cons_zero, List.set_cons_succ, ↓reduceIte, Bool.false_eq_true, Bool.not_true, Bool.not_false, Bool.true_and, Bool.false_and, Bool.and_true, Bool.and_false, Bool.or_true, Bool.or_false, Bool.true_or, Bool.false_or, Nat.reduceAdd, Nat.reduceSub, Nat.reduceLT, Nat.reduceLeDiff, true_and, and_true, and_self, decide_eq_true_eq, Nat.zero_lt_succ, Nat.lt_add_left_iff_pos, beq_self_eq_true, String.reduceBEq, String.reduceEq, Nat.le_refl, Nat.zero_le, Bool.true_eq_false, decide_true, decide_false, Int.reduceEq, Int.reduceLT, Int.reduceLE, Int.reduceSub, Int.reduceAdd, DL.wIfT, DL.wListRg, DL.eSortT, DL.wFun, DL.wWord, DL.wWordV, DL.wCallX, DL.wRaise, sr, sn, sm, sp, hG]
  refine ⟨_, _, rfl, r3.1, .int 61, (fun h => by rw [r3.2] at h; cases h), fun _ => ⟨by decide +kernel, rfl, _, .number, ?_⟩⟩
  simp -implicitDefEqProofs only [DL.WW, List.isEmpty_nil, List.lookup_cons, List.lookup_nil, List.map, List.length, List.length_cons, List.length_nil, List.length_set, List.replicate, List.append, List.cons_append, List.nil_append, List.append_nil, List.getElem?_cons_zero, List.getElem?_cons_succ, List.getElem?_nil, List.set_cons_zero, List.set_cons_succ, ↓reduceIte, Bool.false_eq_true, Bool.not_true, Bool.not_false, Bool.true_and, Bool.false_and, Bool.and_true, Bool.and_false, Bool.or_true, Bool.or_false, Bool.true_or, Bool.false_or, Nat.reduceAdd, Nat.reduceSub, Nat.reduceLT, Nat.reduceLeDiff, true_and, and_true, and_self, decide_eq_true_eq, Nat.zero_lt_succ, Nat.lt_add_left_iff_pos, beq_self_eq_true, String.reduceBEq, String.reduceEq, Nat.le_refl, Nat.zero_le, Bool.true_eq_false, decide_true, decide_false, Int.reduceEq, Int.reduceLT, Int.reduceLE, Int.reduceSub, Int.reduceAdd, DL.wIfT, DL.wListRg, DL.eSortT, DL.wFun, DL.wWord, DL.wWordV, DL.wCallX, DL.wRaise, sr, sn, sm, sp, hG]
  refine ⟨_, _, rfl, dat2_of rfl, he1.1, (fun h => by rw [r07] at h; cases h), fun _ => ⟨he3, rfl, _, .number, ?_⟩⟩
  simp -implicitDefEqProofs only [DL.WW, List.isEmpty_nil, List.lookup_cons, List.lookup_nil, List.map, List.length, List.length_cons, List.length_nil, List.length_set, List.replicate, List.append, List.cons_append, List.nil_append, List.append_nil, List.getElem?_cons_zero, List.getElem?_cons_succ, List.getElem?_nil, List.set_cons_zero, List.set_cons_succ, ↓reduceIte, Bool.false_eq_true, Bool.not_true, Bool.not_false, Bool.true_and, Bool.false_and, Bool.and_true, Bool.and_false, Bool.or_true, Bool.or_false, Bool.true_or, Bool.false_or, Nat.reduceAdd, Nat.reduceSub, Nat.reduceLT, Nat.reduceLeDiff, true_and, and_true, and_self, decide_eq_true_eq, Nat.zero_lt_succ, Nat.lt_add_left_iff_pos, beq_self_eq_true, String.reduceBEq, String.reduceEq, Nat.le_refl, Nat.zero_le, Bool.true_eq_false, decide_true, decide_false, Int.reduceEq, Int.reduceLT, Int.reduceLE, Int.reduceSub, Int.reduceAdd, DL.wIfT, DL.wListRg, DL.eSortT, DL.wFun, DL.wWord, DL.wWordV, DL.wCallX, DL.wRaise, sr, sn, sm, sp, DL.eRepT]
  refine ⟨by simp, o2, _, rfl, ho2, by decide, fun e o3 ho3 he => ?_⟩
  obtain ⟨hf1, hf2⟩ := pick heapsB _ (by decide +kernel) e he
  clear he
  simp -implicitDefEqProofs only [DL.WW, List.isEmpty_nil, List.lookup_cons, List.lookup_nil, List.map, List.length, List.length_cons, List.length_nil, List.length_set, List.replicate, List.append, List.cons_append, List.nil_append, List.append_nil, List.getElem?_cons_zero, List.getElem?_cons_succ, List.getElem?_nil, List.set_cons_zero, List.set_cons_succ, ↓reduceIte, Bool.false_eq_true, Bool.not_true, Bool.not_false, Bool.true_and, Bool.false_and, Bool.and_true, Bool.and_false, Bool.or_true, Bool.or_false, Bool.true_or, Bool.false_or, Nat.reduceAdd, Nat.reduceSub, Nat.reduceLT, Nat.reduceLeDiff, true_and, and_true, and_self, decide_eq_true_eq, Nat.zero_lt_succ, Nat.lt_add_left_iff_pos, beq_self_eq_true, String.reduceBEq, String.reduceEq, Nat.le_refl, Nat.zero_le, Bool.true_eq_false, decide_true, decide_false, Int.reduceEq, Int.reduceLT, Int.reduceLE, Int.reduceSub, Int.reduceAdd, DL.wIfT, DL.wListRg, DL.eSortT, DL.wFun, DL.wWord, DL.wWordV, DL.wCallX, DL.wRaise, sr, sn, sm, sp, hG]
  refine ⟨_, _, rfl, r3.1, hf1, (fun h => by rw [r3.2] at h; cases h), fun _ => ⟨hf2, rfl, _, .numbers, ?_⟩⟩
  have ok3 : RuleOk [3] := ⟨by decide, by decide, by decide, by decide⟩
  have ok6 : RuleOk [0, 0, 0, 0, 0, 1] := ⟨by decide, by decide, by decide, by decide⟩
  have ok1 : RuleOk [1] := ⟨by decide, by decide, by decide, by decide⟩
  have ok77 : RuleOk [7, 7] := ⟨by decide, by decide, by decide, by decide⟩
  simp -implicitDefEqProofs only [DL.WW, List.isEmpty_nil, List.lookup_cons, List.lookup_nil, List.map, List.length, List.length_cons, List.length_nil, List.length_set, List.replicate, List.append, List.cons_append, List.nil_append, List.append_nil, List.getElem?_cons_zero, List.getElem?_cons_succ, List.getElem?_nil, List.set_cons_zero, List.set_cons_succ, ↓reduceIte, Bool.false_eq_true, Bool.not_true, Bool.not_false, Bool.true_and, Bool.false_and, Bool.and_true, Bool.and_false, Bool.or_true, Bool.or_false, Bool.true_or, Bool.false_or, Nat.reduceAdd, Nat.reduceSub, Nat.reduceLT, Nat.reduceLeDiff, true_and, and_true, and_self, decide_eq_true_eq, Nat.zero_lt_succ, Nat.lt_add_left_iff_pos, beq_self_eq_true, String.reduceBEq, String.reduceEq, Nat.le_refl, Nat.zero_le, Bool.true_eq_false, decide_true, decide_false, Int.reduceEq, Int.reduceLT, Int.reduceLE, Int.reduceSub, Int.reduceAdd, DL.wIfT, DL.wListRg, DL.eSortT, DL.wFun, DL.wWord, DL.wWordV, DL.wCallX, DL.wRaise, sr, sn, sm, sp, DL.eRepT]
  refine ⟨[3], [], rfl, ok3, by decide, fun h hh => (by cases hh), ?_⟩
  simp -implicitDefEqProofs only [DL.WW, List.isEmpty_nil, List.lookup_cons, List.lookup_nil, List.map, List.length, List.length_cons, List.length_nil, List.length_set, List.replicate, List.append, List.cons_append, List.nil_append, List.append_nil, List.getElem?_cons_zero, List.getElem?_cons_succ, List.getElem?_nil, List.set_cons_zero, List.set_cons_succ, ↓reduceIte, Bool.false_eq_true, Bool.not_true, Bool.not_false, Bool.true_and, Bool.false_and, Bool.and_true, Bool.and_false, Bool.or_true, Bool.or_false, Bool.true_or, Bool.false_or, Nat.reduceAdd, Nat.reduceSub, Nat.reduceLT, Nat.reduceLeDiff, true_and, and_true, and_self, decide_eq_true_eq, Nat.zero_lt_succ, Nat.lt_add_left_iff_pos, beq_self_eq_true, String.reduceBEq, String.reduceEq, Nat.le_refl, Nat.zero_le, Bool.true_eq_false, decide_true, decide_false, Int.reduceEq, Int.reduceLT, Int.reduceLE, Int.reduceSub, Int.reduceAdd, DL.wIfT, DL.wListRg, DL.eSortT, DL.wFun, DL.wWord, DL.wWordV, DL.wCallX, DL.wRaise, sr, sn, sm, sp, DL.eRepT]
  have x0 : decide (xorH [3] [] ≠ 0) = false := by
    have : xorH [3] [] = 0 := rfl
    rw [this]
    rfl
  have x8 : decide (xorH [0, 0, 0, 0, 0, 1] [400, 400, 400, 400, 400, 400, 400, 400] ≠ 0) = false := by
    have : ∀ (ds : List Nat) (x : Nat), xorH ds [x, x, x, x, x, x, x, x] = 0 := fun ds x => by
      unfold xorH
      simp only [List.foldl, Nat.zero_xor, Nat.xor_self]
    rw [this]
    rfl
  rw [x0]
  simp -implicitDefEqProofs only [DL.WW, List.isEmpty_nil, List.lookup_cons, List.lookup_nil, List.map, List.length, List.length_cons, List.length_nil, List.length_set, List.replicate, List.append, List.cons_append, List.nil_append, List.append_nil, List.getElem?_cons_zero, List.getElem?_cons_succ, List.getElem?_nil, List.set_cons_zero, List.set_cons_succ, ↓reduceIte, Bool.false_eq_true, Bool.not_true, Bool.not_false, Bool.true_and, Bool.false_and, Bool.and_true, Bool.and_false, Bool.or_true, Bool.or_false, Bool.true_or, Bool.false_or, Nat.reduceAdd, Nat.reduceSub, Nat.reduceLT, Nat.reduceLeDiff, true_and, and_true, and_self, decide_eq_true_eq, Nat.zero_lt_succ, Nat.lt_add_left_iff_pos, beq_self_eq_true, String.reduceBEq, String.reduceEq, Nat.le_refl, Nat.zero_le, Bool.true_eq_false, decide_true, decide_false, Int.reduceEq, Int.reduceLT, Int.reduceLE, Int.reduceSub, Int.reduceAdd, DL.wIfT, DL.wListRg, DL.eSortT, DL.wFun, DL.wWord, DL.wWordV, DL.wCallX, DL.wRaise, sr, sn, sm, sp, DL.eRepT]
  refine ⟨by simp, [0, 0, 0, 0, 0, 1], [400, 400, 400, 400, 400, 400, 400, 400], rfl, ok6, by decide, by decide, ?_⟩
  rw [x8]
  simp -implicitDefEqProofs only [DL.WW, List.isEmpty_nil, List.lookup_cons, List.lookup_nil, List.map, List.length, List.length_cons, List.length_nil, List.length_set, List.replicate, List.append, List.cons_append, List.nil_append, List.append_nil, List.getElem?_cons_zero, List.getElem?_cons_succ, List.getElem?_nil, List.set_cons_zero, List.set_cons_succ, ↓reduceIte, Bool.false_eq_true, Bool.not_true, Bool.not_false, Bool.true_and, Bool.false_and, Bool.and_true, Bool.and_false, Bool.or_true, Bool.or_false, Bool.true_or, Bool.false_or, Nat.reduceAdd, Nat.reduceSub, Nat.reduceLT, Nat.reduceLeDiff, true_and, and_true, and_self, decide_eq_true_eq, Nat.zero_lt_succ, Nat.lt_add_left_iff_pos, beq_self_eq_true, String.reduceBEq, String.reduceEq, Nat.le_refl, Nat.zero_le, Bool.true_eq_false, decide_true, decide_false, Int.reduceEq, Int.reduceLT, Int.reduceLE, Int.reduceSub, Int.reduceAdd, DL.wIfT, DL.wListRg, DL.eSortT, DL.wFun, DL.wWord, DL.wWordV, DL.wCallX, DL.wRaise, sr, sn, sm, sp, DL.eRepT]
  refine ⟨o3, _, rfl, ho3, by decide, fun e o4 ho4 he => ?_⟩
  obtain ⟨hp1, hp2⟩ := pick periodB _ (by decide +kernel) e he
  clear he
  simp -implicitDefEqProofs only [DL.WW, List.isEmpty_nil, List.lookup_cons, List.lookup_nil, List.map, List.length, List.length_cons, List.length_nil, List.length_set, List.replicate, List.append, List.cons_append, List.nil_append, List.append_nil, List.getElem?_cons_zero, List.getElem?_cons_succ, List.getElem?_nil, List.set_cons_zero, List.set_cons_succ, ↓reduceIte, Bool.false_eq_true, Bool.not_true, Bool.not_false, Bool.true_and, Bool.false_and, Bool.and_true, Bool.and_false, Bool.or_true, Bool.or_false, Bool.true_or, Bool.false_or, Nat.reduceAdd, Nat.reduceSub, Nat.reduceLT, Nat.reduceLeDiff, true_and, and_true, and_self, decide_eq_true_eq, Nat.zero_lt_succ, Nat.lt_add_left_iff_pos, beq_self_eq_true, String.reduceBEq, String.reduceEq, Nat.le_refl, Nat.zero_le, Bool.true_eq_false, decide_true, decide_false, Int.reduceEq, Int.reduceLT, Int.reduceLE, Int.reduceSub, Int.reduceAdd, DL.wIfT, DL.wListRg, DL.eSortT, DL.wFun, DL.wWord, DL.wWordV, DL.wCallX, DL.wRaise, sr, sn, sm, sp, hG]
  refine ⟨_, _, rfl, r3.1, hp1, (fun h => by rw [r3.2] at h; cases h), fun _ => ⟨hp2, rfl, _, .period, ?_⟩⟩
  simp -implicitDefEqProofs only [DL.WW, List.isEmpty_nil, List.lookup_cons, List.lookup_nil, List.map, List.length, List.length_cons, List.length_nil, List.length_set, List.replicate, List.append, List.cons_append, List.nil_append, List.append_nil, List.getElem?_cons_zero, List.getElem?_cons_succ, List.getElem?_nil, List.set_cons_zero, List.set_cons_succ, ↓reduceIte, Bool.false_eq_true, Bool.not_true, Bool.not_false, Bool.true_and, Bool.false_and, Bool.and_true, Bool.and_false, Bool.or_true, Bool.or_false, Bool.true_or, Bool.false_or, Nat.reduceAdd, Nat.reduceSub, Nat.reduceLT, Nat.reduceLeDiff, true_and, and_true, and_self, decide_eq_true_eq, Nat.zero_lt_succ, Nat.lt_add_left_iff_pos, beq_self_eq_true, String.reduceBEq, String.reduceEq, Nat.le_refl, Nat.zero_le, Bool.true_eq_false, decide_true, decide_false, Int.reduceEq, Int.reduceLT, Int.reduceLE, Int.reduceSub, Int.reduceAdd, DL.wIfT, DL.wListRg, DL.eSortT, DL.wFun, DL.wWord, DL.wWordV, DL.wCallX, DL.wRaise, sr, sn, sm, sp, DL.eRepT]
  refine ⟨[1], 200, 100, rfl, ok1, by decide, by decide, by decide, fun b hb => ?_⟩
  have hbt : b = true := hb.mpr shows_one
  subst hbt
  simp -implicitDefEqProofs only [DL.WW, List.isEmpty_nil, List.lookup_cons, List.lookup_nil, List.map, List.length, List.length_cons, List.length_nil, List.length_set, List.replicate, List.append, List.cons_append, List.nil_append, List.append_nil, List.getElem?_cons_zero, List.getElem?_cons_succ, List.getElem?_nil, List.set_cons_zero, List.set_cons_succ, ↓reduceIte, Bool.false_eq_true, Bool.not_true, Bool.not_false, Bool.true_and, Bool.false_and, Bool.and_true, Bool.and_false, Bool.or_true, Bool.or_false, Bool.true_or, Bool.false_or, Nat.reduceAdd, Nat.reduceSub, Nat.reduceLT, Nat.reduceLeDiff, true_and, and_true, and_self, decide_eq_true_eq, Nat.zero_lt_succ, Nat.lt_add_left_iff_pos, beq_self_eq_true, String.reduceBEq, String.reduceEq, Nat.le_refl, Nat.zero_le, Bool.true_eq_false, decide_true, decide_false, Int.reduceEq, Int.reduceLT, Int.reduceLE, Int.reduceSub, Int.reduceAdd, DL.wIfT, DL.wListRg, DL.eSortT, DL.wFun, DL.wWord, DL.wWordV, DL.wCallX, DL.wRaise, sr, sn, sm, sp, DL.eRepT]
  refine ⟨⟨by decide, by decide, by decide⟩, o4, _, rfl, ho4, by decide, fun e o5 ho5 he => ?_⟩
  obtain ⟨hn1, hn2⟩ := pick (inB 0 65535) _ (by decide +kernel) e he
  obtain ⟨_, hn3⟩ := pick (inB 1 65535) _ (by decide +kernel) e he
  clear he
  simp -implicitDefEqProofs only [DL.WW, List.isEmpty_nil, List.lookup_cons, List.lookup_nil, List.map, List.length, List.length_cons, List.length_nil, List.length_set, List.replicate, List.append, List.cons_append, List.nil_append, List.append_nil, List.getElem?_cons_zero, List.getElem?_cons_succ, List.getElem?_nil, List.set_cons_zero, List.set_cons_succ, ↓reduceIte, Bool.false_eq_true, Bool.not_true, Bool.not_false, Bool.true_and, Bool.false_and, Bool.and_true, Bool.and_false, Bool.or_true, Bool.or_false, Bool.true_or, Bool.false_or, Nat.reduceAdd, Nat.reduceSub, Nat.reduceLT, Nat.reduceLeDiff, true_and, and_true, and_self, decide_eq_true_eq, Nat.zero_lt_succ, Nat.lt_add_left_iff_pos, beq_self_eq_true, String.reduceBEq, String.reduceEq, Nat.le_refl, Nat.zero_le, Bool.true_eq_false, decide_true, decide_false, Int.reduceEq, Int.reduceLT, Int.reduceLE, Int.reduceSub, Int.reduceAdd, DL.wIfT, DL.wListRg, DL.eSortT, DL.wFun, DL.wWord, DL.wWordV, DL.wCallX, DL.wRaise, sr, sn, sm, sp, hG]
  refine ⟨_, _, rfl, hn1.1, en, by rw [hn2]; rfl, rfl, _, .number, ?_⟩
  try simp -implicitDefEqProofs only [DL.WW, List.isEmpty_nil, List.lookup_cons, List.lookup_nil, List.map, List.length, List.length_cons, List.length_nil, List.length_set, List.replicate, List.append, List.cons_append, List.nil_append, List.append_nil, List.getElem?_cons_zero, List.getElem?_cons_succ, List.getElem?_nil, List.set_cons_zero, List.set_cons_succ, ↓reduceIte, Bool.false_eq_true, Bool.not_true, Bool.not_false, Bool.true_and, Bool.false_and, Bool.and_true, Bool.and_false, Bool.or_true, Bool.or_false, Bool.true_or, Bool.false_or, Nat.reduceAdd, Nat.reduceSub, Nat.reduceLT, Nat.reduceLeDiff, true_and, and_true, and_self, decide_eq_true_eq, Nat.zero_lt_succ, Nat.lt_add_left_iff_pos, beq_self_eq_true, String.reduceBEq, String.reduceEq, Nat.le_refl, Nat.zero_le, Bool.true_eq_false, decide_true, decide_false, Int.reduceEq, Int.reduceLT, Int.reduceLE, Int.reduceSub, Int.reduceAdd, DL.wIfT, DL.wListRg, DL.eSortT, DL.wFun, DL.wWord, DL.wWordV, DL.wCallX, DL.wRaise, sr, sn, sm, sp, hG]
  refine ⟨_, _, rfl, .int 1, hn1.1, by rw [hn2, Bool.and_false], rfl, _, .number, ?_⟩
  try simp -implicitDefEqProofs only [DL.WW, List.isEmpty_nil, List.lookup_cons, List.lookup_nil, List.map, List.length, List.length_cons, List.length_nil, List.length_set, List.replicate, List.append, List.cons_append, List.nil_append, List.append_nil, List.getElem?_cons_zero, List.getElem?_cons_succ, List.getElem?_nil, List.set_cons_zero, List.set_cons_succ, ↓reduceIte, Bool.false_eq_true, Bool.not_true, Bool.not_false, Bool.true_and, Bool.false_and, Bool.and_true, Bool.and_false, Bool.or_true, Bool.or_false, Bool.true_or, Bool.false_or, Nat.reduceAdd, Nat.reduceSub, Nat.reduceLT, Nat.reduceLeDiff, true_and, and_true, and_self, decide_eq_true_eq, Nat.zero_lt_succ, Nat.lt_add_left_iff_pos, beq_self_eq_true, String.reduceBEq, String.reduceEq, Nat.le_refl, Nat.zero_le, Bool.true_eq_false, decide_true, decide_false, Int.reduceEq, Int.reduceLT, Int.reduceLE, Int.reduceSub, Int.reduceAdd, DL.wIfT, DL.wListRg, DL.eSortT, DL.wFun, DL.wWord, DL.wWordV, DL.wCallX, DL.wRaise, sr, sn, sm, sp, hG]
  refine ⟨_, rfl, hn1.1, hn3, rfl, _, .number, ?_⟩
  try simp -implicitDefEqProofs only [DL.WW, List.isEmpty_nil, List.lookup_cons, List.lookup_nil, List.map, List.length, List.length_cons, List.length_nil, List.length_set, List.replicate, List.append, List.cons_append, List.nil_append, List.append_nil, List.getElem?_cons_zero, List.getElem?_cons_succ, List.getElem?_nil, List.set_cons_zero, List.set_cons_succ, ↓reduceIte, Bool.false_eq_true, Bool.not_true, Bool.not_false, Bool.true_and, Bool.false_and, Bool.and_true, Bool.and_false, Bool.or_true, Bool.or_false, Bool.true_or, Bool.false_or, Nat.reduceAdd, Nat.reduceSub, Nat.reduceLT, Nat.reduceLeDiff, true_and, and_true, and_self, decide_eq_true_eq, Nat.zero_lt_succ, Nat.lt_add_left_iff_pos, beq_self_eq_true, String.reduceBEq, String.reduceEq, Nat.le_refl, Nat.zero_le, Bool.true_eq_false, decide_true, decide_false, Int.reduceEq, Int.reduceLT, Int.reduceLE, Int.reduceSub, Int.reduceAdd, DL.wIfT, DL.wListRg, DL.eSortT, DL.wFun, DL.wWord, DL.wWordV, DL.wCallX, DL.wRaise, sr, sn, sm, sp, hG]
  refine ⟨_, rfl, .int 0, by decide +kernel, rfl, _, .number, ?_⟩
  try simp -implicitDefEqProofs only [DL.WW, List.isEmpty_nil, List.lookup_cons, List.lookup_nil, List.map, List.length, List.length_cons, List.length_nil, List.length_set, List.replicate, List.append, List.cons_append, List.nil_append, List.append_nil, List.getElem?_cons_zero, List.getElem?_cons_succ, List.getElem?_nil, List.set_cons_zero, List.set_cons_succ, ↓reduceIte, Bool.false_eq_true, Bool.not_true, Bool.not_false, Bool.true_and, Bool.false_and, Bool.and_true, Bool.and_false, Bool.or_true, Bool.or_false, Bool.true_or, Bool.false_or, Nat.reduceAdd, Nat.reduceSub, Nat.reduceLT, Nat.reduceLeDiff, true_and, and_true, and_self, decide_eq_true_eq, Nat.zero_lt_succ, Nat.lt_add_left_iff_pos, beq_self_eq_true, String.reduceBEq, String.reduceEq, Nat.le_refl, Nat.zero_le, Bool.true_eq_false, decide_true, decide_false, Int.reduceEq, Int.reduceLT, Int.reduceLE, Int.reduceSub, Int.reduceAdd, DL.wIfT, DL.wListRg, DL.eSortT, DL.wFun, DL.wWord, DL.wWordV, DL.wCallX, DL.wRaise, sr, sn, sm, sp, hG]
  have q4 : SeqAt.shaped (.list [.str (Str.ofString "number"), .str (Str.ofString "number"), .str (Str.ofString "number"), .str (Str.ofString "number")]) = true := by decide +kernel
  have e4 : PyData.eqv (.list [.str (Str.ofString "number"), .str (Str.ofString "number"), .str (Str.ofString "number"), .str (Str.ofString "number")]) (.list (List.replicate (Int.toNat 4) [PyData.str (Str.ofString "number")]).flatten) = true := by decide +kernel
  refine ⟨⟨by decide, by decide⟩, by decide, q4, q4, ?_⟩
  rw [e4]
  simp -implicitDefEqProofs only [DL.WW, List.isEmpty_nil, List.lookup_cons, List.lookup_nil, List.map, List.length, List.length_cons, List.length_nil, List.length_set, List.replicate, List.append, List.cons_append, List.nil_append, List.append_nil, List.getElem?_cons_zero, List.getElem?_cons_succ, List.getElem?_nil, List.set_cons_zero, List.set_cons_succ, ↓reduceIte, Bool.false_eq_true, Bool.not_true, Bool.not_false, Bool.true_and, Bool.false_and, Bool.and_true, Bool.and_false, Bool.or_true, Bool.or_false, Bool.true_or, Bool.false_or, Nat.reduceAdd, Nat.reduceSub, Nat.reduceLT, Nat.reduceLeDiff, true_and, and_true, and_self, decide_eq_true_eq, Nat.zero_lt_succ, Nat.lt_add_left_iff_pos, beq_self_eq_true, String.reduceBEq, String.reduceEq, Nat.le_refl, Nat.zero_le, Bool.true_eq_false, decide_true, decide_false, Int.reduceEq, Int.reduceLT, Int.reduceLE, Int.reduceSub, Int.reduceAdd, DL.wIfT, DL.wListRg, DL.eSortT, DL.wFun, DL.wWord, DL.wWordV, DL.wCallX, DL.wRaise]
  refine ⟨rfl, ?_⟩
  simp -implicitDefEqProofs only [DL.WW, List.isEmpty_nil, List.lookup_cons, List.lookup_nil, List.map, List.length, List.length_cons, List.length_nil, List.length_set, List.replicate, List.append, List.cons_append, List.nil_append, List.append_nil, List.getElem?_cons_zero, List.getElem?_cons_succ, List.getElem?_nil, List.set_cons_zero, List.set_cons_succ, ↓reduceIte, Bool.false_eq_true, Bool.not_true, Bool.not_false, Bool.true_and, Bool.false_and, Bool.and_true, Bool.and_false, Bool.or_true, Bool.or_false, Bool.true_or, Bool.false_or, Nat.reduceAdd, Nat.reduceSub, Nat.reduceLT, Nat.reduceLeDiff, true_and, and_true, and_self, decide_eq_true_eq, Nat.zero_lt_succ, Nat.lt_add_left_iff_pos, beq_self_eq_true, String.reduceBEq, String.reduceEq, Nat.le_refl, Nat.zero_le, Bool.true_eq_false, decide_true, decide_false, Int.reduceEq, Int.reduceLT, Int.reduceLE, Int.reduceSub, Int.reduceAdd, DL.wIfT, DL.wListRg, DL.eSortT, DL.wFun, DL.wWord, DL.wWordV, DL.wCallX, DL.wRaise]
  refine ⟨[7, 7], 40, rfl, ok77, by decide, ?_⟩
  have hv : rowD (vals [7, 7] 40) = .tuple ((vals [7, 7] 40).map fun n : Nat => .int n) := rfl
  have hlv : (vals [7, 7] 40).length = 41 := Hp.vals_len mexN [7, 7] 40
  simp -implicitDefEqProofs only [DL.WW, List.isEmpty_nil, List.lookup_cons, List.lookup_nil, List.map, List.length, List.length_cons, List.length_nil, List.length_set, List.replicate, List.append, List.cons_append, List.nil_append, List.append_nil, List.getElem?_cons_zero, List.getElem?_cons_succ, List.getElem?_nil, List.set_cons_zero, List.set_cons_succ, ↓reduceIte, Bool.false_eq_true, Bool.not_true, Bool.not_false, Bool.true_and, Bool.false_and, Bool.and_true, Bool.and_false, Bool.or_true, Bool.or_false, Bool.true_or, Bool.false_or, Nat.reduceAdd, Nat.reduceSub, Nat.reduceLT, Nat.reduceLeDiff, true_and, and_true, and_self, decide_eq_true_eq, Nat.zero_lt_succ, Nat.lt_add_left_iff_pos, beq_self_eq_true, String.reduceBEq, String.reduceEq, Nat.le_refl, Nat.zero_le, Bool.true_eq_false, decide_true, decide_false, Int.reduceEq, Int.reduceLT, Int.reduceLE, Int.reduceSub, Int.reduceAdd, DL.wIfT, DL.wListRg, DL.eSortT, DL.wFun, DL.wWord, DL.wWordV, DL.wCallX, DL.wRaise, hv, List.length_map, hlv]
  rw [if_pos (by decide)]
  refine ⟨rfl, ?_⟩
  simp -implicitDefEqProofs only [DL.WW, List.isEmpty_nil, List.lookup_cons, List.lookup_nil, List.map, List.length, List.length_cons, List.length_nil, List.length_set, List.replicate, List.append, List.cons_append, List.nil_append, List.append_nil, List.getElem?_cons_zero, List.getElem?_cons_succ, List.getElem?_nil, List.set_cons_zero, List.set_cons_succ, ↓reduceIte, Bool.false_eq_true, Bool.not_true, Bool.not_false, Bool.true_and, Bool.false_and, Bool.and_true, Bool.and_false, Bool.or_true, Bool.or_false, Bool.true_or, Bool.false_or, Nat.reduceAdd, Nat.reduceSub, Nat.reduceLT, Nat.reduceLeDiff, true_and, and_true, and_self, decide_eq_true_eq, Nat.zero_lt_succ, Nat.lt_add_left_iff_pos, beq_self_eq_true, String.reduceBEq, String.reduceEq, Nat.le_refl, Nat.zero_le, Bool.true_eq_false, decide_true, decide_false, Int.reduceEq, Int.reduceLT, Int.reduceLE, Int.reduceSub, Int.reduceAdd, DL.wIfT, DL.wListRg, DL.eSortT, DL.wFun, DL.wWord, DL.wWordV, DL.wCallX, DL.wRaise]
  exact q G
theorem law_end {l : PySem.W.OpenLaw} {w : World} {K : PySem.W.Frag} {mg : Str → Option Value} {fa : Addr} {h : Heap} (KX : K.In h) (N : Nonempty (Txt K mg)) (hfa : mg "law" = some (.ref fa)) (htab : ∀ c P, PySem.W.tabIn K "law" = some (c, P) → h.get? P = some { cls := .none, data := .fields #[] }) : LamX.LawAtS l w K CX0 64 63 "_law_script" mg fa h := by
  obtain ⟨T⟩ := N
  have e := hfa.symm.trans T.g_law
  cases e
  refine ⟨T.d_law, [(T.cc_law, T.cP_law)], spG K (F_law T), fun p hp => ?_, fun p hp => ?_, fun p hp => ?_, T.B_law, fun H a ns hl _ hH hS => ?_, fun base _ _ hB => ?_⟩
  · rw [List.mem_singleton] at hp
    subst hp
    exact htab _ _ T.tb_law
  · rw [List.mem_singleton] at hp
    subst hp
    exact T.nP_law
  · rw [List.mem_singleton] at hp
    subst hp
    exact PySem.W.codeHd_of_K KX T.ch_law
  · exact lawT_run (hH _ (List.mem_singleton.mpr rfl)) hS ⟨ns, rfl, if_pos rfl, hl, fun _ => ⟨rfl, rfl⟩⟩
  have hB1 := hB _ (List.mem_singleton.mpr rfl)
  have t1 : FnOk l.prog w K mg base CX0 1 T.a_law_taken T.d_law_taken ["_law_row", "_law_many"] (spD K F_law_taken) := ok_law_taken T
  have p1 := ok_law_pick T t1
  have i1 : FnOk l.prog w K mg base CX0 1 T.a_is_int T.d_is_int ["value"] (spD K F_is_int) := ok_is_int T
  have i2 := ok_is_in T i1
  have xn := okX_need_number T i2
  have xr := okX_need_rule T i2
  have xhv := okX_heap_values T (GX_need_rule := xr) (GX_need_number := xn)
  have xho := okX_heap_options T (GX_need_rule := xr) (GX_need_number := xn)
  have xw := okX_wins_heaps (k := 3) T (GX_need_rule := xr) (G_is_in := i2.mono (by decide))
  have xs := okX_shows_period (k := 3) T (GX_need_rule := xr) (G_is_in := i2.mono (by decide))
  have xp := okX_period_of T (GX_need_rule := xr)
  have xt := okX_nim_times T (GX_need_number := xn)
  have xi := okX_nim_inverse T (GX_need_number := xn)
  have nn := ok_need_number T i2
  have pr : FnOk l.prog w K mg base CX0 1 T.a_product_of T.d_product_of ["one", "other", "half"] (spD K F_product_of) := ok_product_of T (by
    refine ⟨fun _ _ _ _ hs => ?_, fun _ _ _ _ _ _ _ _ _ _ _ _ _ hs => ?_⟩ <;> (obtain ⟨args, A, Hz, P, y, _, hF, hQ⟩ := hs; exact hF.elim))
  have nt := ok_nim_times (k := 3) T (G_need_number := nn.mono (by decide)) (G_product_of := pr.mono (by decide))
  have ni := ok_nim_inverse (k := 3) T (G_need_number := nn.mono (by decide)) (G_product_of := pr.mono (by decide))
  have n1 : FnOk l.prog w K mg base CX0 1 T.a_is_int T.d_is_int ["value"] K58.spIsInt := K58.ok_is_int T
  have n2 := K58.ok_is_in T n1
  have n3 := K58.ok_need_number T n2
  have r3 := K58.ok_need_rule T n2
  have l1 : FnOk l.prog w K mg base CX0 1 T.a_least_missing T.d_least_missing ["numbers"] _ := K58.ok_least_missing T
  have v2 := K58.ok_value_after T l1
  have v3 := K58.ok_values_to T v2
  have e1 : FnOk l.prog w K mg base CX0 1 T.a_end_of T.d_end_of ["rule", "start", "length"] (K58.spEnd K) := K58.ok_end_of T
  have h4 := (K58.ok_heap_values (k := 3) T r3 n3 v3).imp up_hv
  have s4 := (K58.ok_shows_period (k := 3) T r3 (n2.mono (by decide)) (e1.mono (by decide)) v3).imp up_shows
  have w4 := (K58.ok_wins_heaps (k := 3) T r3 (n2.mono (by decide)) v3).imp up_wins
  exact ok_law (k := 61) T hB1 (G_law_pick := p1.mono (by decide)) (G_wins_heaps := w4.mono (by decide)) (G_shows_period := s4.mono (by decide)) (G_nim_times := nt.mono (by decide)) (G_heap_values := h4.mono (by decide)) (G_nim_inverse := ni.mono (by decide))
    (GX_heap_values := xhv.mono (by decide)) (GX_heap_options := xho.mono (by decide)) (GX_wins_heaps := xw.mono (by decide)) (GX_shows_period := xs.mono (by decide)) (GX_period_of := xp.mono (by decide)) (GX_nim_times := xt.mono (by decide)) (GX_nim_inverse := xi.mono (by decide))
end
end K58D
open PySem PySem.W PyProof.Rows
set_option maxRecDepth 100000 in
set_option maxHeartbeats 0 in
theorem PySem.Challenge.cw_thermogames_k58_heaps_refused_holds : PySem.Challenge.rw_thermogames_k58_heaps_refused.Holds := by
  w_on; o_law; k_head; (case hw => w_witness2)
  k_fill
  refine LamX.walk_ofTs (l := PySem.Challenge.rw_thermogames_k58_heaps_refused) (n := 63) (k := 64) (x := "_law_script") (CX := fun _ => L2.CX0) rfl (by decide) rfl ⟨rfl, by decide, by decide⟩ (fun w h Y => PySem.W.km_in_of Y) ?F (fun _ _ _ _ _ h => h)
  case F =>
    intro w mg fa h Y KX G hmg
    refine' K58D.law_end KX (K58.txt_mk KX G ?a0 ?l0 ?c0 ?k0 ?a1 ?l1 ?c1 ?k1 ?a2 ?l2 ?c2 ?k2 ?a3 ?l3 ?c3 ?k3 ?a4 ?l4 ?c4 ?k4 ?a5 ?l5 ?c5 ?k5 ?a6 ?l6 ?c6 ?k6 ?a7 ?l7 ?c7 ?k7 ?a8 ?l8 ?c8 ?k8 ?a9 ?l9 ?c9 ?k9 ?a10 ?l10 ?c10 ?k10 ?a11 ?l11 ?c11 ?k11 ?a12 ?l12 ?c12 ?k12 ?a13 ?l13 ?c13 ?k13 ?a14 ?l14 ?c14 ?k14 ?a15 ?l15 ?c15 ?k15 ?a16 ?l16 ?c16 ?k16 ?a17 ?l17 ?c17 ?k17 ?a18 ?l18 ?c18 ?k18 ?a19 ?l19 ?c19 ?k19 ?a20 ?l20 ?c20 ?k20 ?xe0a ?xe0b ?xe0c ?xe0d ?xe0e ?xe0f ?xe0g ?xe0h ?xe0i ?xe0j ?xe0k ?xe0l ?xe1a ?xe1b ?xe1c ?xe1d ?xe1e ?xe1f ?xe1g ?xe1h ?xe1i ?xe1j ?xe1k ?xe1l ?xe2a ?xe2b ?xe2c ?xe2d ?xe2e ?xe2f ?xe2g ?xe2h ?xe2i ?xe2j ?xe2k ?xe2l ?xe3a ?xe3b ?xe3c ?xe3d ?xe3e ?xe3f ?xe3g ?xe3h ?xe3i ?xe3j ?xe3k ?xe3l ?xe4a ?xe4b ?xe4c ?xe4d ?xe4e ?xe4f ?xe4g ?xe4h ?xe4i ?xe4j ?xe4k ?xe4l ?xk0_0 ?xk0_1 ?xk0_2 ?xk0_3 ?xk0_4 ?xm0 ?xk1_0 ?xk1_1 ?xk1_2 ?xk1_3 ?xk1_4 ?xm1 ?xk2_0 ?xk2_1 ?xk2_2 ?xk2_3 ?xk2_4 ?xm2 ?xk3_0 ?xk3_1 ?xk3_2 ?xk3_3 ?xk3_4 ?xm3 ?xk4_0 ?xk4_1 ?xk4_2 ?xk4_3 ?xk4_4 ?xm4 ?tbL ?chL ?nPL ?v0 ?v1 ?v2 ?v3 ?v4 ?v5 ?v6 ?z0 ?z1 ?z2 ?z3 ?z4 ?z5 ?z6 ?z7 ?z8 ?z9) hmg (LamY.tab_mem ?tbM (PySem.W.km_tabs_of Y))
    case a0 => k_is
    case l0 => k_is
    case c0 => k_is
    case k0 => k_is
    case a1 => k_is
    case l1 => k_is
    case c1 => k_is
    case k1 => k_is
    case a2 => k_is
    case l2 => k_is
    case c2 => k_is
    case k2 => k_is
    case a3 => k_is
    case l3 => k_is
    case c3 => k_is
    case k3 => k_is
    case a4 => k_is
    case l4 => k_is
    case c4 => k_is
    case k4 => k_is
    case a5 => k_is
    case l5 => k_is
    case c5 => k_is
    case k5 => k_is
    case a6 => k_is
    case l6 => k_is
    case c6 => k_is
    case k6 => k_is
    case a7 => k_is
    case l7 => k_is
    case c7 => k_is
    case k7 => k_is
    case a8 => k_is
    case l8 => k_is
    case c8 => k_is
    case k8 => k_is
    case a9 => k_is
    case l9 => k_is
    case c9 => k_is
    case k9 => k_is
    case a10 => k_is
    case l10 => k_is
    case c10 => k_is
    case k10 => k_is
    case a11 => k_is
    case l11 => k_is
    case c11 => k_is
    case k11 => k_is
    case a12 => k_is
    case l12 => k_is
    case c12 => k_is
    case k12 => k_is
    case a13 => k_is
    case l13 => k_is
    case c13 => k_is
    case k13 => k_is
    case a14 => k_is
    case l14 => k_is
    case c14 => k_is
    case k14 => k_is
    case a15 => k_is
    case l15 => k_is
    case c15 => k_is
    case k15 => k_is
    case a16 => k_is
    case l16 => k_is
    case c16 => k_is
    case k16 => k_is
    case a17 => k_is
    case l17 => k_is
    case c17 => k_is
    case k17 => k_is
    case a18 => k_is
    case l18 => k_is
    case c18 => k_is
    case k18 => k_is
    case a19 => k_is
    case l19 => k_is
    case c19 => k_is
    case k19 => k_is
    case a20 => k_is
    case l20 => k_is
    case c20 => k_is
    case k20 => k_is
    case xe0a => k_is
    case xe0b => k_exc
    case xe0c => k_is
    case xe0d => k_is
    case xe0e => k_is
    case xe0f => k_is
    case xe0g => k_is
    case xe0h => k_is
    case xe0i => k_is
    case xe0j => k_is
    case xe0k => k_is
    case xe0l => k_is
    case xe1a => k_is
    case xe1b => k_exc
    case xe1c => k_is
    case xe1d => k_is
    case xe1e => k_is
    case xe1f => k_is
    case xe1g => k_is
    case xe1h => k_is
    case xe1i => k_is
    case xe1j => k_is
    case xe1k => k_is
    case xe1l => k_is
    case xe2a => k_is
    case xe2b => k_exc
    case xe2c => k_is
    case xe2d => k_is
    case xe2e => k_is
    case xe2f => k_is
    case xe2g => k_is
    case xe2h => k_is
    case xe2i => k_is
    case xe2j => k_is
    case xe2k => k_is
    case xe2l => k_is
    case xe3a => k_is
    case xe3b => k_exc
    case xe3c => k_is
    case xe3d => k_is
    case xe3e => k_is
    case xe3f => k_is
    case xe3g => k_is
    case xe3h => k_is
    case xe3i => k_is
    case xe3j => k_is
    case xe3k => k_is
    case xe3l => k_is
    case xe4a => k_is
    case xe4b => k_exc
    case xe4c => k_is
    case xe4d => k_is
    case xe4e => k_is
    case xe4f => k_is
    case xe4g => k_is
    case xe4h => k_is
    case xe4i => k_is
    case xe4j => k_is
    case xe4k => k_is
    case xe4l => k_is
    case xk0_0 => exact rfl
    case xk0_1 => exact rfl
    case xk0_2 => exact rfl
    case xk0_3 => exact rfl
    case xk0_4 => exact rfl
    case xm0 => exact rfl
    case xk1_0 => exact rfl
    case xk1_1 => exact rfl
    case xk1_2 => exact rfl
    case xk1_3 => exact rfl
    case xk1_4 => exact rfl
    case xm1 => exact rfl
    case xk2_0 => exact rfl
    case xk2_1 => exact rfl
    case xk2_2 => exact rfl
    case xk2_3 => exact rfl
    case xk2_4 => exact rfl
    case xm2 => exact rfl
    case xk3_0 => exact rfl
    case xk3_1 => exact rfl
    case xk3_2 => exact rfl
    case xk3_3 => exact rfl
    case xk3_4 => exact rfl
    case xm3 => exact rfl
    case xk4_0 => exact rfl
    case xk4_1 => exact rfl
    case xk4_2 => exact rfl
    case xk4_3 => exact rfl
    case xk4_4 => exact rfl
    case xm4 => exact rfl
    case tbL => exact rfl
    case chL => exact rfl
    case nPL => exact rfl
    case v0 => k_is
    case v1 => k_is
    case v2 => k_is
    case v3 => k_is
    case v4 => k_is
    case v5 => k_is
    case v6 => k_is
    case z0 => k_is
    case z1 => k_is
    case z2 => k_is
    case z3 => k_is
    case z4 => k_is
    case z5 => k_is
    case z6 => k_is
    case z7 => k_is
    case z8 => k_is
    case z9 => k_is
    case tbM => exact rfl
#print axioms PySem.Challenge.cw_thermogames_k58_heaps_refused_holds

