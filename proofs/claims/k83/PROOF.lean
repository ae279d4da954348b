import PyProof.Rows.All
import Wide.All
import OpenK.AllK
import HandS.ForMost
import HandS.SetFor
import HandS.Strs
import HandS.TupSets
import Wide.FinOn
import HandS.IsInst
import HandS.SortInts
import HandS.Style
import HandS.Evl
import HandS.More
import HandS.Zip
import PyProof.Draws
import PyProof.EnumMake
import HandS.TupAny
import HandS.Deep
import HandS.Star
import PySem.Challenge.RW_thermogames_k83_whole_maps_of_graphs
set_option Elab.async false
set_option linter.all false
set_option maxRecDepth 100000
set_option maxHeartbeats 4000000
/-! set(xs), xs a list of ints: a rule beside the hand layer's own for tuples -/
namespace TG
open PySem PySem.Spec PyProof.Rows L2
/-- the new set, still empty -/
abbrev s0 (w : World) : Obj := { cls := .type "set", dict := none, data := .set #[] 0 (.fresh 0 0 (!w.params.followText "set-order")) }
section
variable {P : Program} {w : World} {A : Around} {E : Value → Shared → Prop} {s : Shared}
theorem int_of {items : Array Value} {ns : List Int} (hit : IntsAre items.toList ns) (hsz : items.size = ns.length) (i : Nat) (v : Value) (hv : items[i]? = some v) : ∃ k t, ns[i]? = some k ∧ v = .int k t := by
  have hi : i < ns.length := by rw [← hsz]; exact (Array.getElem?_eq_some_iff.mp hv).1
  obtain ⟨t, e⟩ := IntsAre.int_at hit i v (by rw [Array.getElem?_toList]; exact hv)
  refine ⟨ns[i], t, List.getElem?_eq_getElem hi, ?_⟩
  rw [e, List.getD_eq_getElem?_getD, List.getElem?_eq_getElem hi] <;> rfl
/-- set(xs) -/
theorem set_of_list {l : Addr} {items : Array Value} (ns : List Int) {Q : Value → Shared → Prop} (hh : A.handled = none) (hl : s.heap.IsList l items) (hit : IntsAre items.toList ns) (hb : ns.length + 1 < scanBound)
    (h : ∀ (h' : Heap) (tk c : Nat), SetR w h' s.heap.objs.size (fun j => decide (j ∈ ns)) c → c ≤ ns.length → (∀ b o, s.heap.get? b = some o → h'.get? b = some o) → Q (.ref s.heap.objs.size) { s with heap := h', toks := tk }) :
    wpAny (model P w) A (call (.type "set") [.ref l]) Q E s := by
  have hsz : items.size = ns.length := by
    have q := IntsAre.length hit
    rw [Array.length_toList] at q
    exact q
  obtain ⟨c, tl, hmro⟩ := F.called_set.mro
  have hmade := F.called_set.made
  have hsub := F.called_set.sub
  refine wpAny_call (codeAny_of_tree ?_)
  show wpAny _ _ (callAny (.type "set") _) _ _ _
  refine wpAny_pure ⟨Code.quiet_builtin _ (by decide +kernel), codeAny_builtin F.entry_type_call ?_⟩
  rw [Around.under_plain (weight_type_call_type "set" [.ref l] []) rfl]
  have h1 := F.called_set.notType
  have h2 := F.called_set.canCreate
  have hct := F.typeCall_set_1 (.ref l)
  repeat (any_goals (first | assumption | wp_step))
  refine codeAny_mono (code_set_led1 (.ref l) (E := E) (Q₁ := fun obj s₁ => obj = .ref s.heap.objs.size ∧ s₁ = { s with heap := s.heap.push (s0 w) }) ⟨rfl, rfl⟩) fun r s₁ hr => ?_
  rcases r with e | fl
  · exact hr
  cases fl with
  | ret obj =>
    obtain ⟨rfl, rfl⟩ := hr
    have hS : (s.heap.push (s0 w)).get? s.heap.objs.size = some (s0 w) := Heap.get?_push_size _ rfl
    have hT : Shared.TypeIs { s with heap := s.heap.push (s0 w) } (.ref s.heap.objs.size) "set" := ⟨_, hS, rfl⟩
    have hli := F.called_set.init.lookup
    have hbi := F.called_set.init.bind (.ref s.heap.objs.size)
    repeat (any_goals (first | assumption | wp_step))
    refine codeAny_mono (codeAny_call_builtin (R := wants (fun r s₂ => r = .none ∧ ∃ h' tk c, s₂ = { s with heap := h', toks := tk } ∧ SetR w h' s.heap.objs.size (fun j => decide (j ∈ ns)) c ∧ c ≤ ns.length ∧
      (∀ b o, s.heap.get? b = some o → h'.get? b = some o)) E) F.called_set.init.plain F.entry_set_init (check_set_init_1 hT ?_)) fun r₂ s₂ hr₂ => ?_
    · obtain ⟨ol, hol, hcl, nl, hdl⟩ := hl
      obtain ⟨ocls, odict, odata, oslots⟩ := ol
      simp only at hcl hdl
      subst hcl; subst hdl
      have hol' : (s.heap.push (s0 w)).get? l = some { cls := .type "list", dict := odict, data := .seq items nl, slots := oslots } := Heap.get?_push_of_some _ hol
      have hsls := F.sub_list_set
      have hslf := F.sub_list_frozenset
      have hne : (Value.type "list" == Value.type "dict") = false := by decide
      have hl1 : (s.heap.push (s0 w)).IsList l items := ⟨_, hol', rfl, nl, rfl⟩
      unfold Builtin.«set.__init__» noKeywords Builtin.Frozenset.updateFrom
      generalize hPI : pyIter = PI
      wp_walk
      subst hPI
      refine wpAny_pyIter_list hl1 ?_
      refine wpAny_bind (wpAny_runValue ?_)
      have hlS : l < s.heap.objs.size := Heap.lt_size hol
      have hh3 : A.in1.in1.in1.handled = none := by simp [hh]
      have hz : (s.heap.push (s0 w)).objs.size = s.heap.objs.size + 1 := Heap.size_push ..
      have hneI : l ≠ (s.heap.push (s0 w)).objs.size := by rw [hz]; exact Nat.ne_of_lt (Nat.lt_succ_of_lt hlS)
      have hSf : s.heap.objs.size ∉ [(s.heap.push (s0 w)).objs.size, l] := by
        rw [hz]
        simp only [List.mem_cons, List.not_mem_nil, or_false, not_or]
        exact ⟨Nat.ne_of_lt (Nat.lt_succ_self _), Nat.ne_of_gt hlS⟩
      refine set_update_ints ((Walks.list hh3 _ l hneI items).toS) s.heap.objs.size hSf ns hsz hb (int_of hit hsz) (items.size - 0) 0 _ (by omega) (Nat.zero_le _)
        ⟨⟨_, Heap.get?_push_size _ rfl, rfl, rfl⟩, (hl1.push _)⟩ ⟨0, Nat.le_refl 0, setR_new_at (Heap.get?_push_of_some _ hS)⟩ ?_
      intro s' c' hm hc' hS'
      obtain ⟨h', g2, d', tk', os'⟩ := s'
      have eg : g2 = s.gens := hm.gens
      have ed : d' = s.drawn := hm.drawn
      have eo : os' = s.os := hm.os
      subst eg; subst ed; subst eo
      show wpAny _ _ _ _ _ _
      refine wpAny_pure ?_
      show wpAny _ _ (ret Value.none) _ _ _
      rw [hsz] at hc'
      refine wpAny_pure ⟨rfl, h', tk', c', rfl, hS', hc', fun b o e => ?_⟩
      have hb0 : b < s.heap.objs.size := Heap.lt_size e
      refine hm.heap b o ?_ (Heap.get?_push_of_some _ (Heap.get?_push_of_some _ e))
      rw [hz]
      simp only [List.mem_cons, List.not_mem_nil, or_false, not_or]
      exact ⟨Nat.ne_of_lt hb0, Nat.ne_of_lt (Nat.lt_succ_of_lt hb0)⟩
    · rcases r₂ with e | fl₂
      · exact hr₂
      cases fl₂ with
      | ret r =>
        obtain ⟨rfl, h', tk, c', rfl, hS', hc', hk'⟩ := hr₂
        repeat (any_goals (first | assumption | wp_step))
        exact h _ _ _ hS' hc' hk'
      | _ => exact hr₂.elim
  | _ => exact hr.elim
end
/-- set(xs): the set of the ints of a list -/
def rSetI (K : PySem.W.Frag) (w : World) : List V → Hp → VK → Prop := fun xs H Q => ∃ (l : Addr) (ns : List Int), xs = [.ref l] ∧ SqL K H l (ns.map V.int) ∧ ns.length ≤ 1000 ∧ ∀ p n, H p = none → n ≤ ns.length → Q (.ref p) (upd H p (SetO w p (fun j => decide (j ∈ ns)) n))
theorem cr_setI {X : Cx} (hc : X.calm = true) : CallR X (.type "set") (rSetI X.K X.w) := by
  intro pins s σ H xs us Q I r h
  obtain ⟨l, ns, rfl, hl, hn, q⟩ := h
  rw [Vals.ref1 r]
  obtain ⟨its, rv, pl, hz⟩ := I.list hl
  refine set_of_list ns (I.ok.hd hc) pl.isList (by simpa using rv.ints) (by unfold scanBound; omega) fun h' tk c R hcn k => ?_
  exact ⟨.ref _, upd H s.heap.objs.size (SetO X.w s.heap.objs.size (fun j => decide (j ∈ ns)) c), I.laid (t' := tk) k (Nat.le_refl _) (setO_new R), rfl, q _ c (I.hok.fresh (Nat.le_refl _)) hcn⟩
end TG


set_option Elab.async false
set_option linter.all false
set_option maxRecDepth 100000
set_option maxHeartbeats 4000000
/-! The kit of our own, over the hand layer: what all laws share. -/
namespace TG
open PySem L2
/-! ### names at once, for simp -/
theorem ex2_eq {α β : Sort _} {a : α} {b : β} {p : α → β → Prop} : (∃ v w, (a = v ∧ b = w) ∧ p v w) ↔ p a b :=
  ⟨fun ⟨_, _, ⟨h1, h2⟩, h⟩ => by subst h1 h2; exact h, fun h => ⟨_, _, ⟨rfl, rfl⟩, h⟩⟩
theorem ex3_eq {α β γ : Sort _} {a : α} {b : β} {c : γ} {p : α → β → γ → Prop} : (∃ v w x, (a = v ∧ b = w ∧ c = x) ∧ p v w x) ↔ p a b c :=
  ⟨fun ⟨_, _, _, ⟨h1, h2, h3⟩, h⟩ => by subst h1 h2 h3; exact h, fun h => ⟨_, _, _, ⟨rfl, rfl, rfl⟩, h⟩⟩
theorem ex4_eq {α β γ δ : Sort _} {a : α} {b : β} {c : γ} {d : δ} {p : α → β → γ → δ → Prop} : (∃ v w x y, (a = v ∧ b = w ∧ c = x ∧ d = y) ∧ p v w x y) ↔ p a b c d :=
  ⟨fun ⟨_, _, _, _, ⟨h1, h2, h3, h4⟩, h⟩ => by subst h1 h2 h3 h4; exact h, fun h => ⟨_, _, _, _, ⟨rfl, rfl, rfl, rfl⟩, h⟩⟩
/-! ### a weaker reading -/
theorem ps_imp {X : Cx} {st : Stmt} {t t' : TS} (h : ∀ D σ H, t' D σ H → t D σ H) (p : PS X st t) : PS X st t' := ⟨fun pins s σ H D I q => p.run pins s σ H D I (h D σ H q)⟩
theorem pe_imp {X : Cx} {e : Expr} {t t' : TE} (h : ∀ σ H Q, t' σ H Q → t σ H Q) (p : PE X e t) : PE X e t' := ⟨fun pins s σ H Q I q => p.run pins s σ H Q I (h σ H Q q)⟩
theorem same_new {H : Hp} {p : Addr} (h : H p = none) (o : HO) : Same H (upd H p o) := fun b u q => by rw [upd_ne (ne_of_none q h)]; exact q
/-- a, b = constants: a tuple is made on the way -/
def tParC (i j : Nat) (v w : V) : TS := fun D σ H => ∀ H', Same H H' → D.nx ((σ.set i (some v)).set j (some w)) H'
theorem parC {K : PySem.W.Frag} {i j : Nat} {v w : V} : ∀ D σ H, tParC i j v w D σ H → tAsg (tTup (tCons (tC v) (tCons (tC w) tNil))) (gTup K 2 (gCons (gName i) (gCons (gName j) gNil))) D σ H :=
  fun D σ H h => ⟨by show 2 ≤ sizeLine; decide, fun p hp => ⟨p, _, rfl, SqT.of upd_same, rfl, _, _, rfl, _, _, rfl, rfl, h _ (same_new hp _)⟩⟩
/-! ### one step into a reading -/
section
variable {σ : L2.St} {H : Hp} {D : Ends} {te ta tb : TE} {r : R2} {Q : VK} {g : TG} {t u : TS} {tt : TT} {ts : TA}
theorem go_ret (h : te σ H D.rt) : tRet te D σ H := h
theorem go_op (h : ta σ H fun x H1 => tb σ H1 fun y H2 => r x y H2 Q) : tOp r ta tb σ H Q := h
theorem go_asg (h : te σ H fun x H1 => g x σ H1 D.nx) : tAsg te g D σ H := h
theorem go_seq (h : t { D with nx := u D } σ H) : tSeq t u D σ H := h
theorem go_drop (h : te σ H fun _ H1 => D.nx σ H1) : tDrop te D σ H := h
theorem go_ifS {u : TS} (h : tt σ H fun b H1 => if b = true then t D σ H1 else u D σ H1) : tIfS tt t u D σ H := h
theorem go_cons {tr : TA} {Q : List V → Hp → Prop} (h : ta σ H fun x H1 => tr σ H1 fun xs H2 => Q (x :: xs) H2) : tCons ta tr σ H Q := h
theorem go_cb {f : List V → Hp → VK → Prop} (h : ts σ H fun vs H1 => f vs H1 Q) : tCB f ts σ H Q := h
theorem go_call {sp : Sp} {dvs : List V} {E : XK} (h : ts σ H fun vs H1 => sp (vs ++ dvs) H1 Q E) : tCall sp dvs E ts σ H Q := h
end
/-! ### the rules with the written part named -/
section
variable {X : Cx} {K : PySem.W.Frag}
theorem op_in_seqK (hK : X.K = K) : OpR X (compareOp .In) (rIn K false) := by subst hK; exact op_in_seq
theorem op_notIn_seqK (hK : X.K = K) : OpR X (compareOp .NotIn) (rIn K true) := by subst hK; exact op_notIn_seq
theorem ix_listK (hK : X.K = K) : IxR X (rIxL K) := by subst hK; exact ix_list
theorem ix_tupK (hK : X.K = K) : IxR X (rIxT K) := by subst hK; exact ix_tup
theorem ix_seqK (hK : X.K = K) : IxR X (rIx K) := by subst hK; exact ix_seq
def rLenQ (K : PySem.W.Frag) : List V → Hp → VK → Prop := fun xs H Q => ∃ p ys, xs = [.ref p] ∧ (SqL K H p ys ∨ SqT K H p ys) ∧ Q (.int ys.length) H
theorem call_lenK (hK : X.K = K) : CallR X (.builtin "len") (rLenQ K) := by subst hK; exact call_len_seq
def rListOf (K : PySem.W.Frag) : List V → Hp → VK → Prop := fun xs H Q => ∃ p ys, xs = [.ref p] ∧ (SqL K H p ys ∨ SqT K H p ys) ∧ ∀ l, H l = none → Q (.ref l) (upd H l (.lst ys))
theorem call_list_ofK (hK : X.K = K) : CallR X (.type "list") (rListOf K) := by subst hK; exact call_list_of
def rTupOf (K : PySem.W.Frag) : List V → Hp → VK → Prop := fun xs H Q => ∃ p ys, xs = [.ref p] ∧ ((SqL K H p ys ∧ ∀ l, H l = none → Q (.ref l) (upd H l (.tup ys))) ∨ (SqT K H p ys ∧ Q (.ref p) H))
theorem call_tuple_ofK (hK : X.K = K) : CallR X (.type "tuple") (rTupOf K) := by subst hK; exact call_tuple_of
theorem cr_sumK (hK : X.K = K) (hc : X.calm = true) : CallR X (.builtin "sum") (rSum K) := by subst hK; exact cr_sum hc
theorem cr_maxK (hK : X.K = K) (hc : X.calm = true) : CallR X (.builtin "max") (rMax K) := by subst hK; exact cr_max hc
theorem cr_minK (hK : X.K = K) (hc : X.calm = true) : CallR X (.builtin "min") (rMin K) := by subst hK; exact cr_min hc
theorem cr_anyK (hK : X.K = K) (hc : X.calm = true) : CallR X (.builtin "any") (rAny K) := by subst hK; exact cr_any hc
theorem cr_allK (hK : X.K = K) (hc : X.calm = true) : CallR X (.builtin "all") (rAll K) := by subst hK; exact cr_all hc
theorem cr_sortedIK (hK : X.K = K) : CallR X (.builtin "sorted") (rSortedI K) := by subst hK; exact cr_sortedI
theorem sl_listK (hK : X.K = K) : SlR X (rSlL K) := by subst hK; exact sl_list
theorem sl_tupK (hK : X.K = K) : SlR X (rSlT K) := by subst hK; exact sl_tup
theorem op_catTK (hK : X.K = K) : OpR X (binaryOp .Add) (rCatT K) := by subst hK; exact op_catT
theorem op_eqDK (hK : X.K = K) (hu : X.A.units + 64 < cLine) : OpR X (compareOp .Eq) (rEqD K) := by subst hK; exact op_eqD hu
theorem op_neDK (hK : X.K = K) (hu : X.A.units + 64 < cLine) : OpR X (compareOp .NotEq) (rNeD K) := by subst hK; exact op_neD hu
theorem call_isiTK (hK : X.K = K) : CallR X (.builtin "isinstance") (rIsiT K) := by subst hK; exact call_isiT
theorem call_isiK' (hK : X.K = K) : CallR X (.builtin "isinstance") (rIsi K) := by subst hK; exact call_isi
theorem pi_listK {tg l : Expr} {tl : TE} (hK : X.K = K) (hl : PE X l tl) : PI X tg l (iList K tl) := by subst hK; exact pi_list hl
theorem pi_tupK {tg l : Expr} {tl : TE} (hK : X.K = K) (hl : PE X l tl) : PI X tg l (iTup K tl) := by subst hK; exact pi_tup hl
theorem pi_enumK {e : Expr} {ta : TA} {p pos tpos : Pos} {elts : List Expr} {kk : Nat} (hK : X.K = K) (hg : Gl X "enumerate") (hm : X.mg "enumerate" = none) (ha : PA X [e] ta) (hs : starEach [e] X.env = [(false, eval e X.env)] := by rfl) :
    PI X (.Tuple elts kk tpos) (.Call (.Name "enumerate" p) [e] [] pos) (iEnum K ta) := by subst hK; exact pi_enum hg hm ha hs
theorem pi_zipK {e e2 : Expr} {ta : TA} {p pos tpos : Pos} {elts : List Expr} {kk : Nat} (hK : X.K = K) (hg : Gl X "zip") (hm : X.mg "zip" = none) (ha : PA X [e, e2] ta)
    (hs : starEach [e, e2] X.env = (false, eval e X.env) :: starEach [e2] X.env := by rfl) (hpl : (backTo pos (starEach [e2] X.env)).any (·.1) = false := by rfl) :
    PI X (.Tuple elts kk tpos) (.Call (.Name "zip" p) [e, e2] [] pos) (iZip K ta) := by subst hK; exact pi_zip hg hm ha hs hpl
theorem pg_tupK {pos : Pos} {es : List Expr} {k : Nat} {t : TGs} {n : Nat} (hK : X.K = K) (hc : X.calm = true) (h : PGs X es t)
    (hn : (assignEach es X.env).length = n := by rfl) (hst : (assignEach es X.env).findIdx? (·.1) = none := by rfl) : PG X (.Tuple es k pos) (gTup K n t) := by subst hK; exact pg_tup hc h hn hst
theorem pe_bm0K {o : Expr} {to : TE} {name : Str} {apos cpos : Pos} {T id : String} {r : V → List V → Hp → VK → Prop} (hK : X.K = K) (pa : PlainAttrs T) (slot : Slot T name id) (hty : typeOf (.builtin id) = pure (.type "method_descriptor")) (hm : MtR X id r) (ho : PE X o to)
    (hbase : attributeBase o name X.env (eval o X.env) = eval o X.env := by rfl) (hline : (apos.endLine == cpos.line) = true := by rfl) : PE X (.Call (.Attribute o name apos) [] [] cpos) (tBM0 K T r to) := by subst hK; exact pe_bm0 pa slot hty hm ho hbase hline
theorem pe_bmK {o e : Expr} {es : List Expr} {to : TE} {t : TA} {name : Str} {apos cpos : Pos} {T id : String} {r : V → List V → Hp → VK → Prop} (hK : X.K = K) (pa : PlainAttrs T) (slot : Slot T name id) (hty : typeOf (.builtin id) = pure (.type "method_descriptor")) (hm : MtR X id r) (ho : PE X o to) (ha : PA X (e :: es) t)
    (hbase : attributeBase o name X.env (eval o X.env) = eval o X.env := by rfl)
    (hfew : ((backTo cpos (starEach (e :: es) X.env)).all (fun x => !x.1) && (backToKw cpos (keywordEach [] X.env)).all (fun x => x.1.isSome)
      && decide ((e :: es).length + ([] : List Keyword).length + (if ([] : List Keyword).isEmpty then 0 else 1) < 30)) = true := by rfl)
    (hline : (apos.endLine == cpos.line) = true := by rfl) (hs : starEach (e :: es) X.env = (false, eval e X.env) :: starEach es X.env := by rfl) (hplain : (backTo cpos (starEach es X.env)).any (·.1) = false := by rfl) :
    PE X (.Call (.Attribute o name apos) (e :: es) [] cpos) (tBM K T r to t) := by subst hK; exact pe_bm pa slot hty hm ho ha hbase hfew hline hs hplain
end
/-! ### isinstance of plain values -/
def sTy : V → Option String
  | .non => some "NoneType"
  | .bl _ => some "bool"
  | .int _ => some "int"
  | .str _ => some "str"
  | _ => none
def rIsiS : List V → Hp → VK → Prop := fun xs H Q => ∃ x c t b, xs = [x, .ty c] ∧ sTy x = some t ∧ kitB t c = some b ∧ Q (.bl b) H
theorem call_isiS {X : Cx} : CallR X (.builtin "isinstance") rIsiS := by
  intro pins s σ H xs us Q I r h
  obtain ⟨x, c, t, b, rfl, ht, hk, q⟩ := h
  have ty : TyX X.K H x (.type t) := by
    cases x with
    | non => cases ht; exact .base .non
    | bl b => cases ht; exact .base (.bl b)
    | int i => cases ht; exact .base (.int i)
    | str z => cases ht; exact .base (.str z)
    | _ => cases ht
  exact call_isi pins s σ H _ us Q I r ⟨x, .ty c, .type t, .type c, b, rfl, .ty c, ty, kit_ty hk, q⟩
theorem kit_int_int : kitB "int" "int" = some true := by decide +kernel
theorem kit_int_bool : kitB "int" "bool" = some false := by decide +kernel
theorem kit_int_str : kitB "int" "str" = some false := by decide +kernel
theorem kit_int_tuple : kitB "int" "tuple" = some false := by decide +kernel
theorem kit_int_list : kitB "int" "list" = some false := by decide +kernel
/-! ### the law's row of draws -/
def hide (H : Hp) (r : Addr) : Hp := fun b => if b = r then none else H b
theorem hide_upd {H : Hp} {r : Addr} {o : HO} : hide (upd H r o) r = hide H r := by
  funext b
  unfold hide upd
  by_cases h : b = r
  · rw [if_pos h, if_pos h]
  · rw [if_neg h, if_neg h, if_neg h]
theorem hide_same {H : Hp} {r : Addr} : Same (hide H r) H := fun b o e => by
  unfold hide at e
  by_cases h : b = r
  · rw [if_pos h] at e
    cases e
  · rw [if_neg h] at e
    exact e
/-- what stands apart from r is as it was, or more -/
def Off (r : Addr) (H H' : Hp) : Prop := ∀ b o, b ≠ r → H b = some o → H' b = some o
theorem Off.hide {r : Addr} {H H' : Hp} (h : Off r H H') : Same (hide H r) (hide H' r) := fun b o e => by
  unfold TG.hide at e ⊢
  by_cases hb : b = r
  · rw [if_pos hb] at e
    cases e
  · rw [if_neg hb] at e ⊢
    exact h b o hb e
theorem Off.refl {r : Addr} {H : Hp} : Off r H H := fun _ _ _ e => e
theorem Off.trans {r : Addr} {H H1 H2 : Hp} (a : Off r H H1) (b : Off r H1 H2) : Off r H H2 := fun x o hx e => b x o hx (a x o hx e)
theorem Off.upd {r : Addr} {H : Hp} {o : HO} : Off r H (upd H r o) := fun b u hb e => by rw [upd_ne hb]; exact e
theorem Off.of {r : Addr} {H H' : Hp} (h : Same H H') : Off r H H' := fun b u _ e => h b u e
theorem Off.eq {r : Addr} {H H' : Hp} (h : ∀ b, b ≠ r → H' b = H b) : Off r H H' := fun b u hb e => by rw [h b hb]; exact e
/-- the row: the script, a place, a seed, what is left of a great cell -/
def Row (K : PySem.W.Frag) (H : Hp) (r : Addr) : Prop :=
  ∃ (a : Addr) (ns : List Int) (i s t : Int), H r = some (.lst [.ref a, .int i, .int s, .int t]) ∧ SqL K (hide H r) a (ns.map V.int) ∧ ns.length ≤ 63 ∧ 0 ≤ i
theorem Row.more {K : PySem.W.Frag} {H H' : Hp} {r : Addr} (h : Row K H r) (s : Same H H') : Row K H' r := by
  obtain ⟨a, ns, i, z, t, h1, h2, h3, h4⟩ := h
  exact ⟨a, ns, i, z, t, s _ _ h1, (Off.hide (Off.of s)).seq h2, h3, h4⟩
theorem Row.there {K : PySem.W.Frag} {H : Hp} {r : Addr} (h : Row K H r) : ∃ xs, H r = some (.lst xs) := by
  obtain ⟨a, ns, i, z, t, h1, _⟩ := h
  exact ⟨_, h1⟩
/-- what changes is no list -/
theorem Row.off {K : PySem.W.Frag} {H H' : Hp} {r d : Addr} {u : HO} (h : Row K H r) (o : Off d H H') (hd : H d = some u) (hu : (∀ xs, u ≠ .lst xs) ∧ ∀ x y, u ≠ .frz x y) : Row K H' r := by
  obtain ⟨a, ns, i, z, t, h1, h2, h3, h4⟩ := h
  have hrd : r ≠ d := fun e => by
    rw [e, hd] at h1
    exact hu.1 _ (Option.some.inj h1)
  refine ⟨a, ns, i, z, t, o _ _ hrd h1, ?_, h3, h4⟩
  have key : ∀ v, hide H r a = some v → ((∃ xs, v = HO.lst xs) ∨ ∃ x y, v = HO.frz x y) → hide H' r a = some v := fun v e c => by
    have e1 : H a = some v := hide_same a v e
    have had : a ≠ d := fun q => by
      rw [q, hd] at e1
      have e2 := Option.some.inj e1
      rcases c with ⟨xs, c⟩ | ⟨x, y, c⟩
      · exact hu.1 _ (e2.trans c)
      · exact hu.2 _ _ (e2.trans c)
    have har : a ≠ r := fun q => by
      unfold hide at e
      rw [if_pos q] at e
      cases e
    unfold hide
    rw [if_neg har]
    exact o a v had e1
  rcases h2 with (h2 | ⟨x, h2⟩) | h2
  · exact .inl (.inl (key _ h2 (.inl ⟨_, rfl⟩)))
  · exact .inl (.inr ⟨x, key _ h2 (.inr ⟨_, _, rfl⟩)⟩)
  · exact .inr h2
/-- a draw: some number below m; the row turns, all else stands -/
def spTaken (K : PySem.W.Frag) : Sp := fun vs H Q _ => ∃ (r : Addr) (m : Int), vs = [.ref r, .int m] ∧ Row K H r ∧ (0 < m ∧ m < 1073741824) ∧
  ∀ (d : Int) (H' : Hp), 0 ≤ d → d < m → Row K H' r → (∀ b, b ≠ r → H' b = H b) → Q (.int d) H'
theorem at0 {a b c d : V} : atI [a, b, c, d] 0 = some a := rfl
theorem at1 {a b c d : V} : atI [a, b, c, d] 1 = some b := rfl
theorem at2 {a b c d : V} : atI [a, b, c, d] 2 = some c := rfl
theorem at3 {a b c d : V} : atI [a, b, c, d] 3 = some d := rfl
theorem mul_small {i : Int} : CMul i 48271 := .inr ⟨by decide, by decide⟩
/-- one of some things -/
def spPick (K : PySem.W.Frag) : Sp := fun vs H Q _ => ∃ (r p : Addr) (xs : List V), vs = [.ref r, .ref p] ∧ Row K H r ∧ H p = some (.lst xs) ∧ p ≠ r ∧ (0 < xs.length ∧ xs.length < 1000) ∧
  ∀ (v : V) (H' : Hp), v ∈ xs → Row K H' r → (∀ b, b ≠ r → H' b = H b) → Q v H'
/-- the row as the law makes it -/
theorem Row.make {K : PySem.W.Frag} {H : Hp} {r a : Addr} {ns : List Int} {s : Int} (hr : H r = none) (h : SqL K H a (ns.map V.int)) (hl : ns.length ≤ 63) : Row K (upd H r (.lst [.ref a, .int 0, .int s, .int 0])) r :=
  ⟨a, ns, 0, s, 0, upd_same, by
    rw [hide_upd]
    refine Same.seq (fun b o e => ?_) h
    unfold hide
    rw [if_neg (ne_of_none e hr)]
    exact e, hl, Int.le_refl 0⟩
/-! ### lists without repetition -/
theorem nodup_le {α : Type} [DecidableEq α] : ∀ {l m : List α}, l.Nodup → (∀ x ∈ l, x ∈ m) → l.length ≤ m.length
  | [], _, _, _ => Nat.zero_le _
  | x :: r, m, hn, hs => by
    have hx : x ∈ m := hs x List.mem_cons_self
    have hr := List.nodup_cons.mp hn
    have ih := nodup_le (l := r) (m := m.erase x) hr.2 fun y hy => by
      have hne : y ≠ x := fun e => hr.1 (e ▸ hy)
      exact (List.mem_erase_of_ne hne).mpr (hs y (List.mem_cons_of_mem _ hy))
    have hp : 0 < m.length := List.length_pos_of_mem hx
    rw [List.length_erase_of_mem hx] at ih
    rw [List.length_cons]
    omega
theorem nodup_cast : ∀ n : Nat, ((List.range n).map fun k : Nat => (k : Int)).Nodup := fun n => by
  rw [List.Nodup, List.pairwise_map]
  exact List.Pairwise.imp (fun h e => by omega) (List.pairwise_lt_range (n := n))
theorem int_in (k : Int) : ∀ ns : List Int, inV (.int k) (ns.map V.int) = decide (k ∈ ns)
  | [] => rfl
  | n :: r => by
    have ih := int_in k r
    unfold inV at ih ⊢
    rw [List.map_cons, List.any_cons, ih]
    by_cases h : n = k
    · subst h
      simp [eqV]
    · have h2 : ¬ k = n := fun e => h e.symm
      simp [eqV, h, h2]
theorem ints_flat (ns : List Int) : (ns.map V.int).all flatV = true := by
  rw [List.all_map, List.all_eq_true]
  intro x _
  rfl
end TG


set_option Elab.async false
set_option linter.all false
set_option maxRecDepth 100000
set_option maxHeartbeats 4000000
/-! enumerate(tuple) in a for, over the hand layer -/
namespace TG
open PySem PySem.Spec PyProof.Rows L2
open PySem.AutoSeq1 (wpAny_loadPart')
theorem meets_enumT (l : Addr) (items : Array Value) (n : Nat) (dct : Option Addr) (sl : Array (Option Value)) :
    Meets (Builtin.«enumerate.__new__» ⟨[.type "enumerate", .ref l], []⟩) (fun _ R s => s.heap.get? l = some { cls := .type "tuple", dict := dct, data := .seq items n, slots := sl } ∧
      R (.ok (.ret (.ref (s.heap.push { cls := .type "tuple_iterator", data := .fields #[.ref l, .int 0 0] }).objs.size)))
        { s with heap := (s.heap.push { cls := .type "tuple_iterator", data := .fields #[.ref l, .int 0 0] }).push { cls := .type "enumerate", data := .fields #[.none, .bool false, .ref s.heap.objs.size, rawInt 0, .none, .none] } }) :=
  .of_wp fun prog w A R s h => by
    obtain ⟨hp, g, d, tk, os⟩ := s; obtain ⟨hl, h⟩ := h
    have hsub := sub_enumerate
    have hL : Heap.IsTuple (Shared.heap ⟨hp, g, d, tk, os⟩) l items := ⟨_, hl, rfl, n, rfl⟩
    wp_walk using wpAny_loadPart' hl
    refine wpAny_stack_any fun st => wpAny_pure ?_
    split
    · rename_i c _ _ _ _ _
      cases (c == Value.type "enumerate")
      · wp_walk using wpAny_loadPart' hl, wpAny_pyIter_tuple hL
        exact ⟨_, rfl, h⟩
      · wp_walk using wpAny_loadPart' hl, wpAny_pyIter_tuple hL
        exact ⟨_, rfl, h⟩
    · wp_walk using wpAny_loadPart' hl, wpAny_pyIter_tuple hL
      exact ⟨_, rfl, h⟩
section
variable {prog : Program} {w : World} {A : Around} {E : Value → Shared → Prop} {s : Shared}
theorem call_enumT {l : Addr} {items : Array Value} {Q : Value → Shared → Prop} (hL : s.heap.IsTuple l items)
    (h : ∀ h', IsEnum h' (s.heap.objs.size + 1) s.heap.objs.size 0 .none → h'.IsTupleIter s.heap.objs.size l 0 → h'.objs.size = s.heap.objs.size + 2 →
      (∀ b o, s.heap.get? b = some o → h'.get? b = some o) → Q (.ref (s.heap.objs.size + 1)) { s with heap := h' }) :
    wpAny (model prog w) A (call (.type "enumerate") [.ref l]) Q E s := by
  obtain ⟨⟨c, dct, dt, sl⟩, hl, hc, n, hd⟩ := hL
  replace hc : c = .type "tuple" := hc
  replace hd : dt = .seq items n := hd
  subst hc hd
  refine callType_new F.called_enumerate (by decide) (F.typeCall_enumerate_1 _) (F.newCall_enumerate_1 _) (fun obj => F.args_object_init_2 obj _) F.entry_enumerate_new
    (meets_enumT l items n dct sl) ⟨hl, ?_⟩
  have hz : (s.heap.push { cls := .type "tuple_iterator", data := .fields #[.ref l, .int 0 0] }).objs.size = s.heap.objs.size + 1 := Heap.size_push ..
  show _ ∧ _
  rw [hz]
  have he : IsEnum ((s.heap.push { cls := .type "tuple_iterator", data := .fields #[.ref l, .int 0 0] }).push
      { cls := .type "enumerate", data := .fields #[.none, .bool false, .ref s.heap.objs.size, rawInt 0, .none, .none] }) (s.heap.objs.size + 1) s.heap.objs.size 0 .none := by
    have := Heap.get?_push_size (s.heap.push { cls := .type "tuple_iterator", data := .fields #[.ref l, .int 0 0] })
      (o := { cls := .type "enumerate", data := .fields #[.none, .bool false, .ref s.heap.objs.size, rawInt 0, .none, .none] }) rfl
    rw [hz] at this; exact this
  refine ⟨⟨_, he, rfl⟩, h _ he ⟨_, Heap.get?_push_of_some _ (Heap.get?_push_size _ rfl), rfl, rfl⟩ (by rw [Heap.size_push, hz]) fun b o x => Heap.get?_push_of_some _ (Heap.get?_push_of_some _ x)⟩
end
theorem drawsT {prog : Program} {w : World} {A : Around} (hh : A.handled = none) (it l : Addr) (hne : l ≠ it) (items : Array Value) :
    Draws prog w A it [it, l] items.size (fun i v => items[i]? = some v) (fun i h => h.IsTupleIter it l i ∧ h.IsTuple l items) where
  live := fun _ _ st => let ⟨o, ho, _⟩ := st.1; ⟨o, ho⟩
  frame := fun _ _ _ st hk => ⟨st.1.at fun o e => hk it (by simp) o e, let ⟨o, ho, r⟩ := st.2; ⟨o, hk l (by simp) o ho, r⟩⟩
  item := fun i s Q E hi st hQ => by
    refine RZ.nextOf_tuple_item st.1 st.2 (x := items[i]) (by simp [hi]) fun h' hit' hs' => ?_
    exact hQ _ h' s.toks (by simp [hi]) ⟨hit', let ⟨o, ho, r⟩ := st.2; ⟨o, (hs'.2 l hne).trans ho, r⟩⟩ hs'
  done := fun s Q E st hE => RZ.nextOf_tuple_end hh st.1 st.2 (by simp) hE
/-- the tuple at a as it stands at each turn, each item in a new pair -/
def IteT (K : PySem.W.Frag) (a : Addr) : It :=
  ⟨fun i H => ∃ (xs : List V) (x : V), SqT K H a xs ∧ xs[i]? = some x, fun i H v H' => ∃ T x, v = .ref T ∧ H T = none ∧ H' = upd H T (.tup [.int (i : Nat), x]) ∧ ∀ xs, SqT K H a xs → xs[i]? = some x, fun i H => ∃ xs : List V, SqT K H a xs ∧ xs.length = i⟩
theorem turn_enumT {P : Program} {w : World} {K : PySem.W.Frag} {elts : List Expr} {kk : Nat} {tpos : Pos} (a e it : Addr) :
    Turn P w K (.Tuple elts kk tpos) (IteT K a) [e, it] e (fun i h => (∃ old, IsEnum h e it ((i : Nat) : Int) old) ∧ h.IsTupleIter it a i ∧ e ≠ it ∧ a ≠ it ∧ a ≠ e) where
  mem := by simp
  obj := fun i h st b hb => by
    obtain ⟨⟨old, he⟩, ⟨o, ho, hc, hd⟩, _⟩ := st
    have e' : b = e ∨ b = it := by simpa using hb
    rcases e' with z | z
    · rw [z]; exact ⟨_, he, fun v q => nomatch q⟩
    · rw [z]; exact ⟨o, ho, fun v q => by rw [hd] at q; cases q⟩
  keep := fun i h h' st k => let ⟨⟨old, he⟩, hi, hne⟩ := st; ⟨⟨old, k e (by simp) _ he⟩, hi.at fun o q => k it (by simp) o q, hne⟩
  item := by
    intro X hP hw hK hc i pins s σ H E I hf st hg
    subst hP hw hK
    obtain ⟨⟨old, he⟩, hit, hne, hai, hae⟩ := st
    obtain ⟨xs, x, hq, hx⟩ := hg
    obtain ⟨its, rv, p, hz⟩ := I.tuple hq
    obtain ⟨u, hu, ru⟩ := rv.get hx
    have hel : e < s.heap.objs.size := Heap.lt_size he
    have hil : it < s.heap.objs.size := by obtain ⟨_, q, _⟩ := hit; exact Heap.lt_size q
    have hilen : i < its.toArray.size := by
      have := (List.getElem?_eq_some_iff.mp hu).1
      simpa using this
    have D := drawsT (prog := X.prog) (w := X.w) (A := X.A.in1) (I.ok.hd hc) it a hai its.toArray
    refine wpAny_pyNext_enum_itemD D he ⟨hit, p⟩ hilen hne (by simp [hne, Ne.symm hae]) fun x' h' tk hP' ho hit' hT hsz hk => ?_
    have ex : x' = u := by
      have h1 : its[i]? = some x' := by simpa using hP'
      rw [hu] at h1
      exact (Option.some.inj h1).symm
    subst ex
    refine ⟨_, rfl, wpAny_letOwnedTupleGo_enum (s := { s with heap := h', toks := tk + 1 }) ho fun h'' he' sb => ?_⟩
    have hT2 : h''.get? s.heap.objs.size = some { cls := .type "tuple", data := .seq #[.int i tk, x'] } := (sb.2 _ (Nat.ne_of_gt hel)).trans hT
    have new : ObjOk X.prog X.w (upd H s.heap.objs.size (.tup [.int (i : Nat), x])) h'' s.heap.objs.size (.tup [.int (i : Nat), x]) :=
      ⟨by show 2 ≤ sizeLine; decide, [.int i tk, x'], .cons ⟨_, rfl⟩ (.cons ru .nil), ⟨_, hT2, rfl, _, rfl⟩⟩
    have I1 : Inv X pins σ (upd H s.heap.objs.size (.tup [.int (i : Nat), x])) { s with heap := h'', toks := tk + 1 } :=
      I.turnedNew (ch := [e, it]) (fun b ob hb q => (sb.2 b (fun z => hb (by simp [z]))).trans (hk b ob (fun z => hb (by simp [z])) (fun z => hb (by simp [z])) q)) hf (Nat.le_refl _) new
    refine ⟨.ref s.heap.objs.size, _, I1, rfl, ⟨_, x, rfl, I.hok.fresh (Nat.le_refl _), rfl, fun ys hy => by rw [I.tuple_inj hy hq]; exact hx⟩, ⟨⟨x', ?_⟩, hit'.1.at fun o q => (sb.2 it (Ne.symm hne)).trans q, hne, hai, hae⟩, fun b hb => ?_⟩
    · have e1 : ((i + 1 : Nat) : Int) = (i : Int) + 1 := by omega
      rw [e1]; exact he'
    · have hb' : b < s.heap.objs.size := by
        have e' : b = e ∨ b = it := by simpa using hb
        rcases e' with z | z
        · rw [z]; exact hel
        · rw [z]; exact hil
      rw [upd_ne (Nat.ne_of_lt hb')]
      exact (hf b hb).1
  done := by
    intro X hP hw hK hc i pins s σ H E I hf st hg
    subst hP hw hK
    obtain ⟨⟨old, he⟩, hit, hne, hai, hae⟩ := st
    obtain ⟨xs, hq, hx⟩ := hg
    obtain ⟨its, rv, p, hz⟩ := I.tuple hq
    obtain ⟨f0, f1, f2, f3, f4, f5⟩ := hf it (by simp)
    have hl := rv.length
    have D := drawsT (prog := X.prog) (w := X.w) (A := X.A.in1) (I.ok.hd hc) it a hai its.toArray
    have hi : i = its.toArray.size := by simp; omega
    rw [hi] at hit
    exact wpAny_pyNext_enum_endD D he ⟨hit, p⟩ fun h' eb => ⟨rfl, I.turned (t' := s.toks) (fun b o hb q => eb b o hb q) f0 f1 f3 f4 f5⟩
  self := fun A i s Q E st h => let ⟨⟨_, he⟩, _⟩ := st; wpAny_pyIter_enum he h
def iEnumT (K : PySem.W.Frag) (ta : TA) : TI := fun σ H R => ta σ H fun vs H1 => ∃ a xs, vs = [.ref a] ∧ SqT K H1 a xs ∧ R (IteT K a) H1
theorem pi_enumT {X : Cx} {K : PySem.W.Frag} {e : Expr} {ta : TA} {p pos tpos : Pos} {elts : List Expr} {kk : Nat} (hK : X.K = K) (hg : Gl X "enumerate") (hm : X.mg "enumerate" = none) (ha : PA X [e] ta) (hs : starEach [e] X.env = [(false, eval e X.env)] := by rfl) :
    PI X (.Tuple elts kk tpos) (.Call (.Name "enumerate" p) [e] [] pos) (iEnumT K ta) := by
  subst hK
  refine ⟨fun pins s σ H R I h => ?_⟩
  refine Call_ (ld_blt I hg hm boot_enumerate (PyProof.Rows.callWith_type1 (thn (ha.run pos pins s σ H _ I h) fun us s1 ⟨vs, H1, I1, r1, q1⟩ => ?_) hs rfl))
  obtain ⟨a, xs, ex, hq, q⟩ := q1
  subst ex
  cases r1 with
  | cons r rr =>
    cases rr
    cases r
    obtain ⟨its, rv, p', hz⟩ := I1.tuple hq
    have hal : a < s1.heap.objs.size := by obtain ⟨o, ho, _⟩ := p'; exact Heap.lt_size ho
    refine call_enumT p' fun h' he hit hsz hk => wpAny_pyIter_enum he ?_
    have I2 : Inv X pins σ H1 { s1 with heap := h' } := I1.kept (t' := s1.toks) hk
    refine ⟨s1.heap.objs.size + 1, [s1.heap.objs.size + 1, s1.heap.objs.size], _, _, H1, rfl, I2, turn_enumT a (s1.heap.objs.size + 1) s1.heap.objs.size, ⟨⟨.none, he⟩, hit, Nat.succ_ne_self _, Nat.ne_of_lt hal, Nat.ne_of_lt (Nat.lt_succ_of_lt hal)⟩, fun b hb => ?_, q⟩
    have e' : b = s1.heap.objs.size + 1 ∨ b = s1.heap.objs.size := by simpa using hb
    have hle : s1.heap.objs.size ≤ b := by
      rcases e' with z | z
      · rw [z]; exact Nat.le_add_right _ _
      · rw [z]; exact Nat.le_refl _
    exact I1.fpOk hle (I1.hok.fresh hle)
/-- a for over enumerate(tuple): the invariant by the turn -/
theorem for_enumT {K : PySem.W.Frag} {a : Addr} {xs : List V} {i1 i2 : Nat} {tb : TS} {D : Ends} {σ : L2.St} {H : Hp} (Pv : Nat → L2.St → Hp → Prop) (h0 : Pv 0 σ H) (hl : ∀ i σ H, i ≤ xs.length → Pv i σ H → SqT K H a xs)
    (hs : ∀ i x σ H H', xs[i]? = some x → Pv i σ H → Same H H' → tb { D with nx := Pv (i + 1), ct := Pv (i + 1), bk := D.nx } ((σ.set i1 (some (.int (i : Nat)))).set i2 (some x)) H') (hd : ∀ σ H, Pv xs.length σ H → D.nx σ H) :
    ∃ W : Nat → Nat → L2.St → Hp → Prop, (∃ m, W 0 m σ H) ∧ ∀ i m σ H, W i m σ H →
      ((IteT K a).stop i H ∧ D.nx σ H) ∨ ((IteT K a).go i H ∧ ∃ N : L2.St → Hp → Prop, (∀ σ' H', N σ' H' → ∃ m', m' < m ∧ W (i + 1) m' σ' H') ∧ ∀ x H', (IteT K a).yld i H x H' →
        gTup K 2 (gCons (gName i1) (gCons (gName i2) gNil)) x σ H' fun σ2 H2 => tb { D with nx := N, ct := N, bk := D.nx } σ2 H2) := by
  refine ⟨fun i m σ H => m = xs.length - i ∧ i ≤ xs.length ∧ Pv i σ H, ⟨xs.length, by simp, Nat.zero_le _, h0⟩, ?_⟩
  rintro i m σ H ⟨rfl, hi, p⟩
  have hq := hl i σ H hi p
  by_cases hlt : i < xs.length
  · refine .inr ⟨⟨xs, xs[i], hq, List.getElem?_eq_getElem hlt⟩, Pv (i + 1), fun σ' H' p' => ⟨xs.length - (i + 1), by omega, rfl, hlt, p'⟩, fun x H' y => ?_⟩
    obtain ⟨T, z, rfl, hT, rfl, hz⟩ := y
    exact ⟨T, _, rfl, SqT.of upd_same, rfl, _, _, rfl, _, _, rfl, rfl, hs i z σ H _ (hz xs hq) p (same_new hT _)⟩
  · have e : i = xs.length := by omega
    subst e
    exact .inl ⟨⟨xs, hq, rfl⟩, hd σ H p⟩
end TG


set_option Elab.async false
set_option linter.all false
set_option maxRecDepth 100000
set_option maxHeartbeats 4000000
namespace TG
open PySem L2
/-! ### further steps into a reading -/
section
variable {σ : L2.St} {H : Hp} {D : Ends} {te : TE} {tt tu : TT} {Q : Bool → Hp → Prop}
theorem go_next (h : D.nx σ H) : tNext D σ H := h
theorem go_or (h : tt σ H fun c H1 => if c = true then Q true H1 else tu σ H1 Q) : tOr tt tu σ H Q := h
theorem go_and (h : tt σ H fun c H1 => if c = true then tu σ H1 Q else Q false H1) : tAnd tt tu σ H Q := h
theorem go_not (h : tt σ H fun c H1 => Q (!c) H1) : tNot tt σ H Q := h
theorem go_B (h : te σ H fun x H1 => ∃ c, x = .bl c ∧ Q c H1) : tB te σ H Q := h
theorem go_test (h : te σ H fun x H1 => ∃ c, x = .bl c ∧ Q c H1) : tTest te σ H Q := h
end
/-! ### more rules with the written part named -/
section
variable {X : Cx} {K : PySem.W.Frag}
theorem op_catAK (hK : X.K = K) : OpR X (binaryOp .Add) (rCatA K) := by subst hK; exact op_catA
theorem sl_tupAK (hK : X.K = K) : SlR X (rSlA K) := by subst hK; exact sl_tupA
/-- the type's name of a value: plain ones, tuples, lists -/
def TyN (K : PySem.W.Frag) (H : Hp) (x : V) (t : String) : Prop :=
  sTy x = some t ∨ (t = "tuple" ∧ ∃ a ys, x = .ref a ∧ SqT K H a ys) ∨ (t = "list" ∧ ∃ a ys, x = .ref a ∧ H a = some (.lst ys)) ∨ (t = "dict" ∧ ∃ a kvs, x = .ref a ∧ H a = some (.dK kvs))
theorem TyN.x {H : Hp} {x : V} {t : String} (h : TyN K H x t) : TyX K H x (.type t) := by
  rcases h with h | ⟨rfl, a, ys, rfl, (h | ⟨o, h⟩) | ⟨o, its, n, h, hc, _⟩⟩ | ⟨rfl, a, ys, rfl, h⟩ | ⟨rfl, a, kvs, rfl, h⟩
  · cases x with
    | non => cases h; exact .base .non
    | bl b => cases h; exact .base (.bl b)
    | int i => cases h; exact .base (.int i)
    | str z => cases h; exact .base (.str z)
    | _ => cases h
  · exact .base (.tup h)
  · exact .fTuple h
  · exact .kTuple h hc
  · exact .base (.lst h)
  · exact .base (.dK h)
def rIsiG (K : PySem.W.Frag) : List V → Hp → VK → Prop := fun xs H Q => ∃ x c t b, xs = [x, .ty c] ∧ TyN K H x t ∧ kitB t c = some b ∧ Q (.bl b) H
theorem call_isiG (hK : X.K = K) : CallR X (.builtin "isinstance") (rIsiG K) := by
  subst hK
  intro pins s σ H xs us Q I r h
  obtain ⟨x, c, t, b, rfl, ht, hk, q⟩ := h
  exact call_isi pins s σ H _ us Q I r ⟨x, .ty c, .type t, .type c, b, rfl, .ty c, ht.x, kit_ty hk, q⟩
end
theorem kit_tuple_tuple : kitB "tuple" "tuple" = some true := by decide +kernel
theorem kit_tuple_int : kitB "tuple" "int" = some false := by decide +kernel
theorem kit_bool_bool : kitB "bool" "bool" = some true := by decide +kernel
theorem kit_bool_int : kitB "bool" "int" = some true := by decide +kernel
theorem TyN.int {K : PySem.W.Frag} {H : Hp} {n : Int} : TyN K H (.int n) "int" := .inl rfl
theorem TyN.bl {K : PySem.W.Frag} {H : Hp} {b : Bool} : TyN K H (.bl b) "bool" := .inl rfl
theorem TyN.tup {K : PySem.W.Frag} {H : Hp} {a : Addr} {ys : List V} (h : SqT K H a ys) : TyN K H (.ref a) "tuple" := .inr (.inl ⟨rfl, a, ys, rfl, h⟩)
theorem sqT {K : PySem.W.Frag} {H H' : Hp} {a : Addr} {xs : List V} (e : Same H H') (h : SqT K H a xs) : SqT K H' a xs := Evl.ex_t e h
theorem sqL {K : PySem.W.Frag} {H H' : Hp} {a : Addr} {xs : List V} (e : Same H H') (h : SqL K H a xs) : SqL K H' a xs := Evl.ex_l e h
/-! ### the row of draws, the script named -/
def RowA (K : PySem.W.Frag) (a : Addr) (ns : List Int) (H : Hp) (r : Addr) : Prop :=
  ∃ (i s t : Int), H r = some (.lst [.ref a, .int i, .int s, .int t]) ∧ SqL K (hide H r) a (ns.map V.int) ∧ ns.length ≤ 63 ∧ 0 ≤ i
section
variable {K : PySem.W.Frag} {a : Addr} {ns : List Int} {H H' : Hp} {r D : Addr}
theorem RowA.more (h : RowA K a ns H r) (s : Same H H') : RowA K a ns H' r := by
  obtain ⟨i, z, t, h1, h2, h3, h4⟩ := h
  exact ⟨i, z, t, s _ _ h1, (Off.hide (Off.of s)).seq h2, h3, h4⟩
theorem RowA.there (h : RowA K a ns H r) : ∃ xs, H r = some (.lst xs) := by
  obtain ⟨i, z, t, h1, _⟩ := h
  exact ⟨_, h1⟩
theorem RowA.make {s : Int} (hr : H r = none) (h : SqL K H a (ns.map V.int)) (hl : ns.length ≤ 63) : RowA K a ns (upd H r (.lst [.ref a, .int 0, .int s, .int 0])) r :=
  ⟨0, s, 0, upd_same, by
    rw [hide_upd]
    refine Same.seq (fun b o e => ?_) h
    unfold hide
    rw [if_neg (ne_of_none e hr)]
    exact e, hl, Int.le_refl 0⟩
/-- D is not where the script stands -/
def Safe (K : PySem.W.Frag) (a : Addr) (ns : List Int) (D : Addr) : Prop := a ≠ D ∨ ∀ H, SqL K H a (ns.map V.int)
theorem RowA.safe (h : RowA K a ns H r) (hD : H D = none) : Safe K a ns D := by
  obtain ⟨i, z, t, h1, h2, h3, h4⟩ := h
  rcases h2 with (h2 | ⟨x, h2⟩) | h2
  · exact .inl (ne_of_none (hide_same a _ h2) hD)
  · exact .inl (ne_of_none (hide_same a _ h2) hD)
  · exact .inr fun H => .inr h2
/-- all but D is kept -/
theorem RowA.off (h : RowA K a ns H r) (hr : r ≠ D) (hs : Safe K a ns D) (o : Off D H H') : RowA K a ns H' r := by
  obtain ⟨i, z, t, h1, h2, h3, h4⟩ := h
  refine ⟨i, z, t, o _ _ hr h1, ?_, h3, h4⟩
  rcases hs with hs | hs
  · have key : ∀ v, hide H r a = some v → hide H' r a = some v := fun v e => by
      unfold hide at e ⊢
      by_cases har : a = r
      · rw [if_pos har] at e
        cases e
      · rw [if_neg har] at e ⊢
        exact o a v hs e
    rcases h2 with (h2 | ⟨x, h2⟩) | h2
    · exact .inl (.inl (key _ h2))
    · exact .inl (.inr ⟨x, key _ h2⟩)
    · exact .inr h2
  · exact hs _
theorem RowA.upd {o : HO} (h : RowA K a ns H r) (hr : r ≠ D) (hs : Safe K a ns D) : RowA K a ns (upd H D o) r := h.off hr hs Off.upd
end
/-- a tuple stands while the row turns -/
theorem sqT_row {K : PySem.W.Frag} {H H' : Hp} {p r : Addr} {xs ys : List V} (h : SqT K H p xs) (hr : H r = some (.lst ys)) (ho : ∀ b, b ≠ r → H' b = H b) : SqT K H' p xs := by
  have key : ∀ u, H p = some u → (∀ zs, u ≠ .lst zs) → H' p = some u := fun u e hu => by
    rw [ho p (fun c => by rw [c, hr] at e; exact hu _ (Option.some.inj e).symm)]
    exact e
  rcases h with (h | ⟨o, h⟩) | h
  · exact .inl (.inl (key _ h (fun _ z => by cases z)))
  · exact .inl (.inr ⟨o, key _ h (fun _ z => by cases z)⟩)
  · exact .inr h
/-- a draw: some number below m; the row turns, all else stands -/
def spTk (K : PySem.W.Frag) : Sp := fun vs H Q _ => ∃ (r a : Addr) (ns : List Int) (m : Int), vs = [.ref r, .int m] ∧ RowA K a ns H r ∧ (0 < m ∧ m < 1073741824) ∧
  ∀ (d : Int) (H' : Hp), 0 ≤ d → d < m → RowA K a ns H' r → (∀ b, b ≠ r → H' b = H b) → Q (.int d) H'
/-- one of some things -/
def spPk (K : PySem.W.Frag) : Sp := fun vs H Q _ => ∃ (r a p : Addr) (ns : List Int) (xs : List V), vs = [.ref r, .ref p] ∧ RowA K a ns H r ∧ H p = some (.lst xs) ∧ p ≠ r ∧ (0 < xs.length ∧ xs.length < 1000) ∧
  ∀ (v : V) (H' : Hp), v ∈ xs → RowA K a ns H' r → (∀ b, b ≠ r → H' b = H b) → Q v H'
/-! ### a comprehension over range(a, b) -/
theorem el_lcR2 {σ : L2.St} {H : Hp} {t : TT} {te : TE} {ta : TA} {j : Nat} {vs : List Nat} {lo hi : Int} (f : Nat → Bool) (v : Nat → V) (h : Evl.EvA ta σ H [.int lo, .int hi]) (hn : -100000 ≤ lo ∧ lo ≤ 100000 ∧ -100000 ≤ hi ∧ hi ≤ 100000 ∧ hi - lo ≤ 40000) (hw : ∀ x, wipe ((wipe σ vs).set j (some x)) vs = wipe σ vs)
    (ht : ∀ (i : Nat) H1, Evl.Ex H H1 → lo + (i : Int) < hi → Evl.EvT t ((wipe σ vs).set j (some (.int (lo + (i : Int))))) H1 (f i)) (he : ∀ (i : Nat) H1, Evl.Ex H H1 → lo + (i : Int) < hi → f i = true → Evl.Ev te ((wipe σ vs).set j (some (.int (lo + (i : Int))))) H1 (v i)) :
    Evl.EvL (tLc (iRng2 ta) (gName j) t te vs) σ H (Evl.given (hi - lo).toNat f v) := fun H0 e Q q => h H0 e _ fun H1 e1 => ⟨lo, hi, rfl, ⟨by omega, by omega, by omega, by omega⟩, fun Dl hD =>
  lc_range (lo := lo) (n := (hi - lo).toNat) (Evl.Cw H1 f v Dl) ⟨hD, Evl.Ex.new hD, upd_same⟩ (fun i H' hi' p =>
    ⟨hw _, Evl.cw_turn p (by omega) (ht i H1 (e.trans e1) (by omega)) (fun hf => he i H1 (e.trans e1) (by omega) hf)⟩) (fun H' p => q Dl H' (Evl.fresh_back e1 p.1) (e1.trans p.2.1) p.2.2)⟩
/-- over a tuple -/
theorem el_lcT {K : PySem.W.Frag} {σ : L2.St} {H : Hp} {t : TT} {te : TE} {a : Addr} {xs : List V} {tl : TE} {j : Nat} {vs : List Nat} (f : Nat → Bool) (v : Nat → V) (h : Evl.Ev tl σ H (.ref a)) (hx : SqT K H a xs) (hz : xs.length ≤ 40000) (hw : ∀ x, wipe ((wipe σ vs).set j (some x)) vs = wipe σ vs)
    (ht : ∀ (i : Nat) (x : V) H1, Evl.Ex H H1 → xs[i]? = some x → Evl.EvT t ((wipe σ vs).set j (some x)) H1 (f i)) (he : ∀ (i : Nat) (x : V) H1, Evl.Ex H H1 → xs[i]? = some x → f i = true → Evl.Ev te ((wipe σ vs).set j (some x)) H1 (v i)) :
    Evl.EvL (tLc (iTup K tl) (gName j) t te vs) σ H (Evl.given xs.length f v) := fun H0 e Q q => h H0 e _ fun H1 e1 => ⟨a, rfl, ⟨xs, Evl.ex_t (e.trans e1) hx⟩, fun Dl hD =>
  lc_tup (xs := xs) (Evl.Cw H1 f v Dl) ⟨hD, Evl.Ex.new hD, upd_same⟩ (fun i H' _ p => Evl.ex_t ((e.trans e1).trans p.2.1) hx) (fun i x H' hi p => ⟨hw x, Evl.cw_turn p (by have := (List.getElem?_eq_some_iff.mp hi).1; omega) (ht i x H1 (e.trans e1) hi) (fun hf => he i x H1 (e.trans e1) hi hf)⟩)
    (fun H' p => q Dl H' (Evl.fresh_back e1 p.1) (e1.trans p.2.1) p.2.2)⟩
theorem given_all (n : Nat) (v : Nat → V) : Evl.given n (fun _ => true) v = (List.range n).map v := by
  unfold Evl.given
  rw [List.filter_eq_self.mpr (fun _ _ => rfl)]
/-! ### the least that is missing -/
def miss (ns : List Int) : List Nat := (List.range (ns.length + 1)).filter fun k => !decide ((k : Int) ∈ ns)
theorem miss_ne (ns : List Int) : miss ns ≠ [] := by
  intro h
  have h1 : ∀ k ∈ List.range (ns.length + 1), ((k : Int)) ∈ ns := fun k hk => by
    have := List.filter_eq_nil_iff.mp h k hk
    simpa using this
  have h2 := nodup_le (l := (List.range (ns.length + 1)).map fun k : Nat => (k : Int)) (m := ns) (nodup_cast _) (fun x hx => by
    obtain ⟨k, hk, rfl⟩ := List.mem_map.mp hx
    exact h1 k hk)
  rw [List.length_map, List.length_range] at h2
  omega
def mexL (ns : List Int) : Nat := (miss ns).headD 0
theorem below_len {ns : List Int} {m : Nat} (h2 : ∀ j : Nat, j < m → ((j : Int)) ∈ ns) : m ≤ ns.length := by
  have h3 := nodup_le (l := (List.range m).map fun k : Nat => (k : Int)) (m := ns) (nodup_cast _) (fun x hx => by
    obtain ⟨k, hk, rfl⟩ := List.mem_map.mp hx
    exact h2 k (List.mem_range.mp hk))
  rw [List.length_map, List.length_range] at h3
  exact h3
theorem mexL_of {ns : List Int} {m : Nat} (h1 : ((m : Int)) ∉ ns) (h2 : ∀ j : Nat, j < m → ((j : Int)) ∈ ns) : mexL ns = m := by
  have hm : m ∈ miss ns := by
    refine List.mem_filter.mpr ⟨List.mem_range.mpr ?_, by simpa using h1⟩
    have := below_len h2
    omega
  have hs : (miss ns).Pairwise (· < ·) := List.Pairwise.filter _ List.pairwise_lt_range
  have hin : ∀ j ∈ miss ns, ¬ j < m := fun j hj hlt => by
    have := (List.mem_filter.mp hj).2
    simp [h2 j hlt] at this
  unfold mexL
  cases e : miss ns with
  | nil => exact absurd e (miss_ne ns)
  | cons x r =>
    rw [e] at hm hs hin
    have h3 := hin x List.mem_cons_self
    have : x = m := by
      rcases List.mem_cons.mp hm with h | h
      · exact h.symm
      · have := (List.pairwise_cons.mp hs).1 m h
        omega
    simp [this]
theorem mexL_spec (ns : List Int) : ((mexL ns : Nat) : Int) ∉ ns ∧ ∀ j : Nat, j < mexL ns → ((j : Int)) ∈ ns := by
  have hs : (miss ns).Pairwise (· < ·) := List.Pairwise.filter _ List.pairwise_lt_range
  unfold mexL
  cases e : miss ns with
  | nil => exact absurd e (miss_ne ns)
  | cons x r =>
    have hx : x ∈ miss ns := by rw [e]; exact List.mem_cons_self
    obtain ⟨h1, h2⟩ := List.mem_filter.mp hx
    refine ⟨by simpa using h2, fun j hj => ?_⟩
    show ((j : Int)) ∈ ns
    have hj' : j < x := hj
    have hjr : j ∈ List.range (ns.length + 1) := List.mem_range.mpr (by have := List.mem_range.mp h1; omega)
    by_cases c : ((j : Int)) ∈ ns
    · exact c
    · have hm : j ∈ miss ns := List.mem_filter.mpr ⟨hjr, by simpa using c⟩
      rw [e] at hm hs
      rcases List.mem_cons.mp hm with h | h
      · omega
      · have := (List.pairwise_cons.mp hs).1 j h
        omega
theorem mexL_congr {xs ys : List Int} (h : ∀ t, t ∈ xs ↔ t ∈ ys) : mexL xs = mexL ys := by
  obtain ⟨h1, h2⟩ := mexL_spec ys
  exact mexL_of (fun q => h1 ((h _).mp q)) (fun j hj => (h _).mpr (h2 j hj))
/-! ### dicts -/
theorem put_fst {κ : Type} [DecidableEq κ] (kvs : List (κ × V)) (k : κ) (v : V) : (putK kvs k v).map (·.1) = if k ∈ kvs.map (·.1) then kvs.map (·.1) else kvs.map (·.1) ++ [k] := by
  unfold putK
  by_cases h : k ∈ kvs.map (·.1)
  · rw [if_pos h, if_pos]
    · rw [List.map_map]
      refine List.map_congr_left fun p _ => ?_
      show (if p.1 = k then (p.1, v) else p).1 = p.1
      by_cases hp : p.1 = k
      · rw [if_pos hp]
      · rw [if_neg hp]
    · obtain ⟨p, hp, e⟩ := List.mem_map.mp h
      exact List.any_eq_true.mpr ⟨p, hp, decide_eq_true e⟩
  · rw [if_neg h, if_neg]
    · rw [List.map_append]
      rfl
    · intro q
      obtain ⟨p, hp, e⟩ := List.any_eq_true.mp q
      exact h (List.mem_map.mpr ⟨p, hp, of_decide_eq_true e⟩)
theorem val_none {κ : Type} [DecidableEq κ] {kvs : List (κ × V)} {k : κ} (h : valV kvs k = none) : k ∉ kvs.map (·.1) := by
  intro q
  obtain ⟨p, hp, e⟩ := List.mem_map.mp q
  unfold valV at h
  rw [Option.map_eq_none_iff, List.find?_eq_none] at h
  exact h p hp (decide_eq_true e)
theorem val_some {κ : Type} [DecidableEq κ] {kvs : List (κ × V)} {k : κ} : (valV kvs k).isSome = decide (k ∈ kvs.map (·.1)) := by
  cases e : valV kvs k with
  | none => rw [decide_eq_false (val_none e)]; rfl
  | some v =>
    have : k ∈ kvs.map (·.1) := by
      unfold valV at e
      cases e2 : kvs.find? (fun kv => decide (kv.1 = k)) with
      | none => rw [e2] at e; cases e
      | some p =>
        have h1 := List.mem_of_find?_eq_some e2
        have h2 : p.1 = k := by have := List.find?_some e2; simpa using this
        exact List.mem_map.mpr ⟨p, h1, h2⟩
    rw [decide_eq_true this]
    rfl
/-- a dict with int keys: which keys there are -/
structure Keys (ks : List (Key × V)) (xs : List Int) : Prop where
  ex : ∃ ns : List Int, ks.map (·.1) = ns.map Sum.inl ∧ ns.Nodup ∧ ∀ t, t ∈ ns ↔ t ∈ xs
theorem Keys.nil : Keys [] [] := ⟨[], rfl, List.nodup_nil, fun t => Iff.rfl⟩
theorem Keys.has {ks : List (Key × V)} {xs : List Int} (h : Keys ks xs) (t : Int) : (valV ks (Sum.inl t)).isSome = decide (t ∈ xs) := by
  obtain ⟨ns, e, _, hm⟩ := h.ex
  rw [val_some, e]
  have : (Sum.inl t : Key) ∈ ns.map Sum.inl ↔ t ∈ xs := by
    rw [← hm t]
    constructor
    · intro q
      obtain ⟨y, hy, ey⟩ := List.mem_map.mp q
      rw [← Sum.inl.inj ey]
      exact hy
    · intro q
      exact List.mem_map.mpr ⟨t, q, rfl⟩
  exact decide_eq_decide.mpr this
theorem Keys.put {ks : List (Key × V)} {xs : List Int} (h : Keys ks xs) (t : Int) (v : V) : Keys (putK ks (Sum.inl t) v) (xs ++ [t]) := by
  obtain ⟨ns, e, nd, hm⟩ := h.ex
  have hi : (Sum.inl t : Key) ∈ ns.map Sum.inl ↔ t ∈ ns := by
    constructor
    · intro q
      obtain ⟨y, hy, ey⟩ := List.mem_map.mp q
      rw [← Sum.inl.inj ey]
      exact hy
    · intro q
      exact List.mem_map.mpr ⟨t, q, rfl⟩
  refine ⟨if t ∈ ns then ns else ns ++ [t], ?_, ?_, fun x => ?_⟩
  · rw [put_fst, e]
    by_cases c : t ∈ ns
    · rw [if_pos (hi.mpr c), if_pos c]
    · rw [if_neg (fun z => c (hi.mp z)), if_neg c, List.map_append]
      rfl
  · by_cases c : t ∈ ns
    · rw [if_pos c]
      exact nd
    · rw [if_neg c]
      refine List.nodup_append.mpr ⟨nd, by simp, ?_⟩
      intro x hx y hy e
      rw [List.mem_singleton] at hy
      exact c (by rw [← hy, ← e]; exact hx)
  · rw [List.mem_append, List.mem_singleton, ← hm x]
    by_cases c : t ∈ ns
    · rw [if_pos c]
      constructor
      · exact .inl
      · rintro (z | z)
        · exact z
        · rw [z]
          exact c
    · rw [if_neg c, List.mem_append, List.mem_singleton]
theorem Keys.len {ks : List (Key × V)} {xs : List Int} (h : Keys ks xs) : ks.length ≤ xs.length := by
  obtain ⟨ns, e, nd, hm⟩ := h.ex
  have h1 := nodup_le (m := xs) nd fun x hx => (hm x).mp hx
  have h2 := congrArg List.length e
  rw [List.length_map, List.length_map] at h2
  omega
end TG


set_option Elab.async false
set_option linter.all false
set_option maxRecDepth 100000
set_option maxHeartbeats 4000000
/-! Tuples in tuples as data; the graphs -/
namespace TG
open PySem L2
abbrev N (n : Nat) : V := .int (n : Int)
/-- whatever tuples stood still stand -/
def KpT (H H' : Hp) : Prop := ∀ (K : PySem.W.Frag) (a : Addr) (xs : List V), SqT K H a xs → SqT K H' a xs
theorem KpT.refl {H : Hp} : KpT H H := fun _ _ _ h => h
theorem KpT.trans {H H1 H2 : Hp} (a : KpT H H1) (b : KpT H1 H2) : KpT H H2 := fun K p xs h => b K p xs (a K p xs h)
theorem KpT.same {H H' : Hp} (s : Same H H') : KpT H H' := fun _ _ _ h => sqT s h
theorem KpT.new {H : Hp} {p : Addr} {o : HO} (h : H p = none) : KpT H (upd H p o) := .same (same_new h o)
theorem KpT.off {H H' : Hp} {r : Addr} {ys : List V} (hr : H r = some (.lst ys)) (o : Off r H H') : KpT H H' := fun K p xs h => by
  have key : ∀ u, H p = some u → (∀ zs, u ≠ .lst zs) → H' p = some u := fun u e hu => o p u (fun c => by rw [c, hr] at e; exact hu _ (Option.some.inj e).symm) e
  rcases h with (h | ⟨x, h⟩) | h
  · exact .inl (.inl (key _ h (fun _ z => by cases z)))
  · exact .inl (.inr ⟨x, key _ h (fun _ z => by cases z)⟩)
  · exact .inr h
theorem KpT.upd {H : Hp} {r : Addr} {ys : List V} {o : HO} (hr : H r = some (.lst ys)) : KpT H (upd H r o) := .off hr Off.upd
theorem KpT.row {K : PySem.W.Frag} {a : Addr} {ns : List Int} {H H' : Hp} {r : Addr} (hR : RowA K a ns H r) (ho : ∀ b, b ≠ r → H' b = H b) : KpT H H' := by
  obtain ⟨xs, hx⟩ := hR.there
  exact .off hx (.eq ho)
/-! ### data of tuples alone -/
mutual
def pT : PyData → Bool
  | .none | .bool _ | .int _ | .str _ => true
  | .tuple xs => pTs xs
  | .list _ | .dict _ => false
def pTs : List PyData → Bool
  | [] => true
  | x :: xs => pT x && pTs xs
end
section
variable {K : PySem.W.Frag} {H H' : Hp}
mutual
theorem dp_keep (k : KpT H H') : ∀ (d : PyData) (v : V), pT d = true → Dp K H v d → Dp K H' v d
  | .none, _, _, h => by cases h; exact .non
  | .bool b, _, _, h => by cases h; exact .bl b
  | .int i, _, _, h => by cases h; exact .int i
  | .str x, _, _, h => by cases h; exact .str x
  | .list _, _, p, _ => by unfold pT at p; cases p
  | .dict _, _, p, _ => by unfold pT at p; cases p
  | .tuple ds, _, p, h => by
    cases h with
    | tup hs ha =>
      unfold pT at p
      exact .tup (k K _ _ hs) (dps_keep k ds _ p ha)
theorem dps_keep (k : KpT H H') : ∀ (ds : List PyData) (vs : List V), pTs ds = true → DpAll K H vs ds → DpAll K H' vs ds
  | [], _, _, h => by cases h; exact .nil
  | d :: ds, _, p, h => by
    cases h with
    | cons h1 h2 =>
      unfold pTs at p
      have p' := Bool.and_eq_true_iff.mp p
      exact .cons (dp_keep k d _ p'.1 h1) (dps_keep k ds _ p'.2 h2)
end
theorem dp_tup {v : V} {ds : List PyData} (h : Dp K H v (.tuple ds)) : ∃ a xs, v = .ref a ∧ SqT K H a xs ∧ DpAll K H xs ds := by
  cases h with
  | tup hs ha => exact ⟨_, _, rfl, hs, ha⟩
theorem dps_len : ∀ {ds : List PyData} {xs : List V}, DpAll K H xs ds → xs.length = ds.length
  | [], _, h => by cases h; rfl
  | d :: ds, _, h => by
    cases h with
    | cons h1 h2 => simp [dps_len h2]
theorem dps_get : ∀ {ds : List PyData} {xs : List V}, DpAll K H xs ds → ∀ (i : Nat) (d : PyData), ds[i]? = some d → ∃ x, xs[i]? = some x ∧ Dp K H x d
  | [], _, _, i, d, h => by cases h
  | _ :: ds, _, .cons h1 h2, 0, d, h => by
    cases h
    exact ⟨_, rfl, h1⟩
  | _ :: ds, _, .cons h1 h2, i + 1, d, h => by
    obtain ⟨x, hx, h'⟩ := dps_get h2 i d (by simpa using h)
    exact ⟨x, by simpa using hx, h'⟩
theorem dps_at : ∀ {ds : List PyData} {xs : List V}, DpAll K H xs ds → ∀ (i : Nat) (x : V), xs[i]? = some x → ∃ d, ds[i]? = some d ∧ Dp K H x d
  | [], _, .nil, i, x, h => by cases h
  | _ :: ds, _, .cons h1 h2, 0, d, h => by
    cases h
    exact ⟨_, rfl, h1⟩
  | _ :: ds, _, .cons h1 h2, i + 1, x, h => by
    obtain ⟨d, hd, h'⟩ := dps_at h2 i x (by simpa using h)
    exact ⟨d, by simpa using hd, h'⟩
theorem dps_set : ∀ {ds : List PyData} {xs : List V} {d : PyData} {x : V} (i : Nat), DpAll K H xs ds → Dp K H x d → DpAll K H (xs.set i x) (ds.set i d)
  | [], _, d, x, i, .nil, h => .nil
  | _ :: ds, _, d, x, 0, .cons h1 h2, h => .cons h h2
  | _ :: ds, _, d, x, i + 1, .cons h1 h2, h => .cons h1 (dps_set i h2 h)
theorem dps_rep {d : PyData} {x : V} (h : Dp K H x d) : ∀ n : Nat, DpAll K H (List.replicate n x) (List.replicate n d)
  | 0 => .nil
  | n + 1 => .cons h (dps_rep h n)
theorem dps_app : ∀ {ds es : List PyData} {xs ys : List V}, DpAll K H xs ds → DpAll K H ys es → DpAll K H (xs ++ ys) (ds ++ es)
  | [], _, _, _, .nil, h => h
  | _ :: ds, _, _, _, .cons h1 h2, h => .cons h1 (dps_app h2 h)
theorem dps_take : ∀ {ds : List PyData} {xs : List V} (k : Nat), DpAll K H xs ds → DpAll K H (xs.take k) (ds.take k)
  | [], _, k, .nil => by simp; exact .nil
  | _ :: ds, _, 0, .cons h1 h2 => .nil
  | _ :: ds, _, k + 1, .cons h1 h2 => .cons h1 (dps_take k h2)
theorem dps_drop : ∀ {ds : List PyData} {xs : List V} (k : Nat), DpAll K H xs ds → DpAll K H (xs.drop k) (ds.drop k)
  | [], _, k, .nil => by simp; exact .nil
  | _ :: ds, _, 0, .cons h1 h2 => .cons h1 h2
  | _ :: ds, _, k + 1, .cons h1 h2 => dps_drop k h2
theorem dps_snoc : ∀ {ds : List PyData} {xs : List V} {d : PyData} {x : V}, DpAll K H xs ds → Dp K H x d → DpAll K H (xs ++ [x]) (ds ++ [d])
  | [], _, d, x, .nil, h => .cons h .nil
  | _ :: ds, _, d, x, .cons h1 h2, h => .cons h1 (dps_snoc h2 h)
end
/-! ### rules with the written part named -/
section
variable {X : Cx} {K : PySem.W.Frag} {w : World}
theorem cr_setIK (hK : X.K = K) (hw : X.w = w) (hc : X.calm = true) : CallR X (.type "set") (rSetI K w) := by subst hK hw; exact cr_setI hc
theorem cr_sortedSetK (hw : X.w = w) (hc : X.calm = true) : CallR X (.builtin "sorted") (rSortedSet w) := by subst hw; exact cr_sortedSet hc
theorem pa_starK {e : Expr} {p : Pos} {es : List Expr} {te : TE} {t : TA} (hK : X.K = K) (he : PE X e te) (h : PA X es t) (hs : starEach (.Starred e p :: es) X.env = (true, eval e X.env) :: starEach es X.env := by rfl) : PA X (.Starred e p :: es) (StX.tStar K te t) := by subst hK; exact StX.pa_star he h hs
theorem pi_zipAK {e e2 : Expr} {ta : TA} {p pos tpos : Pos} {elts : List Expr} {kk : Nat} (hK : X.K = K) (hg : Gl X "zip") (hm : X.mg "zip" = none) (ha : PA X [e, e2] ta)
    (hs : starEach [e, e2] X.env = (false, eval e X.env) :: starEach [e2] X.env := by rfl) (hpl : (backTo pos (starEach [e2] X.env)).any (·.1) = false := by rfl) : PI X (.Tuple elts kk tpos) (.Call (.Name "zip" p) [e, e2] [] pos) (RZ.iZipA K ta) := by subst hK; exact RZ.pi_zipA hg hm ha hs hpl
theorem op_inDK (hK : X.K = K) (hu : X.A.units + 65 < cLine) : OpR X (compareOp .In) (rInD K) := by subst hK; exact op_inD hu
theorem op_notInDK (hK : X.K = K) (hu : X.A.units + 65 < cLine) : OpR X (compareOp .NotIn) (rNotInD K) := by subst hK; exact op_notInD hu
theorem units65 {k : Nat} {A : Around} (r : Room k A) : A.units + 65 < cLine := by have := r.un; omega
end
/-- a comprehension over range(n), n below 0 too -/
theorem el_lcR1n {σ : L2.St} {H : Hp} {t : TT} {te : TE} {ta : TA} {j : Nat} {vs : List Nat} {n : Int} (f : Nat → Bool) (v : Nat → V) (h : Evl.EvA ta σ H [.int n]) (hn : -40000 ≤ n ∧ n ≤ 40000) (hw : ∀ x, wipe ((wipe σ vs).set j (some x)) vs = wipe σ vs)
    (ht : ∀ (i : Nat) H1, Evl.Ex H H1 → (i : Int) < n → Evl.EvT t ((wipe σ vs).set j (some (.int (i : Int)))) H1 (f i)) (he : ∀ (i : Nat) H1, Evl.Ex H H1 → (i : Int) < n → f i = true → Evl.Ev te ((wipe σ vs).set j (some (.int (i : Int)))) H1 (v i)) :
    Evl.EvL (tLc (iRng1 ta) (gName j) t te vs) σ H (Evl.given n.toNat f v) := fun H0 e Q q => h H0 e _ fun H1 e1 => ⟨n, rfl, by omega, by omega, fun Dl hD =>
  lc_range (lo := 0) (n := n.toNat) (Evl.Cw H1 f v Dl) ⟨hD, Evl.Ex.new hD, upd_same⟩ (fun i H' hi' p => by
    rw [Int.zero_add]
    exact ⟨hw _, Evl.cw_turn p (by omega) (ht i H1 (e.trans e1) (by omega)) (fun hf => he i H1 (e.trans e1) (by omega) hf)⟩) (fun H' p => q Dl H' (Evl.fresh_back e1 p.1) (e1.trans p.2.1) p.2.2)⟩
/-! ### slices and sums of tuples, whichever object they are -/
section
variable {K : PySem.W.Frag} {H : Hp} {Q : VK}
theorem catA_any {a b : Addr} {xs ys : List V} (ha : SqT K H a xs) (hb : SqT K H b ys) (hz : xs.length + ys.length ≤ sizeLine) (h : ∀ p H', Same H H' → SqT K H' p (xs ++ ys) → Q (.ref p) H') : rCatA K (.ref a) (.ref b) H Q := by
  refine ⟨a, b, xs, ys, rfl, rfl, ha, hb, hz, fun e => ?_, fun _ e => ?_, fun _ _ p hp => h p _ (same_new hp _) (SqT.of upd_same)⟩
  · subst e
    exact h b H (fun _ _ e => e) hb
  · subst e
    refine h a H (fun _ _ e => e) ?_
    rw [List.append_nil]
    exact ha
theorem slA_any {a : Addr} {xs : List V} {lo hi : Option Int} (ha : SqT K H a xs) (h : ∀ p H', Same H H' → SqT K H' p (cutV xs lo hi) → Q (.ref p) H') : rSlA K (.ref a) lo hi H Q := by
  refine ⟨a, xs, rfl, ha, fun e => ?_, fun _ p hp => h p _ (same_new hp _) (SqT.of upd_same)⟩
  have e2 : cutV xs lo hi = xs := by
    unfold cutV
    rw [e.1, e.2]
    simp
  refine h a H (fun _ _ e => e) ?_
  rw [e2]
  exact ha
theorem cut_take (xs : List V) (k : Nat) : cutV xs none (some (k : Int)) = xs.take k := by
  unfold cutV
  rw [HT.sIx_none, HT.sIx_nat]
  simp [List.take_eq_take_iff]
theorem cut_drop (xs : List V) (k : Nat) : cutV xs (some (k : Int)) none = xs.drop k := by
  unfold cutV
  rw [HT.sIx_none, HT.sIx_nat]
  by_cases h : k ≤ xs.length
  · rw [Nat.min_eq_left h]
    exact List.take_of_length_le (by rw [List.length_drop]; omega)
  · rw [Nat.min_eq_right (by omega), List.drop_eq_nil_of_le (Nat.le_refl _), List.drop_eq_nil_of_le (by omega), List.take_nil]
end
/-! ### the graphs -/
/-- a good row of a graph of n nodes -/
def OkRow (n : Nat) (r : List Nat) : Prop := r.Pairwise (· < ·) ∧ (∀ x ∈ r, x < n) ∧ r.length ≤ 60
def rowD (ds : List Nat) : PyData := .tuple (ds.map fun n : Nat => PyData.int (n : Int))
def rowsD (rs : List (List Nat)) : PyData := .tuple (rs.map rowD)
def grD (L R : List (List Nat)) : PyData := .tuple [rowsD L, rowsD R]
theorem pTs_all : ∀ ds : List PyData, (∀ d ∈ ds, pT d = true) → pTs ds = true
  | [], _ => by unfold pTs; rfl
  | d :: ds, h => by
    unfold pTs
    rw [h d List.mem_cons_self, pTs_all ds fun x hx => h x (List.mem_cons_of_mem _ hx)]
    rfl
theorem pT_row (ds : List Nat) : pT (rowD ds) = true := by
  unfold rowD pT
  refine pTs_all _ fun d hd => ?_
  obtain ⟨n, _, rfl⟩ := List.mem_map.mp hd
  unfold pT
  rfl
theorem pT_rows (rs : List (List Nat)) : pT (rowsD rs) = true := by
  unfold rowsD pT
  refine pTs_all _ fun d hd => ?_
  obtain ⟨n, _, rfl⟩ := List.mem_map.mp hd
  exact pT_row n
theorem pT_gr (L R : List (List Nat)) : pT (grD L R) = true := by
  unfold grD pT
  refine pTs_all _ fun d hd => ?_
  simp only [List.mem_cons, List.not_mem_nil, or_false] at hd
  rcases hd with rfl | rfl
  · exact pT_rows _
  · exact pT_rows _
section
variable {K : PySem.W.Frag} {H H' : Hp}
theorem ints_all : ∀ ds : List Nat, DpAll K H (ds.map N) (ds.map fun n : Nat => PyData.int (n : Int))
  | [] => .nil
  | n :: ds => .cons (.int _) (ints_all ds)
theorem ints_back : ∀ {ds : List Nat} {xs : List V}, DpAll K H xs (ds.map fun n : Nat => PyData.int (n : Int)) → xs = ds.map N
  | [], _, .nil => rfl
  | n :: ds, _, .cons h1 h2 => by
    cases h1
    rw [ints_back h2]
    rfl
theorem row_of {a : Addr} {ds : List Nat} (h : SqT K H a (ds.map N)) : Dp K H (.ref a) (rowD ds) := .tup h (ints_all ds)
theorem row_at {v : V} {ds : List Nat} (h : Dp K H v (rowD ds)) : ∃ a, v = .ref a ∧ SqT K H a (ds.map N) := by
  obtain ⟨a, xs, rfl, hs, ha⟩ := dp_tup h
  rw [ints_back ha] at hs
  exact ⟨a, rfl, hs⟩
theorem rows_at {v : V} {rs : List (List Nat)} (h : Dp K H v (rowsD rs)) : ∃ a xs, v = .ref a ∧ SqT K H a xs ∧ xs.length = rs.length ∧ DpAll K H xs (rs.map rowD) := by
  obtain ⟨a, xs, rfl, hs, ha⟩ := dp_tup h
  exact ⟨a, xs, rfl, hs, by rw [dps_len ha, List.length_map], ha⟩
theorem rows_get {rs : List (List Nat)} {xs : List V} (h : DpAll K H xs (rs.map rowD)) {i : Nat} {ds : List Nat} (hi : rs[i]? = some ds) : ∃ b, xs[i]? = some (.ref b) ∧ SqT K H b (ds.map N) := by
  obtain ⟨x, hx, hd⟩ := dps_get h i (rowD ds) (by rw [List.getElem?_map, hi]; rfl)
  obtain ⟨b, rfl, hb⟩ := row_at hd
  exact ⟨b, hx, hb⟩
theorem gr_at {v : V} {L R : List (List Nat)} (h : Dp K H v (grD L R)) : ∃ a l r, v = .ref a ∧ SqT K H a [l, r] ∧ Dp K H l (rowsD L) ∧ Dp K H r (rowsD R) := by
  obtain ⟨a, xs, rfl, hs, ha⟩ := dp_tup h
  cases ha with
  | cons h1 h2 =>
    cases h2 with
    | cons h2 h3 =>
      cases h3
      exact ⟨a, _, _, rfl, hs, h1, h2⟩
theorem gr_of {a : Addr} {l r : V} {L R : List (List Nat)} (h : SqT K H a [l, r]) (h1 : Dp K H l (rowsD L)) (h2 : Dp K H r (rowsD R)) : Dp K H (.ref a) (grD L R) := .tup h (.cons h1 (.cons h2 .nil))
end
/-- rising numbers that are not below 0 -/
theorem nat_list {ns : List Int} (h0 : ∀ x ∈ ns, 0 ≤ x) (hp : ns.Pairwise (· < ·)) : ∃ ds : List Nat, ns.map V.int = ds.map N ∧ ds.Pairwise (· < ·) ∧ ds.length = ns.length ∧ ∀ d, d ∈ ds ↔ ((d : Nat) : Int) ∈ ns := by
  refine ⟨ns.map Int.toNat, ?_, ?_, List.length_map _, fun d => ?_⟩
  · rw [List.map_map]
    refine List.map_congr_left fun x hx => ?_
    have := h0 x hx
    show V.int x = V.int ((x.toNat : Nat) : Int)
    exact congrArg V.int (by omega)
  · rw [List.pairwise_map]
    refine (List.pairwise_iff_forall_sublist.mpr fun {a b} hs => ?_)
    have h1 := List.pairwise_iff_forall_sublist.mp hp hs
    have h2 := h0 a (hs.subset (by simp))
    omega
  · rw [List.mem_map]
    constructor
    · rintro ⟨x, hx, rfl⟩
      have := h0 x hx
      rw [show ((x.toNat : Nat) : Int) = x by omega]
      exact hx
    · intro h
      exact ⟨_, h, by omega⟩
/-! ### equality -/
theorem eqv_tup (xs ys : List PyData) : PyData.eqv (.tuple xs) (.tuple ys) = PyData.eqvAll xs ys := by rw [PyData.eqv]
theorem eqv_ints : ∀ as bs : List Nat, PyData.eqvAll (as.map fun n : Nat => PyData.int (n : Int)) (bs.map fun n : Nat => PyData.int (n : Int)) = decide (as = bs)
  | [], [] => by simp [PyData.eqvAll]
  | [], b :: bs => by simp [PyData.eqvAll]
  | a :: as, [] => by simp [PyData.eqvAll]
  | a :: as, b :: bs => by
    have ih := eqv_ints as bs
    simp only [List.map_cons, PyData.eqvAll, PyData.eqv, ih]
    by_cases h : a = b
    · subst h
      simp
    · have : ¬ ((a : Int) = (b : Int)) := by omega
      simp [h, this]
theorem eqv_row (as bs : List Nat) : PyData.eqv (rowD as) (rowD bs) = decide (as = bs) := by
  unfold rowD
  rw [eqv_tup, eqv_ints]
theorem eqv_rowsAll : ∀ as bs : List (List Nat), PyData.eqvAll (as.map rowD) (bs.map rowD) = decide (as = bs)
  | [], [] => by simp [PyData.eqvAll]
  | [], b :: bs => by simp [PyData.eqvAll]
  | a :: as, [] => by simp [PyData.eqvAll]
  | a :: as, b :: bs => by
    have ih := eqv_rowsAll as bs
    simp only [List.map_cons, PyData.eqvAll, eqv_row, ih]
    by_cases h : a = b
    · subst h
      simp
    · simp [h]
theorem eqv_rows (as bs : List (List Nat)) : PyData.eqv (rowsD as) (rowsD bs) = decide (as = bs) := by
  unfold rowsD
  rw [eqv_tup, eqv_rowsAll]
theorem eqv_gr (L R L' R' : List (List Nat)) : PyData.eqv (grD L R) (grD L' R') = decide (L = L' ∧ R = R') := by
  unfold grD
  rw [eqv_tup]
  simp only [PyData.eqvAll, eqv_rows, Bool.and_true]
  by_cases h : L = L' <;> by_cases h2 : R = R' <;> simp [h, h2]
theorem lay_all : ∀ ds : List PyData, (∀ d ∈ ds, PyData.canLay0 d = true) → PyData.canLayAll0 ds = true
  | [], _ => by rw [PyData.canLayAll0]
  | d :: ds, h => by rw [PyData.canLayAll0, h d List.mem_cons_self, lay_all ds fun x hx => h x (List.mem_cons_of_mem _ hx)]; rfl
theorem depth_all {m : Nat} : ∀ ds : List PyData, (∀ d ∈ ds, PyData.depth d ≤ m) → PyData.depthAll ds ≤ m
  | [], _ => by rw [PyData.depthAll]; exact Nat.zero_le _
  | d :: ds, h => by
    rw [PyData.depthAll]
    exact Nat.max_le.mpr ⟨h d List.mem_cons_self, depth_all ds fun x hx => h x (List.mem_cons_of_mem _ hx)⟩
def Small (m : Nat) (d : PyData) : Prop := PyData.canLay0 d = true ∧ PyData.depth d ≤ m
theorem Small.tuple {m : Nat} {ds : List PyData} (h : ∀ d ∈ ds, Small m d) : Small (m + 1) (.tuple ds) := by
  refine ⟨?_, ?_⟩
  · rw [PyData.canLay0]
    exact lay_all ds fun d hd => (h d hd).1
  · rw [PyData.depth]
    have := depth_all (m := m) ds fun d hd => (h d hd).2
    omega
theorem Small.list {m : Nat} {ds : List PyData} (h : ∀ d ∈ ds, Small m d) : Small (m + 1) (.list ds) := by
  refine ⟨?_, ?_⟩
  · rw [PyData.canLay0]
    exact lay_all ds fun d hd => (h d hd).1
  · rw [PyData.depth]
    have := depth_all (m := m) ds fun d hd => (h d hd).2
    omega
theorem Small.int {m : Nat} (i : Int) : Small m (.int i) := ⟨by rw [PyData.canLay0], by rw [PyData.depth]; exact Nat.zero_le _⟩
theorem Small.ok {m : Nat} {d : PyData} (h : Small m d) (hm : m ≤ 64) : SeqAt.shaped d = true := by
  unfold SeqAt.shaped
  rw [h.1, decide_eq_true (Nat.le_trans h.2 hm)]
  rfl
theorem small_row (ds : List Nat) : Small 1 (rowD ds) := Small.tuple fun d hd => by
  obtain ⟨n, _, rfl⟩ := List.mem_map.mp hd
  exact .int _
theorem small_rows (rs : List (List Nat)) : Small 2 (rowsD rs) := Small.tuple fun d hd => by
  obtain ⟨n, _, rfl⟩ := List.mem_map.mp hd
  exact small_row n
theorem small_gr (L R : List (List Nat)) : Small 3 (grD L R) := Small.tuple fun d hd => by
  simp only [List.mem_cons, List.not_mem_nil, or_false] at hd
  rcases hd with rfl | rfl
  · exact small_rows _
  · exact small_rows _
end TG


set_option Elab.async false
set_option linter.all false
set_option maxRecDepth 100000
set_option maxHeartbeats 4000000
/-! Maps of graphs: prefixes that fit, in plain lists -/
namespace GM
open PySem L2
def row (S : List (List Nat)) (a : Nat) : List Nat := S.getD a []
def im (l : List Nat) (a : Nat) : Nat := l.getD a 0
/-- the last node of the prefix l fits -/
def Fit1 (F S : List (List Nat)) (l : List Nat) : Prop :=
  (row F (l.length - 1)).length = (row S (im l (l.length - 1))).length ∧ ∀ t, t ≤ l.length - 1 → ((t ∈ row F (l.length - 1)) ↔ im l t ∈ row S (im l (l.length - 1))) ∧ ((l.length - 1 ∈ row F t) ↔ im l (l.length - 1) ∈ row S (im l t))
def Fit (L R L' R' : List (List Nat)) (l : List Nat) : Prop := Fit1 L L' l ∧ Fit1 R R' l
/-- nodes, each once -/
def Inj (n : Nat) (l : List Nat) : Prop := l.Nodup ∧ ∀ x ∈ l, x < n
/-- full goes on from l, and fits all the way behind it -/
structure Good (L R L' R' : List (List Nat)) (n : Nat) (l full : List Nat) : Prop where
  pre : full.take l.length = l
  len : full.length = n
  inj : Inj n full
  fit : ∀ j, l.length < j → j ≤ n → Fit L R L' R' (full.take j)
theorem Good.le {L R L' R' : List (List Nat)} {n : Nat} {l full : List Nat} (g : Good L R L' R' n l full) : l.length ≤ n := by
  have h1 := congrArg List.length g.pre
  rw [List.length_take, g.len] at h1
  omega
/-- one further -/
theorem Good.step {L R L' R' : List (List Nat)} {n : Nat} {l full : List Nat} (g : Good L R L' R' n l full) (hl : l.length < n) :
    ∃ x, x < n ∧ x ∉ l ∧ Fit L R L' R' (l ++ [x]) ∧ Good L R L' R' n (l ++ [x]) full := by
  have hlt : l.length < full.length := by rw [g.len]; exact hl
  have e : full.take (l.length + 1) = l ++ [full[l.length]] := by rw [List.take_succ_eq_append_getElem hlt, g.pre]
  refine ⟨full[l.length], g.inj.2 _ (List.getElem_mem hlt), fun hm => ?_, ?_, ⟨?_, g.len, g.inj, fun j h1 h2 => ?_⟩⟩
  · have hn : (l ++ [full[l.length]]).Nodup := by
      rw [← e]
      exact (List.take_sublist _ _).nodup g.inj.1
    have := (List.nodup_append.mp hn).2.2 _ hm _ (List.mem_singleton.mpr rfl)
    exact this rfl
  · rw [← e]
    exact g.fit _ (by omega) (by omega)
  · rw [List.length_append]
    exact e
  · refine g.fit j ?_ h2
    rw [List.length_append] at h1
    have : [full[l.length]].length = 1 := rfl
    omega
theorem Good.back {L R L' R' : List (List Nat)} {n : Nat} {l full : List Nat} {x : Nat} (g : Good L R L' R' n (l ++ [x]) full) (hf : Fit L R L' R' (l ++ [x])) : Good L R L' R' n l full := by
  have hlen : (l ++ [x]).length = l.length + 1 := by simp
  refine ⟨?_, g.len, g.inj, fun j h1 h2 => ?_⟩
  · have e := congrArg (List.take l.length) g.pre
    rw [List.take_take, hlen, Nat.min_eq_left (by omega)] at e
    rw [e]
    simp
  · by_cases c : j = l.length + 1
    · have e := g.pre
      rw [hlen] at e
      rw [c, e]
      exact hf
    · exact g.fit j (by omega) h2
theorem good_full {L R L' R' : List (List Nat)} {n : Nat} {l : List Nat} (hl : l.length = n) (hi : Inj n l) : Good L R L' R' n l l := ⟨List.take_length, hl, hi, fun j h1 h2 => by omega⟩
/-! ### what the graph moved by a list of names is -/
def MovedOf (names : List Nat) (n : Nat) (S A : List (List Nat)) : Prop := A.length = n ∧ ∀ a, a < n → (row A (im names a)).Pairwise (· ≤ ·) ∧ (row A (im names a)).Perm ((row S a).map (im names))
theorem im_get {l : List Nat} {a : Nat} (h : a < l.length) : im l a = l[a] := by
  unfold im
  rw [List.getD_eq_getElem?_getD, List.getElem?_eq_getElem h]
  rfl
theorem row_get {S : List (List Nat)} {a : Nat} (h : a < S.length) : row S a = S[a] := by
  unfold row
  rw [List.getD_eq_getElem?_getD, List.getElem?_eq_getElem h]
  rfl
theorem im_inj {n : Nat} {l : List Nat} (hi : Inj n l) {a b : Nat} (ha : a < l.length) (hb : b < l.length) (e : im l a = im l b) : a = b := by
  rw [im_get ha, im_get hb] at e
  exact (List.getElem_inj hi.1).mp e
theorem im_onto {n : Nat} {l : List Nat} (hi : Inj n l) (hl : l.length = n) {m : Nat} (hm : m < n) : ∃ a, a < n ∧ im l a = m := by
  have h1 : m ∈ l := by
    refine Classical.byContradiction fun hno => ?_
    have := TG.nodup_le (l := m :: l) (m := List.range n) (List.nodup_cons.mpr ⟨hno, hi.1⟩) (fun x hx => by
      rw [List.mem_range]
      rcases List.mem_cons.mp hx with h | h
      · omega
      · exact hi.2 x h)
    rw [List.length_range, List.length_cons] at this
    omega
  obtain ⟨a, ha, e⟩ := List.getElem_of_mem h1
  exact ⟨a, by omega, by rw [im_get ha, e]⟩
theorem rise_ext : ∀ {l m : List Nat}, l.Pairwise (· < ·) → m.Pairwise (· < ·) → (∀ x, x ∈ l ↔ x ∈ m) → l = m
  | [], [], _, _, _ => rfl
  | [], y :: m, _, _, h => absurd ((h y).mpr List.mem_cons_self) List.not_mem_nil
  | x :: l, [], _, _, h => absurd ((h x).mp List.mem_cons_self) List.not_mem_nil
  | x :: l, y :: m, hl, hm, h => by
    have hl' := List.pairwise_cons.mp hl
    have hm' := List.pairwise_cons.mp hm
    have e : x = y := by
      have h1 := (h x).mp List.mem_cons_self
      have h2 := (h y).mpr List.mem_cons_self
      rcases List.mem_cons.mp h1 with h1 | h1
      · exact h1
      · rcases List.mem_cons.mp h2 with h2 | h2
        · exact h2.symm
        · have a := hm'.1 x h1
          have b := hl'.1 y h2
          omega
    subst e
    rw [rise_ext hl'.2 hm'.2 fun z => ?_]
    have hz := h z
    constructor
    · intro hzl
      rcases List.mem_cons.mp (hz.mp (List.mem_cons_of_mem _ hzl)) with e | h'
      · have := hl'.1 z hzl
        omega
      · exact h'
    · intro hzm
      rcases List.mem_cons.mp (hz.mpr (List.mem_cons_of_mem _ hzm)) with e | h'
      · have := hm'.1 z hzm
        omega
      · exact h'
theorem rise_of {l : List Nat} (h1 : l.Pairwise (· ≤ ·)) (h2 : l.Nodup) : l.Pairwise (· < ·) := by
  refine List.Pairwise.imp₂ (fun a b h h' => ?_) h1 h2
  have : a ≠ b := h'
  omega
theorem row_ok {n : Nat} {S : List (List Nat)} (h : ∀ r ∈ S, TG.OkRow n r) (a : Nat) : TG.OkRow n (row S a) := by
  by_cases c : a < S.length
  · rw [row_get c]
    exact h _ (List.getElem_mem c)
  · unfold row
    rw [List.getD_eq_getElem?_getD, List.getElem?_eq_none (by omega)]
    exact ⟨List.Pairwise.nil, fun x hx => (List.not_mem_nil hx).elim, Nat.zero_le _⟩
/-- each node and what it becomes have the same options -/
def Alike (n : Nat) (F S : List (List Nat)) (l : List Nat) : Prop := ∀ a, a < n → (row F a).length = (row S (im l a)).length ∧ ∀ b, b < n → (b ∈ row F a ↔ im l b ∈ row S (im l a))
theorem alike_fit {n : Nat} {F S : List (List Nat)} {l : List Nat} (hl : l.length = n) : Alike n F S l ↔ ∀ j, 1 ≤ j → j ≤ n → Fit1 F S (l.take j) := by
  have ht : ∀ j, j ≤ n → (l.take j).length = j := fun j h => by rw [List.length_take]; omega
  have hi : ∀ j t, j ≤ n → t < j → im (l.take j) t = im l t := fun j t h1 h2 => by
    rw [im_get (by rw [ht j h1]; exact h2), im_get (by omega), List.getElem_take]
  constructor
  · intro h j h1 h2
    unfold Fit1
    rw [ht j h2, hi j (j - 1) h2 (by omega)]
    refine ⟨(h (j - 1) (by omega)).1, fun t htj => ?_⟩
    rw [hi j t h2 (by omega)]
    exact ⟨(h (j - 1) (by omega)).2 t (by omega), (h t (by omega)).2 (j - 1) (by omega)⟩
  · intro h a ha
    have hf := h (a + 1) (by omega) (by omega)
    unfold Fit1 at hf
    rw [ht (a + 1) (by omega), Nat.add_sub_cancel, hi (a + 1) a (by omega) (by omega)] at hf
    refine ⟨hf.1, fun b hb => ?_⟩
    by_cases c : b ≤ a
    · have := (hf.2 b c).1
      rw [hi (a + 1) b (by omega) (by omega)] at this
      exact this
    · have hf := h (b + 1) (by omega) (by omega)
      unfold Fit1 at hf
      rw [ht (b + 1) (by omega), Nat.add_sub_cancel, hi (b + 1) b (by omega) (by omega)] at hf
      have := (hf.2 a (by omega)).2
      rw [hi (b + 1) a (by omega) (by omega)] at this
      exact this
theorem alike_moved {n : Nat} {F S A : List (List Nat)} {l : List Nat} (hl : l.length = n) (hi : Inj n l) (hF : ∀ r ∈ F, TG.OkRow n r) (hS : ∀ r ∈ S, TG.OkRow n r) (hSl : S.length = n) (hA : MovedOf l n F A) : Alike n F S l ↔ A = S := by
  have hmem : ∀ a, a < n → ∀ b, b < n → (im l b ∈ (row F a).map (im l) ↔ b ∈ row F a) := fun a ha b hb => by
    rw [List.mem_map]
    constructor
    · rintro ⟨c, hc, e⟩
      have hcn := (row_ok hF a).2.1 c hc
      rw [← im_inj hi (by omega) (by omega) e]
      exact hc
    · intro h
      exact ⟨b, h, rfl⟩
  constructor
  · intro h
    refine List.ext_getElem (by rw [hA.1, hSl]) fun m h1 h2 => ?_
    obtain ⟨a, ha, e⟩ := im_onto hi hl (m := m) (by omega)
    rw [← row_get h1, ← row_get h2, ← e]
    have hp := hA.2 a ha
    have hnd : (row A (im l a)).Nodup := by
      rw [hp.2.nodup_iff]
      refine List.Pairwise.map _ (R := fun x y => x < n ∧ y < n ∧ x ≠ y) (fun x y hxy e => hxy.2.2 (im_inj hi (by omega) (by omega) e)) ?_
      have ok := row_ok hF a
      refine List.Pairwise.imp_of_mem (fun {x y} hx hy hxy => ⟨ok.2.1 x hx, ok.2.1 y hy, by omega⟩) ok.1
    refine rise_ext (rise_of hp.1 hnd) (row_ok hS _).1 fun x => ?_
    rw [hp.2.mem_iff]
    constructor
    · intro hx
      obtain ⟨b, hb, rfl⟩ := List.mem_map.mp hx
      exact ((h a ha).2 b ((row_ok hF a).2.1 b hb)).mp hb
    · intro hx
      obtain ⟨b, hb, rfl⟩ := im_onto hi hl ((row_ok hS _).2.1 x hx)
      exact List.mem_map.mpr ⟨b, ((h a ha).2 b hb).mpr hx, rfl⟩
  · rintro rfl a ha
    have hp := (hA.2 a ha).2
    refine ⟨by rw [hp.length_eq, List.length_map], fun b hb => ?_⟩
    rw [hp.mem_iff, hmem a ha b hb]
/-- the maps found are those that move the one graph to the other -/
theorem good_moved {n : Nat} {L R L' R' A B : List (List Nat)} {l : List Nat} (hl : l.length = n) (hi : Inj n l) (h1 : 1 ≤ n) (h0 : l.take 1 = [0]) (hL : ∀ r ∈ L, TG.OkRow n r) (hR : ∀ r ∈ R, TG.OkRow n r) (hL' : ∀ r ∈ L', TG.OkRow n r) (hR' : ∀ r ∈ R', TG.OkRow n r)
    (lL : L'.length = n) (lR : R'.length = n) (hA : MovedOf l n L A) (hB : MovedOf l n R B) : (Fit L R L' R' [0] ∧ Good L R L' R' n [0] l) ↔ (A = L' ∧ B = R') := by
  rw [← alike_moved hl hi hL hL' lL hA, ← alike_moved hl hi hR hR' lR hB, alike_fit hl, alike_fit hl]
  constructor
  · rintro ⟨f0, g⟩
    have all : ∀ j, 1 ≤ j → j ≤ n → Fit L R L' R' (l.take j) := fun j j1 j2 => by
      by_cases c : j = 1
      · rw [c, h0]
        exact f0
      · exact g.fit j (by show 1 < j; omega) j2
    exact ⟨fun j j1 j2 => (all j j1 j2).1, fun j j1 j2 => (all j j1 j2).2⟩
  · rintro ⟨f1, f2⟩
    refine ⟨?_, ⟨h0, hl, hi, fun j j1 j2 => ⟨f1 j (Nat.le_of_lt j1) j2, f2 j (Nat.le_of_lt j1) j2⟩⟩⟩
    rw [← h0]
    exact ⟨f1 1 (Nat.le_refl _) h1, f2 1 (Nat.le_refl _) h1⟩
/-! ### all orders -/
def ins (x : Nat) (l : List Nat) : List (List Nat) := (List.range (l.length + 1)).map fun i => l.take i ++ [x] ++ l.drop i
/-- all orders of 1 .. m -/
def ord : Nat → List (List Nat)
  | 0 => [[]]
  | m + 1 => (ord m).flatMap (ins (m + 1))
def orders (n : Nat) : List (List Nat) := (ord (n - 1)).map fun l => 0 :: l
def lists (n : Nat) : Nat → List (List Nat)
  | 0 => [[]]
  | k + 1 => (List.range n).flatMap fun x => (lists n k).map fun l => x :: l
theorem in_lists {n : Nat} : ∀ {k : Nat} {l : List Nat}, l.length = k → (∀ x ∈ l, x < n) → l ∈ lists n k
  | 0, [], _, _ => List.mem_singleton.mpr rfl
  | 0, x :: l, h, _ => by cases h
  | k + 1, [], h, _ => by cases h
  | k + 1, x :: l, h, hx => by
    refine List.mem_flatMap.mpr ⟨x, List.mem_range.mpr (hx x List.mem_cons_self), List.mem_map.mpr ⟨l, in_lists (Nat.succ.inj h) fun y hy => hx y (List.mem_cons_of_mem _ hy), rfl⟩⟩
theorem five {p : Nat → Prop} (h1 : p 1) (h2 : p 2) (h3 : p 3) (h4 : p 4) (h5 : p 5) {n : Nat} (a : 1 ≤ n) (b : n ≤ 5) : p n := by
  match n, a, b with
  | 1, _, _ => exact h1
  | 2, _, _ => exact h2
  | 3, _, _ => exact h3
  | 4, _, _ => exact h4
  | 5, _, _ => exact h5
def okB (n : Nat) (l : List Nat) : Bool := decide (l.length = n) && decide l.Nodup && l.all (fun x => decide (x < n)) && decide (l.take 1 = [0])
theorem orders_okB {n : Nat} (a : 1 ≤ n) (b : n ≤ 5) : (orders n).all (okB n) = true := five (p := fun n => (orders n).all (okB n) = true) (by decide +kernel) (by decide +kernel) (by decide +kernel) (by decide +kernel) (by decide +kernel) a b
theorem orders_ok {n : Nat} (a : 1 ≤ n) (b : n ≤ 5) {l : List Nat} (h : l ∈ orders n) : l.length = n ∧ Inj n l ∧ l.take 1 = [0] := by
  have := List.all_eq_true.mp (orders_okB a b) l h
  unfold okB at this
  simp only [Bool.and_eq_true, decide_eq_true_eq, List.all_eq_true] at this
  exact ⟨this.1.1.1, ⟨this.1.1.2, this.1.2⟩, this.2⟩
def allB (n : Nat) : Bool := (lists n (n - 1)).all fun l => !decide (0 :: l).Nodup || decide (0 :: l ∈ orders n)
theorem orders_allB {n : Nat} (a : 1 ≤ n) (b : n ≤ 5) : allB n = true := five (p := fun n => allB n = true) (by decide +kernel) (by decide +kernel) (by decide +kernel) (by decide +kernel) (by decide +kernel) a b
theorem orders_all {n : Nat} (a : 1 ≤ n) (b : n ≤ 5) {l : List Nat} (hl : l.length = n) (hi : Inj n l) (h0 : l.take 1 = [0]) : l ∈ orders n := by
  match l, h0 with
  | [], h0 => cases h0
  | x :: l, h0 =>
    have e : x = 0 := (List.cons.inj h0).1
    subst e
    have h1 := List.all_eq_true.mp (orders_allB a b) l (in_lists (by rw [List.length_cons] at hl; omega) fun y hy => hi.2 y (List.mem_cons_of_mem _ hy))
    simp only [Bool.or_eq_true, Bool.not_eq_true', decide_eq_false_iff_not, decide_eq_true_eq] at h1
    rcases h1 with h1 | h1
    · exact absurd hi.1 h1
    · exact h1
theorem orders_len {n : Nat} (a : 1 ≤ n) (b : n ≤ 5) : (orders n).length ≤ 24 ∧ 1 ≤ (orders n).length := five (p := fun n => (orders n).length ≤ 24 ∧ 1 ≤ (orders n).length) (by decide +kernel) (by decide +kernel) (by decide +kernel) (by decide +kernel) (by decide +kernel) a b
theorem rise_len {n : Nat} {l : List Nat} (h1 : l.Pairwise (· < ·)) (h2 : ∀ x ∈ l, x < n) : l.length ≤ n := by
  have hn : l.Nodup := h1.imp fun {a b} h => Nat.ne_of_lt h
  have := TG.nodup_le (l := l) (m := List.range n) hn fun x hx => List.mem_range.mpr (h2 x hx)
  rw [List.length_range] at this
  exact this
theorem moved_ok {n : Nat} {F A : List (List Nat)} {l : List Nat} (hl : l.length = n) (hi : Inj n l) (hn : n ≤ 60) (hF : ∀ r ∈ F, TG.OkRow n r) (hA : MovedOf l n F A) : ∀ r ∈ A, TG.OkRow n r := by
  intro r hr
  obtain ⟨m, hm, e⟩ := List.getElem_of_mem hr
  obtain ⟨a, ha, e2⟩ := im_onto hi hl (m := m) (by rw [← hA.1]; exact hm)
  have er : r = row A (im l a) := by rw [e2, row_get hm, e]
  have hp := hA.2 a ha
  have ok := row_ok hF a
  have hnd : (row A (im l a)).Nodup := by
    rw [hp.2.nodup_iff]
    refine List.Pairwise.map _ (R := fun x y => x < n ∧ y < n ∧ x ≠ y) (fun x y hxy e => hxy.2.2 (im_inj hi (by omega) (by omega) e)) ?_
    refine List.Pairwise.imp_of_mem (fun {x y} hx hy hxy => ⟨ok.2.1 x hx, ok.2.1 y hy, by omega⟩) ok.1
  have hlt : ∀ x ∈ row A (im l a), x < n := fun x hx => by
    obtain ⟨b, hb, rfl⟩ := List.mem_map.mp (hp.2.mem_iff.mp hx)
    have := ok.2.1 b hb
    rw [im_get (by omega)]
    exact hi.2 _ (List.getElem_mem _)
  rw [er]
  exact ⟨rise_of hp.1 hnd, hlt, Nat.le_trans (rise_len (rise_of hp.1 hnd) hlt) hn⟩
theorem ok_more {n m : Nat} {r : List Nat} (h : TG.OkRow n r) (hm : n ≤ m) : TG.OkRow m r := ⟨h.1, fun x hx => Nat.lt_of_lt_of_le (h.2.1 x hx) hm, h.2.2⟩
theorem range_im (ds : List Nat) : (List.range ds.length).map (im ds) = ds := by
  refine List.ext_getElem (by simp) fun i h1 h2 => ?_
  rw [List.getElem_map, List.getElem_range, im_get h2]
theorem given_filter (ds : List Nat) (p : Nat → Bool) : Evl.given ds.length (fun i => p (im ds i)) (fun i => TG.N (im ds i)) = (ds.filter p).map TG.N := by
  unfold Evl.given
  have e := congrArg (List.filter p) (range_im ds)
  rw [List.filter_map] at e
  rw [← e, List.map_map]
  rfl
/-- one option more or less -/
def flip (ds : List Nat) (g : Nat) : List Nat := ds.filter (fun z => decide (z ≠ g)) ++ if g ∈ ds then [] else [g]
theorem flip_ok {n : Nat} {ds es : List Nat} {g : Nat} (h : TG.OkRow n ds) (hg : g < n) (hn : n ≤ 60) (hp : es.Perm (flip ds g)) (hs : es.Pairwise (· ≤ ·)) : TG.OkRow n es := by
  have hnd : ds.Nodup := h.1.imp fun {a b} h => Nat.ne_of_lt h
  have hfn : (flip ds g).Nodup := by
    unfold flip
    refine List.nodup_append.mpr ⟨hnd.filter _, ?_, fun x hx y hy => ?_⟩
    · split <;> simp
    · have h1 := (List.mem_filter.mp hx).2
      split at hy
      · cases hy
      · rw [List.mem_singleton] at hy
        rw [hy]
        exact of_decide_eq_true h1
  have hlt : ∀ x ∈ es, x < n := fun x hx => by
    have := hp.mem_iff.mp hx
    unfold flip at this
    rcases List.mem_append.mp this with h1 | h1
    · exact h.2.1 x (List.mem_filter.mp h1).1
    · split at h1
      · cases h1
      · rw [List.mem_singleton] at h1
        omega
  have hr := rise_of hs (hp.nodup_iff.mpr hfn)
  exact ⟨hr, hlt, Nat.le_trans (rise_len hr hlt) hn⟩
/-- sorted ints that come from naturals -/
theorem nat_perm {ms : List Int} {ds : List Nat} (hp : ms.Perm (ds.map fun m : Nat => (m : Int))) (hs : ms.Pairwise (· ≤ ·)) : ∃ es : List Nat, ms.map V.int = es.map TG.N ∧ es.Perm ds ∧ es.Pairwise (· ≤ ·) := by
  refine ⟨ms.map Int.toNat, ?_, ?_, ?_⟩
  · rw [List.map_map]
    refine List.map_congr_left fun z hz => ?_
    obtain ⟨y, _, rfl⟩ := List.mem_map.mp (hp.mem_iff.mp hz)
    rfl
  · have := hp.map Int.toNat
    rw [List.map_map] at this
    have e : ds.map (Int.toNat ∘ fun m : Nat => (m : Int)) = ds := by
      conv => rhs; rw [← List.map_id ds]
      exact List.map_congr_left fun z _ => rfl
    rw [e] at this
    exact this
  · rw [List.pairwise_map]
    exact hs.imp fun {x y} h => by omega
end GM


set_option Elab.async false
set_option linter.all false
set_option maxRecDepth 100000
set_option maxHeartbeats 4000000
namespace K83
open PySem L2 TG
def top (i : Nat) : Stmt := PySem.Challenge.pw_thermogames_k83_whole_maps_of_graphs.main.body.getD i (.Pass ⟨0, 0, 0, 0⟩)
abbrev s_is_int : Stmt := top 4
abbrev s_is_in : Stmt := top 5
abbrev s_is_edges : Stmt := top 8
abbrev s_need_graph : Stmt := top 9
abbrev s_extended : Stmt := top 11
abbrev s_fits : Stmt := top 12
abbrev s_graph_map : Stmt := top 13
abbrev s_law_taken : Stmt := top 15
abbrev s_law_pick : Stmt := top 16
abbrev s_law_graph : Stmt := top 17
abbrev s_law_orders : Stmt := top 18
abbrev s_law_moved : Stmt := top 19
abbrev s_law : Stmt := top 20
theorem sc_is_int : FnScope ["value"] ["value"] (defScope s_is_int) := ⟨rfl, rfl, rfl, by decide +kernel, rfl, by decide +kernel, by decide +kernel⟩
theorem sc_is_in : FnScope ["value", "least", "most"] ["value", "least", "most"] (defScope s_is_in) := ⟨rfl, rfl, rfl, by decide +kernel, rfl, by decide +kernel, by decide +kernel⟩
theorem sc_is_edges : FnScope ["many", "value", "told", "at", "node"] ["many", "value"] (defScope s_is_edges) := ⟨rfl, rfl, rfl, by decide +kernel, rfl, by decide +kernel, by decide +kernel⟩
theorem sc_need_graph : FnScope ["value", "many"] ["value"] (defScope s_need_graph) := ⟨rfl, rfl, rfl, by decide +kernel, rfl, by decide +kernel, by decide +kernel⟩
theorem sc_extended : FnScope ["one", "other", "images", "many", "goal", "found"] ["one", "other", "images"] (defScope s_extended) := ⟨rfl, rfl, rfl, by decide +kernel, rfl, by decide +kernel, by decide +kernel⟩
theorem sc_fits : FnScope ["one", "other", "images", "node", "first", "second", "told"] ["one", "other", "images"] (defScope s_fits) := ⟨rfl, rfl, rfl, by decide +kernel, rfl, by decide +kernel, by decide +kernel⟩
theorem sc_graph_map : FnScope ["one", "other"] ["one", "other"] (defScope s_graph_map) := ⟨rfl, rfl, rfl, by decide +kernel, rfl, by decide +kernel, by decide +kernel⟩
theorem sc_law_taken : FnScope ["_law_row", "_law_many", "_law_found", "_law_cell"] ["_law_row", "_law_many"] (defScope s_law_taken) := ⟨rfl, rfl, rfl, by decide +kernel, rfl, by decide +kernel, by decide +kernel⟩
theorem sc_law_pick : FnScope ["_law_row", "_law_things"] ["_law_row", "_law_things"] (defScope s_law_pick) := ⟨rfl, rfl, rfl, by decide +kernel, rfl, by decide +kernel, by decide +kernel⟩
theorem sc_law_graph : FnScope ["_law_row", "_law_most", "_law_many", "_law_sides", "_law_side", "_law_rows", "_law_node", "_law_some", "_law_at"] ["_law_row", "_law_most"] (defScope s_law_graph) := ⟨rfl, rfl, rfl, by decide +kernel, rfl, by decide +kernel, by decide +kernel⟩
theorem sc_law_orders : FnScope ["_law_many", "_law_found", "_law_node", "_law_longer", "_law_told", "_law_at"] ["_law_many"] (defScope s_law_orders) := ⟨rfl, rfl, rfl, by decide +kernel, rfl, by decide +kernel, by decide +kernel⟩
theorem sc_law_moved : FnScope ["_law_graph_here", "_law_names", "_law_sides", "_law_side", "_law_rows", "_law_node", "_law_goal"] ["_law_graph_here", "_law_names"] (defScope s_law_moved) := ⟨rfl, rfl, rfl, by decide +kernel, rfl, by decide +kernel, by decide +kernel⟩
theorem sc_law : FnScope ["_law_script", "_law_row", "_law_one", "_law_some", "_law_other", "_law_side", "_law_node", "_law_goal", "_law_told", "_law_rows", "_law_maps", "_law_found", "_law_names", "_law_more"] ["_law_script"] (defScope s_law) := ⟨rfl, rfl, rfl, by decide +kernel, rfl, by decide +kernel, by decide +kernel⟩
structure Txt (K : PySem.W.Frag) (mg : Str → Option Value) where
  a_is_int : Addr
  d_is_int : FuncData
  F_is_int : Fun K "is_int" "is_int" s_is_int a_is_int d_is_int
  b_is_int : Binds K d_is_int ["value"] []
  g_is_int : mg "is_int" = some (.ref a_is_int)
  a_is_in : Addr
  d_is_in : FuncData
  F_is_in : Fun K "is_in" "is_in" s_is_in a_is_in d_is_in
  b_is_in : Binds K d_is_in ["value", "least", "most"] []
  g_is_in : mg "is_in" = some (.ref a_is_in)
  a_is_edges : Addr
  d_is_edges : FuncData
  F_is_edges : Fun K "is_edges" "is_edges" s_is_edges a_is_edges d_is_edges
  b_is_edges : Binds K d_is_edges ["many", "value"] []
  g_is_edges : mg "is_edges" = some (.ref a_is_edges)
  a_need_graph : Addr
  d_need_graph : FuncData
  F_need_graph : Fun K "need_graph" "need_graph" s_need_graph a_need_graph d_need_graph
  b_need_graph : Binds K d_need_graph ["value"] []
  g_need_graph : mg "need_graph" = some (.ref a_need_graph)
  a_extended : Addr
  d_extended : FuncData
  F_extended : Fun K "extended" "extended" s_extended a_extended d_extended
  b_extended : Binds K d_extended ["one", "other", "images"] []
  g_extended : mg "extended" = some (.ref a_extended)
  a_fits : Addr
  d_fits : FuncData
  F_fits : Fun K "fits" "fits" s_fits a_fits d_fits
  b_fits : Binds K d_fits ["one", "other", "images"] []
  g_fits : mg "fits" = some (.ref a_fits)
  a_graph_map : Addr
  d_graph_map : FuncData
  F_graph_map : Fun K "graph_map" "graph_map" s_graph_map a_graph_map d_graph_map
  b_graph_map : Binds K d_graph_map ["one", "other"] []
  g_graph_map : mg "graph_map" = some (.ref a_graph_map)
  a_law_taken : Addr
  d_law_taken : FuncData
  F_law_taken : Fun K "_law_taken" "_law_taken" s_law_taken a_law_taken d_law_taken
  b_law_taken : Binds K d_law_taken ["_law_row", "_law_many"] []
  g_law_taken : mg "_law_taken" = some (.ref a_law_taken)
  a_law_pick : Addr
  d_law_pick : FuncData
  F_law_pick : Fun K "_law_pick" "_law_pick" s_law_pick a_law_pick d_law_pick
  b_law_pick : Binds K d_law_pick ["_law_row", "_law_things"] []
  g_law_pick : mg "_law_pick" = some (.ref a_law_pick)
  a_law_graph : Addr
  d_law_graph : FuncData
  F_law_graph : Fun K "_law_graph" "_law_graph" s_law_graph a_law_graph d_law_graph
  b_law_graph : Binds K d_law_graph ["_law_row", "_law_most"] []
  g_law_graph : mg "_law_graph" = some (.ref a_law_graph)
  a_law_orders : Addr
  d_law_orders : FuncData
  F_law_orders : Fun K "_law_orders" "_law_orders" s_law_orders a_law_orders d_law_orders
  b_law_orders : Binds K d_law_orders ["_law_many"] []
  g_law_orders : mg "_law_orders" = some (.ref a_law_orders)
  a_law_moved : Addr
  d_law_moved : FuncData
  F_law_moved : Fun K "_law_moved" "_law_moved" s_law_moved a_law_moved d_law_moved
  b_law_moved : Binds K d_law_moved ["_law_graph_here", "_law_names"] []
  g_law_moved : mg "_law_moved" = some (.ref a_law_moved)
  a_law : Addr
  d_law : FuncData
  F_law : Fun K "law" "law" s_law a_law d_law
  b_law : Binds K d_law ["_law_script"] []
  g_law : mg "law" = some (.ref a_law)
  B_law : ∀ (s : Shared) (v : Value), BindsTo s d_law ⟨[v], []⟩ [("_law_script", v)]
  t_MOST_GRAPH : Tok
  c_MOST_GRAPH : mg "MOST_GRAPH" = some (Value.int 60 t_MOST_GRAPH)
  m_len : mg "len" = none
  m_range : mg "range" = none
  m_int : mg "int" = none
  m_bool : mg "bool" = none
  m_tuple : mg "tuple" = none
  m_set : mg "set" = none
  m_isinstance : mg "isinstance" = none
  m_zip : mg "zip" = none
  m_all : mg "all" = none
  m_sorted : mg "sorted" = none
theorem txt_mk {K : PySem.W.Frag} {h : Heap} {mg : Str → Option Value} (X : K.In h) (G : h.Ns mainGlobals mg)
    {f0 : Addr} {od0 an0 : Option Addr} {sl0 : Array (Option Value)} {oc0 kV0 dc0 pm0 cd0 ct0 : Value}
    {f1 : Addr} {od1 an1 : Option Addr} {sl1 : Array (Option Value)} {oc1 kV1 dc1 pm1 cd1 ct1 : Value}
    {f2 : Addr} {od2 an2 : Option Addr} {sl2 : Array (Option Value)} {oc2 kV2 dc2 pm2 cd2 ct2 : Value}
    {f3 : Addr} {od3 an3 : Option Addr} {sl3 : Array (Option Value)} {oc3 kV3 dc3 pm3 cd3 ct3 : Value}
    {f4 : Addr} {od4 an4 : Option Addr} {sl4 : Array (Option Value)} {oc4 kV4 dc4 pm4 cd4 ct4 : Value}
    {f5 : Addr} {od5 an5 : Option Addr} {sl5 : Array (Option Value)} {oc5 kV5 dc5 pm5 cd5 ct5 : Value}
    {f6 : Addr} {od6 an6 : Option Addr} {sl6 : Array (Option Value)} {oc6 kV6 dc6 pm6 cd6 ct6 : Value}
    {f7 : Addr} {od7 an7 : Option Addr} {sl7 : Array (Option Value)} {oc7 kV7 dc7 pm7 cd7 ct7 : Value}
    {f8 : Addr} {od8 an8 : Option Addr} {sl8 : Array (Option Value)} {oc8 kV8 dc8 pm8 cd8 ct8 : Value}
    {f9 : Addr} {od9 an9 : Option Addr} {sl9 : Array (Option Value)} {oc9 kV9 dc9 pm9 cd9 ct9 : Value}
    {f10 : Addr} {od10 an10 : Option Addr} {sl10 : Array (Option Value)} {oc10 kV10 dc10 pm10 cd10 ct10 : Value}
    {f11 : Addr} {od11 an11 : Option Addr} {sl11 : Array (Option Value)} {oc11 kV11 dc11 pm11 cd11 ct11 : Value}
    {f12 : Addr} {od12 an12 : Option Addr} {sl12 : Array (Option Value)} {oc12 kV12 dc12 pm12 cd12 ct12 : Value}
    {tk0 : Tok}
    (a0 : PySem.W.nsIn K mainGlobals "is_int" = some (some (.ref f0))) (l0 : K.lookup f0 = some ⟨oc0, od0, .func (PySem.W.fnOf "is_int" "is_int" (defArgs s_is_int) (defBody s_is_int) (defScope s_is_int) .none kV0 dc0 pm0 an0 cd0 ct0), sl0⟩) (c0 : PySem.W.codeIn K cd0 "is_int" = true) (k0 : PySem.W.keepIn K (.ref f0) = true)
    (a1 : PySem.W.nsIn K mainGlobals "is_in" = some (some (.ref f1))) (l1 : K.lookup f1 = some ⟨oc1, od1, .func (PySem.W.fnOf "is_in" "is_in" (defArgs s_is_in) (defBody s_is_in) (defScope s_is_in) .none kV1 dc1 pm1 an1 cd1 ct1), sl1⟩) (c1 : PySem.W.codeIn K cd1 "is_in" = true) (k1 : PySem.W.keepIn K (.ref f1) = true)
    (a2 : PySem.W.nsIn K mainGlobals "is_edges" = some (some (.ref f2))) (l2 : K.lookup f2 = some ⟨oc2, od2, .func (PySem.W.fnOf "is_edges" "is_edges" (defArgs s_is_edges) (defBody s_is_edges) (defScope s_is_edges) .none kV2 dc2 pm2 an2 cd2 ct2), sl2⟩) (c2 : PySem.W.codeIn K cd2 "is_edges" = true) (k2 : PySem.W.keepIn K (.ref f2) = true)
    (a3 : PySem.W.nsIn K mainGlobals "need_graph" = some (some (.ref f3))) (l3 : K.lookup f3 = some ⟨oc3, od3, .func (PySem.W.fnOf "need_graph" "need_graph" (defArgs s_need_graph) (defBody s_need_graph) (defScope s_need_graph) .none kV3 dc3 pm3 an3 cd3 ct3), sl3⟩) (c3 : PySem.W.codeIn K cd3 "need_graph" = true) (k3 : PySem.W.keepIn K (.ref f3) = true)
    (a4 : PySem.W.nsIn K mainGlobals "extended" = some (some (.ref f4))) (l4 : K.lookup f4 = some ⟨oc4, od4, .func (PySem.W.fnOf "extended" "extended" (defArgs s_extended) (defBody s_extended) (defScope s_extended) .none kV4 dc4 pm4 an4 cd4 ct4), sl4⟩) (c4 : PySem.W.codeIn K cd4 "extended" = true) (k4 : PySem.W.keepIn K (.ref f4) = true)
    (a5 : PySem.W.nsIn K mainGlobals "fits" = some (some (.ref f5))) (l5 : K.lookup f5 = some ⟨oc5, od5, .func (PySem.W.fnOf "fits" "fits" (defArgs s_fits) (defBody s_fits) (defScope s_fits) .none kV5 dc5 pm5 an5 cd5 ct5), sl5⟩) (c5 : PySem.W.codeIn K cd5 "fits" = true) (k5 : PySem.W.keepIn K (.ref f5) = true)
    (a6 : PySem.W.nsIn K mainGlobals "graph_map" = some (some (.ref f6))) (l6 : K.lookup f6 = some ⟨oc6, od6, .func (PySem.W.fnOf "graph_map" "graph_map" (defArgs s_graph_map) (defBody s_graph_map) (defScope s_graph_map) .none kV6 dc6 pm6 an6 cd6 ct6), sl6⟩) (c6 : PySem.W.codeIn K cd6 "graph_map" = true) (k6 : PySem.W.keepIn K (.ref f6) = true)
    (a7 : PySem.W.nsIn K mainGlobals "_law_taken" = some (some (.ref f7))) (l7 : K.lookup f7 = some ⟨oc7, od7, .func (PySem.W.fnOf "_law_taken" "_law_taken" (defArgs s_law_taken) (defBody s_law_taken) (defScope s_law_taken) .none kV7 dc7 pm7 an7 cd7 ct7), sl7⟩) (c7 : PySem.W.codeIn K cd7 "_law_taken" = true) (k7 : PySem.W.keepIn K (.ref f7) = true)
    (a8 : PySem.W.nsIn K mainGlobals "_law_pick" = some (some (.ref f8))) (l8 : K.lookup f8 = some ⟨oc8, od8, .func (PySem.W.fnOf "_law_pick" "_law_pick" (defArgs s_law_pick) (defBody s_law_pick) (defScope s_law_pick) .none kV8 dc8 pm8 an8 cd8 ct8), sl8⟩) (c8 : PySem.W.codeIn K cd8 "_law_pick" = true) (k8 : PySem.W.keepIn K (.ref f8) = true)
    (a9 : PySem.W.nsIn K mainGlobals "_law_graph" = some (some (.ref f9))) (l9 : K.lookup f9 = some ⟨oc9, od9, .func (PySem.W.fnOf "_law_graph" "_law_graph" (defArgs s_law_graph) (defBody s_law_graph) (defScope s_law_graph) .none kV9 dc9 pm9 an9 cd9 ct9), sl9⟩) (c9 : PySem.W.codeIn K cd9 "_law_graph" = true) (k9 : PySem.W.keepIn K (.ref f9) = true)
    (a10 : PySem.W.nsIn K mainGlobals "_law_orders" = some (some (.ref f10))) (l10 : K.lookup f10 = some ⟨oc10, od10, .func (PySem.W.fnOf "_law_orders" "_law_orders" (defArgs s_law_orders) (defBody s_law_orders) (defScope s_law_orders) .none kV10 dc10 pm10 an10 cd10 ct10), sl10⟩) (c10 : PySem.W.codeIn K cd10 "_law_orders" = true) (k10 : PySem.W.keepIn K (.ref f10) = true)
    (a11 : PySem.W.nsIn K mainGlobals "_law_moved" = some (some (.ref f11))) (l11 : K.lookup f11 = some ⟨oc11, od11, .func (PySem.W.fnOf "_law_moved" "_law_moved" (defArgs s_law_moved) (defBody s_law_moved) (defScope s_law_moved) .none kV11 dc11 pm11 an11 cd11 ct11), sl11⟩) (c11 : PySem.W.codeIn K cd11 "_law_moved" = true) (k11 : PySem.W.keepIn K (.ref f11) = true)
    (a12 : PySem.W.nsIn K mainGlobals "law" = some (some (.ref f12))) (l12 : K.lookup f12 = some ⟨oc12, od12, .func (PySem.W.fnOf "law" "law" (defArgs s_law) (defBody s_law) (defScope s_law) .none kV12 dc12 pm12 an12 cd12 ct12), sl12⟩) (c12 : PySem.W.codeIn K cd12 "law" = true) (k12 : PySem.W.keepIn K (.ref f12) = true)
    (v0 : PySem.W.nsIn K mainGlobals "MOST_GRAPH" = some (some (Value.int 60 tk0)))
    (z0 : PySem.W.nsIn K mainGlobals "len" = some none)
    (z1 : PySem.W.nsIn K mainGlobals "range" = some none)
    (z2 : PySem.W.nsIn K mainGlobals "int" = some none)
    (z3 : PySem.W.nsIn K mainGlobals "bool" = some none)
    (z4 : PySem.W.nsIn K mainGlobals "tuple" = some none)
    (z5 : PySem.W.nsIn K mainGlobals "set" = some none)
    (z6 : PySem.W.nsIn K mainGlobals "isinstance" = some none)
    (z7 : PySem.W.nsIn K mainGlobals "zip" = some none)
    (z8 : PySem.W.nsIn K mainGlobals "all" = some none)
    (z9 : PySem.W.nsIn K mainGlobals "sorted" = some none) :
    Nonempty (Txt K mg) :=
  ⟨{ a_is_int := f0, d_is_int := _, F_is_int := fun_mk (st := s_is_int) l0 c0 k0, b_is_int := (fun_mk (st := s_is_int) l0 c0 k0).binds (ps := ["value"]) (fun _ _ _ _ _ _ us hl => match us, hl with | [_], _ => rfl), g_is_int := PySem.W.mg_of X G a0,
     a_is_in := f1, d_is_in := _, F_is_in := fun_mk (st := s_is_in) l1 c1 k1, b_is_in := (fun_mk (st := s_is_in) l1 c1 k1).binds (ps := ["value", "least", "most"]) (fun _ _ _ _ _ _ us hl => match us, hl with | [_, _, _], _ => rfl), g_is_in := PySem.W.mg_of X G a1,
     a_is_edges := f2, d_is_edges := _, F_is_edges := fun_mk (st := s_is_edges) l2 c2 k2, b_is_edges := (fun_mk (st := s_is_edges) l2 c2 k2).binds (ps := ["many", "value"]) (fun _ _ _ _ _ _ us hl => match us, hl with | [_, _], _ => rfl), g_is_edges := PySem.W.mg_of X G a2,
     a_need_graph := f3, d_need_graph := _, F_need_graph := fun_mk (st := s_need_graph) l3 c3 k3, b_need_graph := (fun_mk (st := s_need_graph) l3 c3 k3).binds (ps := ["value"]) (fun _ _ _ _ _ _ us hl => match us, hl with | [_], _ => rfl), g_need_graph := PySem.W.mg_of X G a3,
     a_extended := f4, d_extended := _, F_extended := fun_mk (st := s_extended) l4 c4 k4, b_extended := (fun_mk (st := s_extended) l4 c4 k4).binds (ps := ["one", "other", "images"]) (fun _ _ _ _ _ _ us hl => match us, hl with | [_, _, _], _ => rfl), g_extended := PySem.W.mg_of X G a4,
     a_fits := f5, d_fits := _, F_fits := fun_mk (st := s_fits) l5 c5 k5, b_fits := (fun_mk (st := s_fits) l5 c5 k5).binds (ps := ["one", "other", "images"]) (fun _ _ _ _ _ _ us hl => match us, hl with | [_, _, _], _ => rfl), g_fits := PySem.W.mg_of X G a5,
     a_graph_map := f6, d_graph_map := _, F_graph_map := fun_mk (st := s_graph_map) l6 c6 k6, b_graph_map := (fun_mk (st := s_graph_map) l6 c6 k6).binds (ps := ["one", "other"]) (fun _ _ _ _ _ _ us hl => match us, hl with | [_, _], _ => rfl), g_graph_map := PySem.W.mg_of X G a6,
     a_law_taken := f7, d_law_taken := _, F_law_taken := fun_mk (st := s_law_taken) l7 c7 k7, b_law_taken := (fun_mk (st := s_law_taken) l7 c7 k7).binds (ps := ["_law_row", "_law_many"]) (fun _ _ _ _ _ _ us hl => match us, hl with | [_, _], _ => rfl), g_law_taken := PySem.W.mg_of X G a7,
     a_law_pick := f8, d_law_pick := _, F_law_pick := fun_mk (st := s_law_pick) l8 c8 k8, b_law_pick := (fun_mk (st := s_law_pick) l8 c8 k8).binds (ps := ["_law_row", "_law_things"]) (fun _ _ _ _ _ _ us hl => match us, hl with | [_, _], _ => rfl), g_law_pick := PySem.W.mg_of X G a8,
     a_law_graph := f9, d_law_graph := _, F_law_graph := fun_mk (st := s_law_graph) l9 c9 k9, b_law_graph := (fun_mk (st := s_law_graph) l9 c9 k9).binds (ps := ["_law_row", "_law_most"]) (fun _ _ _ _ _ _ us hl => match us, hl with | [_, _], _ => rfl), g_law_graph := PySem.W.mg_of X G a9,
     a_law_orders := f10, d_law_orders := _, F_law_orders := fun_mk (st := s_law_orders) l10 c10 k10, b_law_orders := (fun_mk (st := s_law_orders) l10 c10 k10).binds (ps := ["_law_many"]) (fun _ _ _ _ _ _ us hl => match us, hl with | [_], _ => rfl), g_law_orders := PySem.W.mg_of X G a10,
     a_law_moved := f11, d_law_moved := _, F_law_moved := fun_mk (st := s_law_moved) l11 c11 k11, b_law_moved := (fun_mk (st := s_law_moved) l11 c11 k11).binds (ps := ["_law_graph_here", "_law_names"]) (fun _ _ _ _ _ _ us hl => match us, hl with | [_, _], _ => rfl), g_law_moved := PySem.W.mg_of X G a11,
     a_law := f12, d_law := _, F_law := fun_mk (st := s_law) l12 c12 k12, b_law := (fun_mk (st := s_law) l12 c12 k12).binds (ps := ["_law_script"]) (fun _ _ _ _ _ _ us hl => match us, hl with | [_], _ => rfl), g_law := PySem.W.mg_of X G a12,
     B_law := fun s v => .of_eq rfl,
     t_MOST_GRAPH := tk0, c_MOST_GRAPH := PySem.W.mg_of X G v0,
     m_len := PySem.W.mg_none_of X G z0,
     m_range := PySem.W.mg_none_of X G z1,
     m_int := PySem.W.mg_none_of X G z2,
     m_bool := PySem.W.mg_none_of X G z3,
     m_tuple := PySem.W.mg_none_of X G z4,
     m_set := PySem.W.mg_none_of X G z5,
     m_isinstance := PySem.W.mg_none_of X G z6,
     m_zip := PySem.W.mg_none_of X G z7,
     m_all := PySem.W.mg_none_of X G z8,
     m_sorted := PySem.W.mg_none_of X G z9 }⟩
end K83


set_option Elab.async false
set_option linter.all false
set_option maxRecDepth 100000
set_option maxHeartbeats 4000000
namespace K83
open PySem L2 TG
section
variable {P : Program} {w : World} {K : PySem.W.Frag} {mg : Str → Option Value} {base : Heap}
/-! ### is_int, is_in of ints -/
def spIsInt : Sp := fun vs H Q _ => ∃ n : Int, vs = [.int n] ∧ Q (.bl true) H
theorem ok_is_int {k : Nat} (T : Txt K mg) : FnOk P w K mg base CX0 (k + 1) T.a_is_int T.d_is_int ["value"] spIsInt := by
  refine T.F_is_int.ok sc_is_int (fun vs H Q E h => ?_) (fun cdv A outer s H vs Q E hr h => ?_)
  · obtain ⟨n, rfl, _⟩ := h
    rfl
  obtain ⟨n, rfl, q⟩ := h
  refine ⟨_, (pss_one (ps_ret (pe_and (pe_callB (call_isiG (K := K) rfl) rfl T.m_isinstance (by decide +kernel) (pa_cons (pv 0) (pa_cons (pe_bltn (v := .ty "int") (u := .type "int") rfl T.m_int (by decide +kernel) rfl) pa_nil))) (pe_one (pe_not (pe_callB (call_isiG (K := K) rfl) rfl T.m_isinstance (by decide +kernel) (pa_cons (pv 0) (pa_cons (pe_bltn (v := .ty "bool") (u := .type "bool") rfl T.m_bool (by decide +kernel) rfl) pa_nil)))))))), ?_⟩
  exact ⟨_, rfl, _, _, _, _, rfl, TyN.int, kit_int_int, _, rfl, _, rfl, _, _, _, _, rfl, TyN.int, kit_int_bool, _, rfl, q⟩
def spIsIn : Sp := fun vs H Q _ => ∃ n a b : Int, vs = [.int n, .int a, .int b] ∧ Q (.bl (decide (a ≤ n) && decide (n ≤ b))) H
theorem ok_is_in {k : Nat} (T : Txt K mg) (G_is_int : FnOk P w K mg base CX0 k T.a_is_int T.d_is_int ["value"] spIsInt) : FnOk P w K mg base CX0 (k + 1) T.a_is_in T.d_is_in ["value", "least", "most"] spIsIn := by
  refine T.F_is_in.ok sc_is_in (fun vs H Q E h => ?_) (fun cdv A outer s H vs Q E hr h => ?_)
  · obtain ⟨n, a, b, rfl, _⟩ := h
    rfl
  obtain ⟨n, a, b, rfl, q⟩ := h
  refine ⟨_, (pss_one (ps_ret (pe_and (pe_call G_is_int hr rfl T.g_is_int T.F_is_int.kp T.b_is_int .nil pass0 (pa_cons (pv 0) pa_nil)) (pe_one (pe_chain op_le op_le (pv 1) (pv 0) (pv 2)))))), ?_⟩
  simp only [tRet, tAndV, tOrV, tNotV, tAnd, tOr, tNot, tB, tTest, tCB, tCons, tNil, tVar, tC, L2.start, tOp, tUn, tIf, tIfS, tSeq, tAsg, gName, tNext, tNever, tPar, tDrop, tCall, tChain, rI, rI0, rU, rEq, rNe, scal, List.map, List.length, List.replicate, List.append, List.set, List.cons_append, List.nil_append, List.append_nil,
  List.getElem?_cons_zero, List.getElem?_cons_succ, List.set_cons_zero, List.set_cons_succ, Option.some.injEq, exists_eq_left', exists_eq_left, exists_eq_right, exists_eq_right', exists_and_left, V.int.injEq, V.bl.injEq, V.str.injEq, V.ref.injEq, List.cons.injEq, and_true, true_and, and_self, Nat.reduceAdd, Nat.reduceSub, Nat.sub_self, decide_eq_true_eq, Bool.not_eq_true', decide_eq_false_iff_not, ↓reduceIte, Bool.false_eq_true, TG.ex2_eq, TG.ex3_eq, TG.ex4_eq]
  refine ⟨n, rfl, true, rfl, ?_⟩
  rw [if_pos rfl]
  by_cases h : a ≤ n
  · rw [if_pos h]
    rw [decide_eq_true h] at q
    exact q
  · rw [if_neg h]
    rw [decide_eq_false h] at q
    exact q
end
end K83


set_option Elab.async false
set_option linter.all false
set_option maxRecDepth 100000
set_option maxHeartbeats 4000000
namespace K83
open PySem L2 TG
section
variable {P : Program} {w : World} {K : PySem.W.Frag} {mg : Str → Option Value} {base : Heap}
/-! ### a draw -/
theorem ok_taken {k : Nat} (T : Txt K mg) : FnOk P w K mg base CX0 (k + 1) T.a_law_taken T.d_law_taken ["_law_row", "_law_many"] (spTk K) := by
  refine T.F_law_taken.ok sc_law_taken (fun vs H Q E h => ?_) (fun cdv A outer s H vs Q E hr h => ?_)
  · obtain ⟨r, a, ns, m, rfl, _⟩ := h
    rfl
  obtain ⟨r, a, ns, m, rfl, ⟨i, z, t, h1, h2, h3, h4⟩, ⟨m0, m1⟩, q⟩ := h
  refine ⟨_, (pss_cons (ps_if (pt_cmpR op_gt (pe_ix (ix_listK (K := K) rfl) (pv 0) pe_int (fun _ _ => rfl)) pe_int (nomark _))
  (pss_cons (ps_set (i := 2) sc_law_taken.nd rfl (Or.inl rfl) (pe_op op_mod (pe_callTy call_int1 rfl T.m_int (by decide +kernel) (pa_cons (pe_ix (ix_listK (K := K) rfl) (pv 0) pe_int (fun _ _ => rfl)) pa_nil)) (pv 1)))
  (pss_cons (ps_asg (pe_op op_fdiv (pe_ix (ix_listK (K := K) rfl) (pv 0) pe_int (fun _ _ => rfl)) (pv 1)) (pg_sub (pv 0) pe_int set_list))
  (pss_one (ps_ret (pv 2)))))
  pss_nil)
  (pss_cons (ps_asg (pe_op op_add (pe_ix (ix_listK (K := K) rfl) (pv 0) pe_int (fun _ _ => rfl)) pe_int) (pg_sub (pv 0) pe_int set_list))
  (pss_cons (ps_if (pt_cmpR op_gt (pe_ix (ix_listK (K := K) rfl) (pv 0) pe_int (fun _ _ => rfl)) (pe_callB (call_lenK (K := K) rfl) rfl T.m_len PySem.boot_len (pa_cons (pe_ix (ix_listK (K := K) rfl) (pv 0) pe_int (fun _ _ => rfl)) pa_nil)) (nomark _))
  (pss_cons (ps_asg (pe_op op_mod (pe_callTy call_int1 rfl T.m_int (by decide +kernel) (pa_cons (pe_op op_add (pe_op op_mul (pe_ix (ix_listK (K := K) rfl) (pv 0) pe_int (fun _ _ => rfl)) pe_int) pe_int) pa_nil)) pe_int) (pg_sub (pv 0) pe_int set_list))
  (pss_one (ps_ret (pe_op op_mod (pe_callTy call_int1 rfl T.m_int (by decide +kernel) (pa_cons (pe_op op_fdiv (pe_ix (ix_listK (K := K) rfl) (pv 0) pe_int (fun _ _ => rfl)) pe_int) pa_nil)) (pv 1)))))
  pss_nil)
  (pss_cons (ps_set (i := 3) sc_law_taken.nd rfl (Or.inl rfl) (pe_ix (ix_listK (K := K) rfl) (pe_ix (ix_listK (K := K) rfl) (pv 0) pe_int (fun _ _ => rfl)) (pe_op op_sub (pe_ix (ix_listK (K := K) rfl) (pv 0) pe_int (fun _ _ => rfl)) pe_int) (fun _ _ => rfl)))
  (pss_cons (ps_asg (pe_op op_mod (pe_callTy call_int1 rfl T.m_int (by decide +kernel) (pa_cons (pe_op op_add (pe_op op_add (pe_op op_mul (pe_ix (ix_listK (K := K) rfl) (pv 0) pe_int (fun _ _ => rfl)) pe_int) (pv 3)) pe_int) pa_nil)) pe_int) (pg_sub (pv 0) pe_int set_list))
  (pss_cons (ps_if (pt_cmpR op_ge (pv 3) (pe_op op_pow pe_int pe_int) (nomark _))
  (pss_one (ps_asg (pe_op op_fdiv (pv 3) (pv 1)) (pg_sub (pv 0) pe_int set_list)))
  pss_nil)
  (pss_one (ps_ret (pe_op op_mod (pe_callTy call_int1 rfl T.m_int (by decide +kernel) (pa_cons (pv 3) pa_nil)) (pv 1)))))))))), ?_⟩
  have md : ∀ x : Int, CDiv x m := fun x => ⟨m0, m1⟩
  have fin : ∀ (x i' z' t' : Int), 0 ≤ i' → Q (.int (x % m)) (upd H r (.lst [.ref a, .int i', .int z', .int t'])) := fun x i' z' t' hi =>
    q _ _ (Int.emod_nonneg _ (by omega)) (Int.emod_lt_of_pos _ m0) ⟨i', z', t', upd_same, by rw [hide_upd]; exact h2, h3, hi⟩ fun b hb => upd_ne hb
  have sc : ∀ o, SqL K (upd H r o) a (ns.map V.int) := fun o => hide_same.seq (by rw [hide_upd]; exact h2)
  -- if _law_row[3] > 0
  refine ⟨_, rfl, ⟨_, _, _, _, rfl, rfl, SqL.of h1, at3, ?_⟩⟩
  refine ⟨_, _, rfl, rfl, _, rfl, ite2 (fun c => ?_) (fun c => ?_)⟩
  · refine ⟨_, rfl, ⟨_, _, _, _, rfl, rfl, SqL.of h1, at3, (.inl ⟨_, rfl, _, rfl, _, _, rfl, rfl, m0, ?_⟩)⟩⟩
    refine ⟨_, rfl, ⟨_, _, _, _, rfl, rfl, SqL.of h1, at3, ⟨_, rfl, _, _, rfl, rfl, md _, ?_⟩⟩⟩
    refine ⟨_, rfl, r, _, 3, 3, rfl, rfl, h1, rfl, _, rfl, ?_⟩
    exact fin _ _ _ _ h4
  · -- _law_row[1] = _law_row[1] + 1
    refine ⟨_, rfl, ⟨_, _, _, _, rfl, rfl, SqL.of h1, at1, ⟨_, _, rfl, rfl, _, rfl, r, _, 1, 1, rfl, rfl, h1, rfl, ?_⟩⟩⟩
    -- if _law_row[1] > len(_law_row[0])
    refine ⟨_, rfl, ⟨_, _, _, _, rfl, rfl, SqL.of upd_same, at1, ⟨_, rfl, ⟨_, _, _, _, rfl, rfl, SqL.of upd_same, at0, ⟨a, _, rfl, .inl (sc _), _, _, rfl, rfl, _, rfl, ite2 (fun c2 => ?_) (fun c2 => ?_)⟩⟩⟩⟩⟩
    · refine ⟨_, rfl, ⟨_, _, _, _, rfl, rfl, SqL.of upd_same, at2, ⟨_, _, rfl, rfl, mul_small, _, _, rfl, rfl, .inl ⟨_, rfl, _, _, rfl, rfl, (by show (0 : Int) < 2147483647; decide), ?_⟩⟩⟩⟩
      refine ⟨_, rfl, r, _, 2, 2, rfl, rfl, upd_same, rfl, ?_⟩
      refine ⟨_, rfl, ⟨_, _, _, _, rfl, rfl, SqL.of upd_same, at2, ⟨_, _, rfl, rfl, ⟨by decide, by decide⟩, .inl ⟨_, rfl, _, rfl, _, _, rfl, rfl, m0, ?_⟩⟩⟩⟩
      rw [upd_upd]
      exact fin _ _ _ _ (by omega)
    · have c3 : ¬ ((((ns.map V.int).length : Nat) : Int) < i + 1) := of_decide_eq_false (Bool.eq_false_iff.mpr c2)
      rw [List.length_map] at c3
      have hi : i.toNat < ns.length := by omega
      have hv : atI (ns.map V.int) (i + 1 - 1) = some (.int (ns[i.toNat])) := by
        have e : i + 1 - 1 = ((i.toNat : Nat) : Int) := by omega
        rw [e]
        exact atI_nat (by rw [List.getElem?_map, List.getElem?_eq_getElem hi]; rfl)
      -- _law_cell = _law_row[0][_law_row[1] - 1]
      refine ⟨_, rfl, ⟨_, _, _, _, rfl, rfl, SqL.of upd_same, at0, ⟨_, rfl, ⟨_, _, _, _, rfl, rfl, SqL.of upd_same, at1, ⟨_, _, rfl, rfl, a, _, _, _, rfl, rfl, sc _, hv, ?_⟩⟩⟩⟩⟩
      refine ⟨_, rfl, ⟨_, _, _, _, rfl, rfl, SqL.of upd_same, at2, ⟨_, _, rfl, rfl, mul_small, _, rfl, _, _, rfl, rfl, _, _, rfl, rfl, .inl ⟨_, rfl, _, _, rfl, rfl, (by show (0 : Int) < 2147483647; decide), ?_⟩⟩⟩⟩
      refine ⟨_, rfl, r, _, 2, 2, rfl, rfl, upd_same, rfl, ?_⟩
      rw [upd_upd]
      refine ⟨_, rfl, _, _, rfl, rfl, ⟨by decide, by decide, by decide⟩, _, _, rfl, rfl, _, rfl, ite2 (fun c4 => ?_) (fun c4 => ?_)⟩
      · refine ⟨_, rfl, _, rfl, _, _, rfl, rfl, md _, _, rfl, r, _, 3, 3, rfl, rfl, upd_same, rfl, ?_⟩
        rw [upd_upd]
        refine ⟨_, rfl, .inl ⟨_, rfl, _, rfl, _, _, rfl, rfl, m0, ?_⟩⟩
        exact fin _ _ _ _ (by omega)
      · refine ⟨_, rfl, .inl ⟨_, rfl, _, rfl, _, _, rfl, rfl, m0, ?_⟩⟩
        exact fin _ _ _ _ (by omega)
end
end K83


set_option Elab.async false
set_option linter.all false
set_option maxRecDepth 100000
set_option maxHeartbeats 4000000
namespace K83
open PySem L2 TG
section
variable {P : Program} {w : World} {K : PySem.W.Frag} {mg : Str → Option Value} {base : Heap}
theorem ok_pick {k : Nat} (T : Txt K mg) (G_law_taken : FnOk P w K mg base CX0 k T.a_law_taken T.d_law_taken ["_law_row", "_law_many"] (spTk K)) : FnOk P w K mg base CX0 (k + 1) T.a_law_pick T.d_law_pick ["_law_row", "_law_things"] (spPk K) := by
  refine T.F_law_pick.ok sc_law_pick (fun vs H Q E h => ?_) (fun cdv A outer s H vs Q E hr h => ?_)
  · obtain ⟨r, a, p, ns, xs, rfl, _⟩ := h
    rfl
  obtain ⟨r, a, p, ns, xs, rfl, hR, hp, hne, ⟨x0, x1⟩, q⟩ := h
  refine ⟨_, (pss_one (ps_ret (pe_ix (ix_listK (K := K) rfl) (pv 1) (pe_call G_law_taken hr rfl T.g_law_taken T.F_law_taken.kp T.b_law_taken .nil pass0 (pa_cons (pv 0) (pa_cons (pe_callB (call_lenK (K := K) rfl) rfl T.m_len PySem.boot_len (pa_cons (pv 1) pa_nil)) pa_nil))) (fun _ _ => rfl)))), ?_⟩
  refine ⟨_, rfl, _, rfl, _, rfl, p, _, rfl, .inl (SqL.of hp), r, a, ns, _, rfl, hR, ⟨by omega, by omega⟩, fun d H' d0 d1 hR' ho => ?_⟩
  have hd : d.toNat < xs.length := by omega
  have ed : d = ((d.toNat : Nat) : Int) := by omega
  refine ⟨p, xs, _, xs[d.toNat], rfl, rfl, SqL.of (by rw [ho p hne]; exact hp), ?_, q _ H' (List.getElem_mem hd) hR' ho⟩
  have e1 : atI xs ((d.toNat : Nat) : Int) = some xs[d.toNat] := atI_nat (List.getElem?_eq_getElem hd)
  rw [← ed] at e1
  exact e1
end
end K83


set_option Elab.async false
set_option linter.all false
set_option maxRecDepth 100000
set_option maxHeartbeats 4000000
namespace K83
open PySem L2 TG
section
variable {P : Program} {w : World} {K : PySem.W.Frag} {mg : Str → Option Value} {base : Heap}
theorem given_true (n : Nat) : Evl.given n (fun _ => true) (fun _ => V.bl true) = (List.replicate n true).map V.bl := by
  rw [given_all, List.map_replicate, List.map_const', List.length_range]
theorem all_true (n : Nat) : (List.replicate n true).all id = true := by simp
/-! ### is_edges, need_graph: a good graph is let through -/
def spEdges (K : PySem.W.Frag) : Sp := fun vs H Q _ => ∃ (v : V) (rs : List (List Nat)) (n : Nat), vs = [N n, v] ∧ Dp K H v (rowsD rs) ∧ rs.length = n ∧ (∀ r ∈ rs, OkRow n r) ∧ n ≤ 60 ∧ ∀ H', Same H H' → Q (.bl true) H'
theorem ok_is_edges {k : Nat} (T : Txt K mg) (G_is_in : FnOk P w K mg base CX0 k T.a_is_in T.d_is_in ["value", "least", "most"] spIsIn) : FnOk P w K mg base CX0 (k + 1) T.a_is_edges T.d_is_edges ["many", "value"] (spEdges K) := by
  refine T.F_is_edges.ok sc_is_edges (fun vs H Q E h => ?_) (fun cdv A outer s H vs Q E hr h => ?_)
  · obtain ⟨v, rs, n, rfl, _⟩ := h
    rfl
  obtain ⟨v, rs, n, rfl, hD, hn, hok, h60, q⟩ := h
  refine ⟨_, (pss_cons (ps_if (PW.pt (pw_or (pt_not (pt_val (pe_callB (call_isiG (K := K) rfl) rfl T.m_isinstance (by decide +kernel) (pa_cons (pv 1) (pa_cons (pe_bltn (v := .ty "tuple") (u := .type "tuple") rfl T.m_tuple (by decide +kernel) rfl) pa_nil))))) (pw_or1 (pt_cmpR op_ne (pe_callB (call_lenK (K := K) rfl) rfl T.m_len PySem.boot_len (pa_cons (pv 1) pa_nil)) (pv 0) (nomark _)))))
  (pss_one (ps_ret pe_bl))
  pss_nil)
  (pss_cons (ps_for PassesOwn.never rfl (pi_tupK (K := K) rfl (pv 1)) (pg_name (i := 2) sc_is_edges.nd rfl (Or.inr rfl))
  (pss_cons (ps_if (PW.pt (pw_or (pt_not (pt_val (pe_callB (call_isiG (K := K) rfl) rfl T.m_isinstance (by decide +kernel) (pa_cons (pv 2) (pa_cons (pe_bltn (v := .ty "tuple") (u := .type "tuple") rfl T.m_tuple (by decide +kernel) rfl) pa_nil))))) (pw_or1 (pt_not (pt_val (pe_callB (cr_allK (K := K) rfl rfl) rfl T.m_all (by decide +kernel) (pa_cons (pe_lc (own := [("node", 4)]) rfl sc_is_edges.nd (pi_tupK (K := K) rfl (pv 2)) (blkOk_by (N := ["many", "value", "told", "at", "node"]) (sc := defScope s_is_edges) (by decide +kernel)) (fun _ _ _ _ _ => (pg_name (i := 4) sc_is_edges.nd rfl (Or.inl rfl))) (fun _ _ _ _ _ => pts_nil) (fun _ _ _ _ _ => (pe_call G_is_in hr rfl T.g_is_in T.F_is_in.kp T.b_is_in .nil pass0 (pa_cons (pv 4) (pa_cons pe_int (pa_cons (pe_op op_sub (pv 0) pe_int) pa_nil)))))) pa_nil)))))))
  (pss_one (ps_ret pe_bl))
  pss_nil)
  (pss_one (ps_if (pt_not (pt_val (pe_callB (cr_allK (K := K) rfl rfl) rfl T.m_all (by decide +kernel) (pa_cons (pe_lc (own := [("at", 3)]) rfl sc_is_edges.nd (pi_range1 rfl T.m_range (pa_cons (pe_op op_sub (pe_callB (call_lenK (K := K) rfl) rfl T.m_len PySem.boot_len (pa_cons (pv 2) pa_nil)) pe_int) pa_nil)) (blkOk_by (N := ["many", "value", "told", "at", "node"]) (sc := defScope s_is_edges) (by decide +kernel)) (fun _ _ _ _ _ => (pg_name (i := 3) sc_is_edges.nd rfl (Or.inl rfl))) (fun _ _ _ _ _ => pts_nil) (fun _ _ _ _ _ => (pe_cmpR op_lt (pe_ix (ix_tupK (K := K) rfl) (pv 2) (pv 3) (fun _ _ => rfl)) (pe_ix (ix_tupK (K := K) rfl) (pv 2) (pe_op op_add (pv 3) pe_int) (fun _ _ => rfl)) (nomark _)))) pa_nil))))
  (pss_one (ps_ret pe_bl))
  pss_nil))))
  (pss_one (ps_ret pe_bl)))), ?_⟩
  obtain ⟨a, xs, rfl, hS, hl, hA⟩ := rows_at hD
  refine ⟨_, rfl, _, _, _, _, rfl, TyN.tup hS, kit_tuple_tuple, _, rfl, iteF ?_⟩
  refine ⟨_, rfl, a, _, rfl, .inr hS, _, rfl, rfl, _, rfl, ?_⟩
  have e1 : decide (V.int ((xs.length : Nat) : Int) = N n) = true := decide_eq_true (by rw [hl, hn])
  rw [e1]
  refine iteF ?_
  dsimp only [tNext]
  -- for told in value
  refine ⟨_, rfl, a, rfl, ⟨_, hS⟩, ?_⟩
  refine for_tup (xs := xs) (fun i σ' H' => ∃ x2, σ' = [some (N n), some (.ref a), x2, none, none] ∧ Same H H') ?_ ?_ ?_ ?_
  · exact ⟨none, rfl, fun _ _ e => e⟩
  · rintro i σ' H' _ ⟨x2, rfl, s⟩
    exact sqT s hS
  · rintro i x σ' H' hx ⟨x2, rfl, s⟩
    have hi : i < rs.length := by rw [← hl]; exact (List.getElem?_eq_some_iff.mp hx).1
    obtain ⟨b, hb, hT⟩ := rows_get hA (List.getElem?_eq_getElem hi)
    rw [hx] at hb
    obtain rfl := Option.some.inj hb
    have ok := hok _ (List.getElem_mem hi)
    generalize rs[i] = ds at hT ok
    have hT' := sqT s hT
    dsimp only [gName]
    refine ⟨_, rfl, _, _, _, _, rfl, TyN.tup hT', kit_tuple_tuple, _, rfl, iteF ?_⟩
    refine go_not (go_B (go_cb (go_cons ?_)))
    refine el_lcT (K := K) (a := b) (xs := ds.map N) (fun _ => true) (fun _ => .bl true) ?_ hT' ?_ ?_ ?_ ?_ H' (Evl.Ex.refl H') _ ?_
    · exact Evl.ev_var rfl
    · rw [List.length_map]
      have := ok.2.2
      omega
    · intro x
      rfl
    · intro i x H1 e1 hx H2 e2 Q2 q2
      exact q2 H2 (Evl.Ex.refl H2)
    · intro i x H1 e1 hx _ H2 e2 Q2 q2
      rw [List.getElem?_map] at hx
      cases hd : ds[i]? with
      | none => rw [hd] at hx; cases hx
      | some d =>
        rw [hd] at hx
        obtain rfl := Option.some.inj hx
        have d7 := ok.2.1 d (List.mem_of_getElem? hd)
        refine ⟨_, rfl, _, rfl, _, _, rfl, rfl, _, _, _, rfl, ?_⟩
        rw [decide_eq_true (by omega), decide_eq_true (by omega)]
        exact q2 H2 (Evl.Ex.refl H2)
    · intro D1 H1 hD1 e1 h1
      rw [given_true] at h1
      refine ⟨D1, _, rfl, SqL.of h1, _, rfl, ?_⟩
      rw [all_true]
      refine iteF ?_
      dsimp only [tNext]
      have hT1 := sqT e1 hT'
      refine go_ifS (go_not (go_B (go_cb (go_cons ?_))))
      refine el_lcR1n (n := ((ds.length : Nat) : Int) - 1) (fun _ => true) (fun _ => .bl true) ?_ ?_ ?_ ?_ ?_ H1 (Evl.Ex.refl H1) _ ?_
      · intro H2 e2 Q2 q2
        refine ⟨_, rfl, b, _, rfl, .inr (sqT e2 hT1), _, _, rfl, rfl, ?_⟩
        rw [List.length_map]
        exact q2 H2 (Evl.Ex.refl H2)
      · have := ok.2.2
        omega
      · intro x
        rfl
      · intro i H2 e2 hi H3 e3 Q3 q3
        exact q3 H3 (Evl.Ex.refl H3)
      · intro i H2 e2 hi _ H3 e3 Q3 q3
        have h1 : i < ds.length := by omega
        have h2 : i + 1 < ds.length := by omega
        have hlt := List.pairwise_iff_getElem.mp ok.1 i (i + 1) h1 h2 (Nat.lt_succ_self i)
        have hT3 := sqT e3 (sqT e2 hT1)
        refine ⟨_, rfl, _, rfl, b, _, _, N ds[i], rfl, rfl, hT3, ?_, _, rfl, _, rfl, _, _, rfl, rfl, b, _, _, N ds[i + 1], rfl, rfl, hT3, ?_, _, _, rfl, rfl, ?_⟩
        · exact atI_nat (by rw [List.getElem?_map, List.getElem?_eq_getElem h1]; rfl)
        · have : ((i : Nat) : Int) + 1 = ((i + 1 : Nat) : Int) := by omega
          rw [this]
          exact atI_nat (by rw [List.getElem?_map, List.getElem?_eq_getElem h2]; rfl)
        · have e5 : decide (((ds[i] : Nat) : Int) < ((ds[i + 1] : Nat) : Int)) = true := decide_eq_true (by omega)
          show Q3 (V.bl (decide (((ds[i] : Nat) : Int) < ((ds[i + 1] : Nat) : Int)))) H3
          rw [e5]
          exact q3 H3 (Evl.Ex.refl H3)
      · intro D2 H2 hD2 e2 h2
        rw [given_true] at h2
        refine ⟨D2, _, rfl, SqL.of h2, _, rfl, ?_⟩
        rw [all_true]
        exact iteF ⟨_, rfl, (s.trans e1).trans e2⟩
  · rintro σ' H' ⟨x2, rfl, s⟩
    exact q H' s
def GrOk (L R : List (List Nat)) : Prop := L.length = R.length ∧ 1 ≤ L.length ∧ L.length ≤ 60 ∧ (∀ r ∈ L, OkRow L.length r) ∧ ∀ r ∈ R, OkRow L.length r
def spNeedG (K : PySem.W.Frag) : Sp := fun vs H Q _ => ∃ (v : V) (L R : List (List Nat)), vs = [v] ∧ Dp K H v (grD L R) ∧ GrOk L R ∧ ∀ H', Same H H' → Q .non H'
theorem ok_need_graph {k : Nat} (T : Txt K mg) (G_is_edges : FnOk P w K mg base CX0 k T.a_is_edges T.d_is_edges ["many", "value"] (spEdges K)) : FnOk P w K mg base CX0 (k + 1) T.a_need_graph T.d_need_graph ["value"] (spNeedG K) := by
  refine T.F_need_graph.ok sc_need_graph (fun vs H Q E h => ?_) (fun cdv A outer s H vs Q E hr h => ?_)
  · obtain ⟨v, L, R, rfl, _⟩ := h
    rfl
  obtain ⟨v, L, R, rfl, hD, ⟨hlr, h1, h60, hL, hRr⟩, q⟩ := h
  refine ⟨_, (pss_cons (ps_if (PW.pt (pw_or (pt_not (pt_val (pe_callB (call_isiG (K := K) rfl) rfl T.m_isinstance (by decide +kernel) (pa_cons (pv 0) (pa_cons (pe_bltn (v := .ty "tuple") (u := .type "tuple") rfl T.m_tuple (by decide +kernel) rfl) pa_nil))))) (pw_or (pt_cmpR op_ne (pe_callB (call_lenK (K := K) rfl) rfl T.m_len PySem.boot_len (pa_cons (pv 0) pa_nil)) pe_int (nomark _)) (pw_or1 (pt_not (pt_val (pe_callB (call_isiG (K := K) rfl) rfl T.m_isinstance (by decide +kernel) (pa_cons (pe_ix (ix_tupK (K := K) rfl) (pv 0) pe_int (fun _ _ => rfl)) (pa_cons (pe_bltn (v := .ty "tuple") (u := .type "tuple") rfl T.m_tuple (by decide +kernel) rfl) pa_nil)))))))))
  (pss_one ps_never)
  pss_nil)
  (pss_cons (ps_set (i := 1) sc_need_graph.nd rfl (Or.inl rfl) (pe_callB (call_lenK (K := K) rfl) rfl T.m_len PySem.boot_len (pa_cons (pe_ix (ix_tupK (K := K) rfl) (pv 0) pe_int (fun _ _ => rfl)) pa_nil)))
  (pss_one (ps_if (PW.pt (pw_or (pt_not (pt_chain op_le op_le pe_int (pv 1) (pe_glob (v := .int 60) rfl T.c_MOST_GRAPH ⟨_, rfl⟩))) (pw_or (pt_not (pt_val (pe_call G_is_edges hr rfl T.g_is_edges T.F_is_edges.kp T.b_is_edges .nil pass0 (pa_cons (pv 1) (pa_cons (pe_ix (ix_tupK (K := K) rfl) (pv 0) pe_int (fun _ _ => rfl)) pa_nil))))) (pw_or1 (pt_not (pt_val (pe_call G_is_edges hr rfl T.g_is_edges T.F_is_edges.kp T.b_is_edges .nil pass0 (pa_cons (pv 1) (pa_cons (pe_ix (ix_tupK (K := K) rfl) (pv 0) pe_int (fun _ _ => rfl)) pa_nil)))))))))
  (pss_one ps_never)
  pss_nil)))), ?_⟩
  obtain ⟨a, l, r, rfl, hS, hl, hrr⟩ := gr_at hD
  obtain ⟨b, xs, rfl, hSl, hll, hAl⟩ := rows_at hl
  refine ⟨_, rfl, _, _, _, _, rfl, TyN.tup hS, kit_tuple_tuple, _, rfl, iteF ?_⟩
  refine ⟨_, rfl, a, _, rfl, .inr hS, rfl, _, rfl, iteF ?_⟩
  refine ⟨_, rfl, a, _, 0, _, rfl, rfl, hS, rfl, _, _, _, _, rfl, TyN.tup hSl, kit_tuple_tuple, _, rfl, iteF ?_⟩
  dsimp only [tNext]
  -- many = len(value[0])
  refine ⟨_, rfl, a, _, 0, _, rfl, rfl, hS, rfl, b, _, rfl, .inr hSl, ?_⟩
  rw [hll]
  dsimp only [gName]
  refine ⟨_, rfl, _, _, rfl, rfl, _, rfl, ?_⟩
  rw [decide_eq_true (by omega)]
  refine iteT ⟨_, _, rfl, rfl, _, rfl, ?_⟩
  rw [decide_eq_true (by omega)]
  refine iteF ?_
  refine ⟨_, rfl, _, rfl, a, _, 0, _, rfl, rfl, hS, rfl, _, L, L.length, rfl, hl, rfl, hL, h60, fun H1 s1 => ?_⟩
  refine ⟨_, rfl, iteF ?_⟩
  refine ⟨_, rfl, _, rfl, a, _, 1, _, rfl, rfl, sqT s1 hS, rfl, _, R, L.length, rfl, dp_keep (.same s1) _ _ (pT_rows R) hrr, hlr.symm, hRr, h60, fun H2 s2 => ?_⟩
  exact ⟨_, rfl, iteF (q H2 (s1.trans s2))⟩
/-! ### a drawn graph -/
def spGraph (K : PySem.W.Frag) : Sp := fun vs H Q _ => ∃ (r a : Addr) (ns : List Int) (m : Nat), vs = [.ref r, N m] ∧ RowA K a ns H r ∧ (1 ≤ m ∧ m ≤ 8) ∧
  ∀ (v : V) (L R : List (List Nat)) (H' : Hp), Dp K H' v (grD L R) → GrOk L R → L.length ≤ m → RowA K a ns H' r → Off r H H' → Q v H'
theorem ok_graph {k : Nat} (T : Txt K mg) (G_law_taken : FnOk P w K mg base CX0 k T.a_law_taken T.d_law_taken ["_law_row", "_law_many"] (spTk K)) : FnOk P w K mg base CX0 (k + 1) T.a_law_graph T.d_law_graph ["_law_row", "_law_most"] (spGraph K) := by
  refine T.F_law_graph.ok sc_law_graph (fun vs H Q E h => ?_) (fun cdv A outer s H vs Q E hr h => ?_)
  · obtain ⟨r, a, ns, m, rfl, _⟩ := h
    rfl
  obtain ⟨r, a, ns, m, rfl, hR, ⟨m1, m8⟩, q⟩ := h
  refine ⟨_, (pss_cons (ps_set (i := 2) sc_law_graph.nd rfl (Or.inr rfl) (pe_op op_add pe_int (pe_call G_law_taken hr rfl T.g_law_taken T.F_law_taken.kp T.b_law_taken .nil pass0 (pa_cons (pv 0) (pa_cons (pv 1) pa_nil)))))
  (pss_cons (ps_set (i := 3) sc_law_graph.nd rfl (Or.inl rfl) (pe_lst pa_nil))
  (pss_cons (ps_for PassesOwn.never rfl (pi_listK (K := K) rfl (pe_lst (pa_cons pe_int (pa_cons pe_int pa_nil)))) (pg_name (i := 4) sc_law_graph.nd rfl (Or.inl rfl))
  (pss_cons (ps_set (i := 5) sc_law_graph.nd rfl (Or.inl rfl) (pe_lst pa_nil))
  (pss_cons (ps_for PassesOwn.never rfl (pi_range1 rfl T.m_range (pa_cons (pv 2) pa_nil)) (pg_name (i := 6) sc_law_graph.nd rfl (Or.inl rfl))
  (pss_cons (ps_setLc (i := 7) (own := [("_law_at", 8)]) rfl sc_law_graph.nd rfl rfl (sw_true rfl rfl rfl (by decide +kernel)) (pi_range1 rfl T.m_range (pa_cons (pe_call G_law_taken hr rfl T.g_law_taken T.F_law_taken.kp T.b_law_taken .nil pass0 (pa_cons (pv 0) (pa_cons pe_int pa_nil))) pa_nil)) (blkOk_by (N := ["_law_row", "_law_most", "_law_many", "_law_sides", "_law_side", "_law_rows", "_law_node", "_law_some", "_law_at"]) (sc := defScope s_law_graph) (by decide +kernel)) (fun _ _ _ _ _ => (pg_name (i := 8) sc_law_graph.nd rfl (Or.inl rfl))) (fun _ _ _ _ _ => pts_nil) (fun _ _ _ _ _ => (pe_call G_law_taken hr rfl T.g_law_taken T.F_law_taken.kp T.b_law_taken .nil pass0 (pa_cons (pv 0) (pa_cons (pv 2) pa_nil)))))
  (pss_one (ps_expr (pe_bmK (K := K) rfl PySem.F.plainAttrs_list PySem.F.slot_list_append PySem.F.type_list_append mt_append (pv 5) (pa_cons (pe_callTy (call_tuple_ofK (K := K) rfl) rfl T.m_tuple (by decide +kernel) (pa_cons (pe_callB (cr_sortedSetK (w := w) rfl rfl) rfl T.m_sorted (by decide +kernel) (pa_cons (pe_callTy (cr_setIK (K := K) (w := w) rfl rfl rfl) rfl T.m_set (by decide +kernel) (pa_cons (pv 7) pa_nil)) pa_nil)) pa_nil)) pa_nil))))))
  (pss_one (ps_expr (pe_bmK (K := K) rfl PySem.F.plainAttrs_list PySem.F.slot_list_append PySem.F.type_list_append mt_append (pv 3) (pa_cons (pe_callTy (call_tuple_ofK (K := K) rfl) rfl T.m_tuple (by decide +kernel) (pa_cons (pv 5) pa_nil)) pa_nil)))))))
  (pss_one (ps_ret (pe_tup (pa_cons (pe_ix (ix_listK (K := K) rfl) (pv 3) pe_int (fun _ _ => rfl)) (pa_cons (pe_ix (ix_listK (K := K) rfl) (pv 3) pe_int (fun _ _ => rfl)) pa_nil)))))))), ?_⟩
  refine ⟨_, rfl, _, rfl, r, a, ns, _, rfl, hR, ⟨by omega, by omega⟩, fun d H1 d0 d1 hR1 ho1 => ⟨_, _, rfl, rfl, ?_⟩⟩
  obtain ⟨n, hn⟩ : ∃ n : Nat, 1 + d = (n : Int) := ⟨(1 + d).toNat, by omega⟩
  have n1 : 1 ≤ n := by omega
  have nm : n ≤ m := by omega
  dsimp only [gName]
  rw [hn]
  have o1 : Off r H H1 := .eq ho1
  -- sides = []
  refine ⟨by show 0 ≤ sizeLine; decide, fun D1 hD1 => ?_⟩
  have hrD1 : r ≠ D1 := by
    obtain ⟨xs, hx⟩ := hR1.there
    exact ne_of_none hx hD1
  have sD1 := hR1.safe hD1
  have hR2 := hR1.upd (o := .lst []) hrD1 sD1
  have o2 : Off r H (upd H1 D1 (.lst [])) := o1.trans (.of (same_new hD1 _))
  have hE2 : upd H1 D1 (.lst []) D1 = some (.lst []) := upd_same
  generalize upd H1 D1 (.lst []) = H2 at hR2 o2 hE2
  -- for side in [0, 1]
  refine ⟨by show 2 ≤ sizeLine; decide, fun L0 hL0 => ⟨L0, rfl, ⟨_, SqL.of upd_same⟩, ?_⟩⟩
  have hDL : D1 ≠ L0 := ne_of_none hE2 hL0
  have hrL : r ≠ L0 := by
    obtain ⟨xs, hx⟩ := hR2.there
    exact ne_of_none hx hL0
  refine for_list (K := K) (a := L0) (xs := [V.int 0, V.int 1]) (fun i σ' H' => ∃ (x4 x5 x6 x7 : Option V) (ss : List V) (rss : List (List (List Nat))), σ' = [some (.ref r), some (N m), some (N n), some (.ref D1), x4, x5, x6, x7, none] ∧
    H' D1 = some (.lst ss) ∧ rss.length = i ∧ DpAll K H' ss (rss.map rowsD) ∧ (∀ rs ∈ rss, rs.length = n ∧ ∀ row ∈ rs, OkRow n row) ∧ H' L0 = some (.lst [V.int 0, V.int 1]) ∧ RowA K a ns H' r ∧ Off r H H') ?_ ?_ ?_ ?_
  · refine ⟨none, none, none, none, [], [], rfl, ?_, rfl, .nil, fun rs h => (List.not_mem_nil h).elim, upd_same, hR2.more (same_new hL0 _), o2.trans (.of (same_new hL0 _))⟩
    rw [upd_ne hDL]
    exact hE2
  · rintro i σ' H' _ ⟨x4, x5, x6, x7, ss, rss, rfl, _, _, _, _, h, _⟩
    exact SqL.of h
  · rintro i x σ' H' hx ⟨x4, x5, x6, x7, ss, rss, rfl, hS1, hl1, hA1, hok1, hL1, hR3, o3⟩
    dsimp only [gName]
    -- rows = []
    refine ⟨by show 0 ≤ sizeLine; decide, fun D2 hD2 => ?_⟩
    have h21 : D1 ≠ D2 := ne_of_none hS1 hD2
    have h2L : L0 ≠ D2 := ne_of_none hL1 hD2
    have hrD2 : r ≠ D2 := by
      obtain ⟨xs, hx⟩ := hR3.there
      exact ne_of_none hx hD2
    have sD2 := hR3.safe hD2
    have kA := KpT.new (o := .lst []) hD2
    -- for node in range(many)
    refine ⟨_, rfl, _, rfl, by omega, by omega, ?_⟩
    refine for_range (lo := 0) (n := n) (fun j σ'' H'' => ∃ (x6 x7 : Option V) (rs : List V) (rows : List (List Nat)), σ'' = [some (.ref r), some (N m), some (N n), some (.ref D1), some x, some (.ref D2), x6, x7, none] ∧
      H'' D2 = some (.lst rs) ∧ rows.length = j ∧ DpAll K H'' rs (rows.map rowD) ∧ (∀ row ∈ rows, OkRow n row) ∧ H'' D1 = some (.lst ss) ∧ DpAll K H'' ss (rss.map rowsD) ∧ H'' L0 = some (.lst [V.int 0, V.int 1]) ∧ RowA K a ns H'' r ∧ Off r H H'') ?_ ?_ ?_
    · refine ⟨_, _, [], [], rfl, upd_same, rfl, .nil, fun row h => (List.not_mem_nil h).elim, ?_, ?_, ?_, hR3.upd hrD2 sD2, o3.trans (.of (same_new hD2 _))⟩
      · rw [upd_ne h21]
        exact hS1
      · exact dps_keep kA _ _ (pTs_all _ fun d hd => by
          obtain ⟨z, _, rfl⟩ := List.mem_map.mp hd
          exact pT_rows z) hA1
      · rw [upd_ne h2L]
        exact hL1
    · rintro j σ'' H'' hj ⟨y6, y7, rs, rows, rfl, hE, hlr, hAr, hokr, hS2, hA2, hL2, hR4, o4⟩
      dsimp only [gName]
      -- some = [..]
      refine ⟨_, rfl, r, a, ns, 3, rfl, hR4, ⟨by decide, by decide⟩, fun c H3 c0 c1 hR5 ho5 => ⟨c, rfl, by omega, by omega, fun D3 hD3 => ?_⟩⟩
      have hrD3 : r ≠ D3 := by
        obtain ⟨xs, hx⟩ := hR5.there
        exact ne_of_none hx hD3
      have sD3 := hR5.safe hD3
      have o5 : Off r H'' H3 := .eq ho5
      refine lc_range (lo := 0) (n := c.toNat) (fun i H4 => ∃ acc : List Int, acc.length = i ∧ (∀ z ∈ acc, 0 ≤ z ∧ z < (n : Int)) ∧ H4 D3 = some (.lst (acc.map V.int)) ∧ RowA K a ns H4 r ∧ Off r H'' H4) ?_ ?_ ?_
      · refine ⟨[], rfl, fun z h => (List.not_mem_nil h).elim, upd_same, hR5.upd hrD3 sD3, o5.trans (.of (same_new hD3 _))⟩
      · rintro i H4 hi ⟨acc, hac, hz, hD4, hR6, o6⟩
        refine ⟨rfl, ?_⟩
        dsimp only [tYes]
        rw [if_pos rfl]
        refine ⟨_, rfl, _, rfl, r, a, ns, _, rfl, hR6, ⟨by omega, by omega⟩, fun e H5 e0 e1 hR7 ho7 => ?_⟩
        have hD5 : H5 D3 = some (.lst (acc.map V.int)) := by rw [ho7 D3 (Ne.symm hrD3)]; exact hD4
        refine ⟨acc.map V.int, hD5, ?_, acc ++ [e], ?_, ?_, ?_, hR7.upd hrD3 sD3, ?_⟩
        · rw [List.length_map]
          exact Nat.lt_of_le_of_lt (by omega : acc.length ≤ 10) (by decide)
        · rw [List.length_append, hac]
          rfl
        · intro z hz'
          rcases List.mem_append.mp hz' with h | h
          · exact hz z h
          · rw [List.mem_singleton] at h
            omega
        · rw [upd_same, List.map_append]
          rfl
        · intro b u hb e
          have hbD : b ≠ D3 := fun c => by
            have : H3 b = some u := o5 b u hb e
            rw [c, hD3] at this
            cases this
          rw [upd_ne hbD, ho7 b hb]
          exact o6 b u hb e
      · rintro H4 ⟨acc, hac, hz, hD4, hR6, o6⟩
        -- rows.append(tuple(sorted(set(some))))
        dsimp only [gName]
        have hE4 : H4 D2 = some (.lst rs) := o6 D2 _ (Ne.symm hrD2) hE
        refine ⟨_, rfl, .inl ⟨rfl, _, SqL.of hE4⟩, _, rfl, D3, acc, rfl, SqL.of hD4, by omega, fun p1 cnt hp1 hcnt => ?_⟩
        refine ⟨p1, _, cnt, rfl, upd_same, by omega, fun zs p2 hzs hmem hzl hp2 => ⟨p2, _, rfl, .inl ⟨SqL.of upd_same, fun p3 hp3 => ?_⟩⟩⟩
        obtain ⟨ds, eds, hpd, hdl, hdm⟩ := nat_list (ns := zs) (fun x hx => by
          have := (hmem x).mp hx
          exact (hz x (of_decide_eq_true this)).1) hzs
        have s1 := same_new hp1 (SetO w p1 (fun j => decide (j ∈ acc)) cnt)
        have s2 := same_new hp2 (.lst (zs.map V.int))
        have s3 := same_new hp3 (.tup (zs.map V.int))
        have s13 := (s1.trans s2).trans s3
        generalize hH5 : upd (upd (upd H4 p1 (SetO w p1 (fun j => decide (j ∈ acc)) cnt)) p2 (.lst (zs.map V.int))) p3 (.tup (zs.map V.int)) = H5 at s13
        have hp5 : H5 p3 = some (.tup (ds.map N)) := by rw [← hH5, upd_same, eds]
        have hE5 : H5 D2 = some (.lst rs) := s13 _ _ hE4
        have k45 : KpT H'' H5 := by
          obtain ⟨xs, hx⟩ := hR4.there
          exact (KpT.off hx o6).trans (.same s13)
        have k56 : KpT H5 (upd H5 D2 (.lst (rs ++ [.ref p3]))) := .upd hE5
        have okd : OkRow n ds := by
          refine ⟨hpd, fun d hd => ?_, by omega⟩
          have := hz _ (of_decide_eq_true ((hmem _).mp ((hdm d).mp hd)))
          omega
        refine ⟨D2, _, _, rfl, rfl, hE5, ?_, ?_⟩
        · have := dps_len hAr
          rw [List.length_map] at this
          exact Nat.lt_of_le_of_lt (by omega : rs.length ≤ 10) (by decide)
        refine ⟨_, _, rs ++ [.ref p3], rows ++ [ds], rfl, upd_same, ?_, ?_, ?_, ?_, ?_, ?_, (hR6.more s13).upd hrD2 sD2, ?_⟩
        · rw [List.length_append, hlr]
          rfl
        · rw [List.map_append]
          refine dps_snoc (dps_keep (k45.trans k56) _ _ (pTs_all _ fun d hd => by
            obtain ⟨z, _, rfl⟩ := List.mem_map.mp hd
            exact pT_row z) hAr) (row_of (k56 K _ _ (SqT.of hp5)))
        · intro row hrow
          rcases List.mem_append.mp hrow with h | h
          · exact hokr row h
          · rw [List.mem_singleton] at h
            rw [h]
            exact okd
        · rw [upd_ne h21]
          exact s13 _ _ (o6 _ _ (Ne.symm hrD1) hS2)
        · exact dps_keep (k45.trans k56) _ _ (pTs_all _ fun d hd => by
            obtain ⟨z, _, rfl⟩ := List.mem_map.mp hd
            exact pT_rows z) hA2
        · rw [upd_ne h2L]
          exact s13 _ _ (o6 _ _ (Ne.symm hrL) hL2)
        · intro b u hb e
          have hbD : b ≠ D2 := fun c => by
            have : H' b = some u := o3 b u hb e
            rw [c, hD2] at this
            cases this
          rw [upd_ne hbD]
          exact s13 _ _ (o6 _ _ hb (o4 b u hb e))
    · rintro σ'' H'' ⟨y6, y7, rs, rows, rfl, hE, hlr, hAr, hokr, hS2, hA2, hL2, hR4, o4⟩
      -- sides.append(tuple(rows))
      refine ⟨_, rfl, .inl ⟨rfl, _, SqL.of hS2⟩, _, rfl, D2, _, rfl, .inl ⟨SqL.of hE, fun p hp => ?_⟩⟩
      have s1 := same_new hp (.tup rs)
      have hp1 : upd H'' p (.tup rs) p = some (.tup rs) := upd_same
      generalize upd H'' p (.tup rs) = H3 at s1 hp1
      have hS3 := s1 _ _ hS2
      have k2 : KpT H3 (upd H3 D1 (.lst (ss ++ [.ref p]))) := .upd hS3
      have hl2 := dps_len hA2
      rw [List.length_map] at hl2
      have hi2 : i < 2 := (List.getElem?_eq_some_iff.mp hx).1
      refine ⟨D1, _, _, rfl, rfl, hS3, Nat.lt_of_le_of_lt (by omega : ss.length ≤ 10) (by decide), _, _, _, _, ss ++ [.ref p], rss ++ [rows], rfl, upd_same, ?_, ?_, ?_, ?_, (hR4.more s1).upd hrD1 sD1, ?_⟩
      · rw [List.length_append, hl1]
        rfl
      · rw [List.map_append]
        refine dps_snoc (dps_keep ((KpT.same s1).trans k2) _ _ (pTs_all _ fun d hd => by
          obtain ⟨z, _, rfl⟩ := List.mem_map.mp hd
          exact pT_rows z) hA2) ?_
        exact .tup (k2 K _ _ (SqT.of hp1)) (dps_keep ((KpT.same s1).trans k2) _ _ (pTs_all _ fun d hd => by
          obtain ⟨z, _, rfl⟩ := List.mem_map.mp hd
          exact pT_row z) hAr)
      · intro rs' h
        rcases List.mem_append.mp h with h | h
        · exact hok1 rs' h
        · rw [List.mem_singleton] at h
          rw [h]
          exact ⟨hlr, hokr⟩
      · rw [upd_ne (Ne.symm hDL)]
        exact s1 _ _ hL2
      · intro b u hb e
        have hbD : b ≠ D1 := fun c => by
          have : H1 b = some u := o1 b u hb e
          rw [c, hD1] at this
          cases this
        rw [upd_ne hbD]
        exact s1 _ _ (o4 b u hb e)
  · rintro σ' H' ⟨x4, x5, x6, x7, ss, rss, rfl, hS1, hl1, hA1, hok1, hL1, hR3, o3⟩
    match rss, ss, hl1, hA1 with
    | [L, R], [l, r'], _, .cons h1 (.cons h2 .nil) =>
      refine ⟨_, rfl, D1, _, 0, l, rfl, rfl, SqL.of hS1, rfl, _, rfl, D1, _, 1, r', rfl, rfl, SqL.of hS1, rfl, by show 2 ≤ sizeLine; decide, fun p hp => ?_⟩
      have s1 := same_new hp (.tup [l, r'])
      obtain ⟨hL, hLo⟩ := hok1 L (by simp)
      obtain ⟨hRl, hRo⟩ := hok1 R (by simp)
      refine q _ L R _ (gr_of (SqT.of upd_same) (dp_keep (.same s1) _ _ (pT_rows L) h1) (dp_keep (.same s1) _ _ (pT_rows R) h2)) ⟨by omega, by omega, by omega, by rw [hL]; exact hLo, by rw [hL]; exact hRo⟩ (by omega) (hR3.more s1) (o3.trans (.of s1))
end
end K83


set_option Elab.async false
set_option linter.all false
set_option maxRecDepth 100000
set_option maxHeartbeats 4000000
namespace K83
open PySem L2 TG GM
section
variable {P : Program} {w : World} {K : PySem.W.Frag} {mg : Str → Option Value} {base : Heap}
theorem at_N {ds : List Nat} {i : Nat} (h : i < ds.length) : atI (ds.map N) ((i : Nat) : Int) = some (N (im ds i)) := by
  refine atI_nat ?_
  rw [List.getElem?_map, List.getElem?_eq_getElem h]
  unfold im
  rw [List.getD_eq_getElem?_getD, List.getElem?_eq_getElem h]
  rfl
theorem at_row {H : Hp} {xs : List V} {S : List (List Nat)} (h : DpAll K H xs (S.map rowD)) {i : Nat} (hi : i < S.length) : ∃ b, atI xs ((i : Nat) : Int) = some (.ref b) ∧ SqT K H b ((row S i).map N) := by
  obtain ⟨b, hb, hT⟩ := rows_get h (List.getElem?_eq_getElem hi)
  refine ⟨b, atI_nat hb, ?_⟩
  unfold row
  rw [List.getD_eq_getElem?_getD, List.getElem?_eq_getElem hi]
  exact hT
theorem in_N (x : Nat) (ds : List Nat) : inV (N x) (ds.map N) = decide (x ∈ ds) := by
  have e : ds.map N = (ds.map fun n : Nat => (n : Int)).map V.int := by
    rw [List.map_map]
    rfl
  rw [e, int_in]
  by_cases c : x ∈ ds
  · rw [decide_eq_true c, decide_eq_true]
    exact List.mem_map.mpr ⟨x, c, rfl⟩
  · rw [decide_eq_false c, decide_eq_false]
    intro h
    obtain ⟨y, hy, e⟩ := List.mem_map.mp h
    have : y = x := by omega
    exact c (this ▸ hy)
theorem flat_N (ds : List Nat) : (ds.map N).all flatV = true := by
  have e : ds.map N = (ds.map fun n : Nat => (n : Int)).map V.int := by
    rw [List.map_map]
    rfl
  rw [e]
  exact ints_flat _
theorem bl_ne (p q : Prop) [Decidable p] [Decidable q] : (!decide (V.bl (decide p) = V.bl (decide q))) = decide (¬ (p ↔ q)) := by
  by_cases hp : p <;> by_cases hq : q <;> simp [hp, hq]
theorem iteT' {c : Bool} {A B : Prop} (hc : c = true) (h : A) : if c = true then A else B := by rw [if_pos hc]; exact h
theorem iteF' {c : Bool} {A B : Prop} (hc : c = false) (h : B) : if c = true then A else B := by rw [if_neg (by rw [hc]; decide)]; exact h
/-! ### fits -/
def spFits (K : PySem.W.Frag) : Sp := fun vs H Q _ => ∃ (v v' : V) (p : Addr) (L R L' R' : List (List Nat)) (l : List Nat) (n : Nat), vs = [v, v', .ref p] ∧ Dp K H v (grD L R) ∧ Dp K H v' (grD L' R') ∧ SqL K H p (l.map N) ∧
  (L.length = n ∧ R.length = n ∧ L'.length = n ∧ R'.length = n) ∧ (1 ≤ l.length ∧ l.length ≤ n ∧ n ≤ 60) ∧ (∀ x ∈ l, x < n) ∧ ∀ (b : Bool) H', (b = true ↔ Fit L R L' R' l) → Same H H' → Q (.bl b) H'
theorem ok_fits {k : Nat} (T : Txt K mg) : FnOk P w K mg base CX0 (k + 1) T.a_fits T.d_fits ["one", "other", "images"] (spFits K) := by
  refine T.F_fits.ok sc_fits (fun vs H Q E h => ?_) (fun cdv A outer s H vs Q E hr h => ?_)
  · obtain ⟨v, v', p, L, R, L', R', l, n, rfl, _⟩ := h
    rfl
  obtain ⟨v, v', p, L, R, L', R', l, n, rfl, h1, h2, hl, ⟨n1, n2, n3, n4⟩, ⟨l1, ln, n60⟩, hx, q⟩ := h
  refine ⟨_, (pss_cons (ps_set (i := 3) sc_fits.nd rfl (Or.inl rfl) (pe_op op_sub (pe_callB (call_lenK (K := K) rfl) rfl T.m_len PySem.boot_len (pa_cons (pv 2) pa_nil)) pe_int))
  (pss_cons (ps_for PassesOwn.never rfl (pi_zipAK (K := K) rfl rfl T.m_zip (pa_cons (pv 0) (pa_cons (pv 1) pa_nil))) (pg_tupK (K := K) (n := 2) rfl rfl (pgs_cons (pg_name (i := 4) sc_fits.nd rfl (Or.inl rfl)) (pgs_cons (pg_name (i := 5) sc_fits.nd rfl (Or.inl rfl)) pgs_nil)))
  (pss_cons (ps_if (pt_cmpR op_ne (pe_callB (call_lenK (K := K) rfl) rfl T.m_len PySem.boot_len (pa_cons (pe_ix (ix_tupK (K := K) rfl) (pv 4) (pv 3) (fun _ _ => rfl)) pa_nil)) (pe_callB (call_lenK (K := K) rfl) rfl T.m_len PySem.boot_len (pa_cons (pe_ix (ix_tupK (K := K) rfl) (pv 5) (pe_ix (ix_listK (K := K) rfl) (pv 2) (pv 3) (fun _ _ => rfl)) (fun _ _ => rfl)) pa_nil)) (nomark _))
  (pss_one (ps_ret pe_bl))
  pss_nil)
  (pss_one (ps_for PassesOwn.never rfl (pi_range1 rfl T.m_range (pa_cons (pe_op op_add (pv 3) pe_int) pa_nil)) (pg_name (i := 6) sc_fits.nd rfl (Or.inl rfl))
  (pss_cons (ps_if (pt_cmpR op_ne (pe_cmpR (op_in_seqK (K := K) rfl) (pv 6) (pe_ix (ix_tupK (K := K) rfl) (pv 4) (pv 3) (fun _ _ => rfl)) (by rfl)) (pe_cmpR (op_in_seqK (K := K) rfl) (pe_ix (ix_listK (K := K) rfl) (pv 2) (pv 6) (fun _ _ => rfl)) (pe_ix (ix_tupK (K := K) rfl) (pv 5) (pe_ix (ix_listK (K := K) rfl) (pv 2) (pv 3) (fun _ _ => rfl)) (fun _ _ => rfl)) (by rfl)) (nomark _))
  (pss_one (ps_ret pe_bl))
  pss_nil)
  (pss_one (ps_if (pt_cmpR op_ne (pe_cmpR (op_in_seqK (K := K) rfl) (pv 3) (pe_ix (ix_tupK (K := K) rfl) (pv 4) (pv 6) (fun _ _ => rfl)) (by rfl)) (pe_cmpR (op_in_seqK (K := K) rfl) (pe_ix (ix_listK (K := K) rfl) (pv 2) (pv 3) (fun _ _ => rfl)) (pe_ix (ix_tupK (K := K) rfl) (pv 5) (pe_ix (ix_listK (K := K) rfl) (pv 2) (pv 6) (fun _ _ => rfl)) (fun _ _ => rfl)) (by rfl)) (nomark _))
  (pss_one (ps_ret pe_bl))
  pss_nil)))))))
  (pss_one (ps_ret pe_bl)))), ?_⟩
  obtain ⟨a, x1, x2, rfl, hS1, hL, hR⟩ := gr_at h1
  obtain ⟨b, y1, y2, rfl, hS2, hL', hR'⟩ := gr_at h2
  -- node = len(images) - 1
  refine ⟨_, rfl, p, _, rfl, .inl hl, _, _, rfl, rfl, ?_⟩
  dsimp only [gName]
  have hnode : (((l.map N).length : Nat) : Int) - 1 = ((l.length - 1 : Nat) : Int) := by rw [List.length_map]; omega
  rw [hnode]
  -- for first, second in zip(one, other)
  refine ⟨_, rfl, _, rfl, a, b, _, _, rfl, .inr ⟨hS1, hS2, ?_⟩⟩
  have sides : ∀ (i : Nat) (x y : V), [x1, x2][i]? = some x → [y1, y2][i]? = some y → i < 2 ∧ ∃ F S : List (List Nat), Dp K H x (rowsD F) ∧ Dp K H y (rowsD S) ∧ F.length = n ∧ S.length = n ∧ (Fit L R L' R' l → Fit1 F S l) ∧ (i = 0 → F = L ∧ S = L') ∧ (i = 1 → F = R ∧ S = R') := by
    intro i x y hx hy
    match i, hx, hy with
    | 0, hx, hy =>
      cases hx; cases hy
      exact ⟨by decide, L, L', hL, hL', n1, n3, fun h => h.1, fun _ => ⟨rfl, rfl⟩, fun h => absurd h (by decide)⟩
    | 1, hx, hy =>
      cases hx; cases hy
      exact ⟨by decide, R, R', hR, hR', n2, n4, fun h => h.2, fun h => absurd h (by decide), fun _ => ⟨rfl, rfl⟩⟩
  refine RZ.for_zipT (xs := [x1, x2]) (ys := [y1, y2]) rfl (fun i σ' H' => ∃ z4 z5 z6, σ' = [some (.ref a), some (.ref b), some (.ref p), some (N (l.length - 1)), z4, z5, z6] ∧ Same H H' ∧ (1 ≤ i → Fit1 L L' l) ∧ (2 ≤ i → Fit1 R R' l)) ?_ ?_ ?_ ?_
  · exact ⟨none, none, none, rfl, fun _ _ e => e, fun h => by omega, fun h => by omega⟩
  · rintro i σ' H' ⟨z4, z5, z6, rfl, s, _⟩
    exact ⟨sqT s hS1, sqT s hS2⟩
  · rintro i x y T0 σ' H' hx0 hy0 ⟨z4, z5, z6, rfl, s, f1, f2⟩ hT0
    obtain ⟨hi2, F, S, hF, hSd, lF, lS, hfit, c0, c1⟩ := sides i x y hx0 hy0
    refine ⟨T0, _, rfl, SqT.of upd_same, rfl, _, _, rfl, _, _, rfl, rfl, ?_⟩
    have s1 := s.trans (same_new hT0 (.tup [x, y]))
    generalize upd H' T0 (.tup [x, y]) = H1 at s1
    obtain ⟨aF, xF, rfl, hSF, _, hAF⟩ := rows_at (dp_keep (.same s1) _ _ (pT_rows F) hF)
    obtain ⟨aS, xS, rfl, hSS, _, hAS⟩ := rows_at (dp_keep (.same s1) _ _ (pT_rows S) hSd)
    have hl1 := sqL s1 hl
    have hnd : l.length - 1 < l.length := by omega
    have himn : im l (l.length - 1) < n := by
      unfold im
      rw [List.getD_eq_getElem?_getD, List.getElem?_eq_getElem hnd]
      exact hx _ (List.getElem_mem hnd)
    obtain ⟨bF, atF, hTF⟩ := at_row hAF (i := l.length - 1) (by omega)
    obtain ⟨bS, atS, hTS⟩ := at_row hAS (i := im l (l.length - 1)) (by omega)
    refine ⟨_, rfl, _, rfl, aF, _, _, _, rfl, rfl, hSF, atF, bF, _, rfl, .inr hTF, _, rfl, _, rfl, _, rfl, p, _, _, _, rfl, rfl, hl1, at_N hnd, aS, _, _, _, rfl, rfl, hSS, atS, bS, _, rfl, .inr hTS, rfl, _, rfl, ?_⟩
    rw [List.length_map, List.length_map]
    by_cases cl : (row F (l.length - 1)).length = (row S (im l (l.length - 1))).length
    · rw [cl]
      refine iteF' (by simp) ?_
      dsimp only [tNext]
      -- for told in range(node + 1)
      refine ⟨_, rfl, _, _, rfl, rfl, _, rfl, by omega, by omega, ?_⟩
      have en : (((l.length - 1 : Nat) : Int) + 1).toNat = l.length := by omega
      rw [en]
      refine for_range (lo := 0) (n := l.length) (fun t σ'' H'' => ∃ z6, σ'' = [some (.ref a), some (.ref b), some (.ref p), some (N (l.length - 1)), some (.ref aF), some (.ref aS), z6] ∧ H'' = H1 ∧
        ∀ u, u < t → ((u ∈ row F (l.length - 1)) ↔ im l u ∈ row S (im l (l.length - 1))) ∧ ((l.length - 1 ∈ row F u) ↔ im l (l.length - 1) ∈ row S (im l u))) ?_ ?_ ?_
      · exact ⟨_, rfl, rfl, fun u h => by omega⟩
      · rintro t σ'' H'' ht ⟨z6, rfl, rfl, hu⟩
        rw [Int.zero_add]
        have himt : im l t < n := by
          unfold im
          rw [List.getD_eq_getElem?_getD, List.getElem?_eq_getElem ht]
          exact hx _ (List.getElem_mem ht)
        obtain ⟨bF2, atF2, hTF2⟩ := at_row hAF (i := t) (by omega)
        obtain ⟨bS2, atS2, hTS2⟩ := at_row hAS (i := im l t) (by omega)
        refine ⟨_, rfl, _, rfl, _, rfl, aF, _, _, _, rfl, rfl, hSF, atF, bF, _, rfl, .inr hTF, rfl, flat_N _, _, rfl, _, rfl, p, _, _, _, rfl, rfl, hl1, at_N ht, _, rfl, _, rfl, _, rfl, p, _, _, _, rfl, rfl, hl1, at_N hnd, aS, _, _, _, rfl, rfl, hSS, atS, bS, _, rfl, .inr hTS, rfl, flat_N _, rfl, _, rfl, ?_⟩
        rw [if_neg (by decide : ¬ false = true), if_neg (by decide : ¬ false = true), in_N, in_N, bl_ne]
        by_cases k1 : (t ∈ row F (l.length - 1)) ↔ im l t ∈ row S (im l (l.length - 1))
        · refine iteF' (by simpa using k1) ?_
          dsimp only [tNext]
          refine ⟨_, rfl, _, rfl, _, rfl, aF, _, _, _, rfl, rfl, hSF, atF2, bF2, _, rfl, .inr hTF2, rfl, flat_N _, _, rfl, _, rfl, p, _, _, _, rfl, rfl, hl1, at_N hnd, _, rfl, _, rfl, _, rfl, p, _, _, _, rfl, rfl, hl1, at_N ht, aS, _, _, _, rfl, rfl, hSS, atS2, bS2, _, rfl, .inr hTS2, rfl, flat_N _, rfl, _, rfl, ?_⟩
          rw [if_neg (by decide : ¬ false = true), if_neg (by decide : ¬ false = true), in_N, in_N, bl_ne]
          by_cases k2 : (l.length - 1 ∈ row F t) ↔ im l (l.length - 1) ∈ row S (im l t)
          · refine iteF' (by simpa using k2) ?_
            refine ⟨_, rfl, rfl, fun u hu2 => ?_⟩
            by_cases e : u = t
            · subst e
              exact ⟨k1, k2⟩
            · exact hu u (by omega)
          · refine iteT' (by simpa using k2) ?_
            refine q false _ ⟨fun h => (by cases h), fun h => absurd ((hfit h).2 t (by omega)).2 k2⟩ s1
        · refine iteT' (by simpa using k1) ?_
          refine q false _ ⟨fun h => (by cases h), fun h => absurd ((hfit h).2 t (by omega)).1 k1⟩ s1
      · rintro σ'' H'' ⟨z6, rfl, rfl, hu⟩
        have hF1 : Fit1 F S l := ⟨cl, fun t ht => hu t (by omega)⟩
        refine ⟨_, _, _, rfl, s1, fun h => ?_, fun h => ?_⟩
        · by_cases e : i = 0
          · obtain ⟨rfl, rfl⟩ := c0 e
            exact hF1
          · exact f1 (by omega)
        · by_cases e : i = 1
          · obtain ⟨rfl, rfl⟩ := c1 e
            exact hF1
          · omega
    · refine iteT' (by simp; omega) ?_
      refine q false _ ⟨fun h => (by cases h), fun h => absurd (hfit h).1 cl⟩ s1
  · rintro σ' H' ⟨z4, z5, z6, rfl, s, f1, f2⟩
    exact q true H' ⟨fun _ => ⟨f1 (by show 1 ≤ 2; decide), f2 (by show 2 ≤ 2; decide)⟩, fun _ => rfl⟩ s
/-! ### extended -/
def spExt (K : PySem.W.Frag) (d : Nat) : Sp := fun vs H Q _ => ∃ (v v' : V) (p : Addr) (L R L' R' : List (List Nat)) (l : List Nat) (n : Nat), vs = [v, v', .ref p] ∧ Dp K H v (grD L R) ∧ Dp K H v' (grD L' R') ∧ SqL K H p (l.map N) ∧
  (L.length = n ∧ R.length = n ∧ L'.length = n ∧ R'.length = n) ∧ (1 ≤ l.length ∧ l.length ≤ n ∧ n ≤ 60) ∧ Inj n l ∧ n ≤ l.length + d ∧
  (∀ (f : Addr) (full : List Nat) H', Good L R L' R' n l full → Same H H' → SqT K H' f (full.map N) → Q (.ref f) H') ∧ ∀ H', (∀ full, ¬ Good L R L' R' n l full) → Same H H' → Q .non H'
theorem ok_ext_step {k : Nat} (T : Txt K mg) (d : Nat) (spE : Sp) (hE : ∀ d', d = d' + 1 → spE = spExt K d') (G_fits : FnOk P w K mg base CX0 k T.a_fits T.d_fits ["one", "other", "images"] (spFits K)) (G_extended : FnOk P w K mg base CX0 k T.a_extended T.d_extended ["one", "other", "images"] spE) :
    FnOk P w K mg base CX0 (k + 1) T.a_extended T.d_extended ["one", "other", "images"] (spExt K d) := by
  refine T.F_extended.ok sc_extended (fun vs H Q E h => ?_) (fun cdv A outer s H vs Q E hr h => ?_)
  · obtain ⟨v, v', p, L, R, L', R', l, n, rfl, _⟩ := h
    rfl
  obtain ⟨v, v', p, L, R, L', R', l, n, rfl, h1, h2, hl, ⟨n1, n2, n3, n4⟩, ⟨l1, ln, n60⟩, hinj, hd, q1, q2⟩ := h
  refine ⟨_, (pss_cons (ps_set (i := 3) sc_extended.nd rfl (Or.inl rfl) (pe_callB (call_lenK (K := K) rfl) rfl T.m_len PySem.boot_len (pa_cons (pe_ix (ix_tupK (K := K) rfl) (pv 0) pe_int (fun _ _ => rfl)) pa_nil)))
  (pss_cons (ps_if (pt_cmpR op_eq (pe_callB (call_lenK (K := K) rfl) rfl T.m_len PySem.boot_len (pa_cons (pv 2) pa_nil)) (pv 3) (nomark _))
  (pss_one (ps_ret (pe_callTy (call_tuple_ofK (K := K) rfl) rfl T.m_tuple (by decide +kernel) (pa_cons (pv 2) pa_nil))))
  pss_nil)
  (pss_cons (ps_for PassesOwn.never rfl (pi_range1 rfl T.m_range (pa_cons (pv 3) pa_nil)) (pg_name (i := 4) sc_extended.nd rfl (Or.inl rfl))
  (pss_one (ps_if (PW.pt (pw_and (pt_cmpR (op_notIn_seqK (K := K) rfl) (pv 4) (pv 2) (by rfl)) (pw_and1 (pt_val (pe_call G_fits hr rfl T.g_fits T.F_fits.kp T.b_fits .nil pass0 (pa_cons (pv 0) (pa_cons (pv 1) (pa_cons (pe_lst (pa_starK (K := K) rfl (pv 2) (pa_cons (pv 4) pa_nil))) pa_nil))))))))
  (pss_cons (ps_set (i := 5) sc_extended.nd rfl (Or.inl rfl) (pe_call G_extended hr rfl T.g_extended T.F_extended.kp T.b_extended .nil pass0 (pa_cons (pv 0) (pa_cons (pv 1) (pa_cons (pe_lst (pa_starK (K := K) rfl (pv 2) (pa_cons (pv 4) pa_nil))) pa_nil)))))
  (pss_one (ps_if (pt_cmpR op_notN (pv 5) pe_non (nomark _))
  (pss_one (ps_ret (pv 5)))
  pss_nil)))
  pss_nil)))
  (pss_one (ps_ret pe_non))))), ?_⟩
  obtain ⟨a, x1, x2, rfl, hS1, hL, hR⟩ := gr_at h1
  obtain ⟨b, y1, y2, rfl, hS2, hL', hR'⟩ := gr_at h2
  obtain ⟨aL, xL, rfl, hSL, hlL, hAL⟩ := rows_at hL
  -- many = len(one[0])
  refine ⟨_, rfl, a, _, 0, _, rfl, rfl, hS1, rfl, aL, _, rfl, .inr hSL, ?_⟩
  dsimp only [gName]
  rw [hlL, n1]
  refine ⟨_, rfl, p, _, rfl, .inl hl, _, rfl, rfl, _, rfl, ?_⟩
  rw [List.length_map]
  by_cases c : l.length = n
  · rw [c]
    refine iteT' (by simp) ?_
    refine ⟨_, rfl, p, _, rfl, .inl ⟨hl, fun t ht => ?_⟩⟩
    exact q1 t l _ (good_full c hinj) (same_new ht _) (SqT.of upd_same)
  refine iteF' (by simp; omega) ?_
  dsimp only [tNext]
  obtain ⟨d', hd'⟩ : ∃ d', d = d' + 1 := ⟨d - 1, by omega⟩
  have hsp := hE d' hd'
  subst hsp
  -- for goal in range(many)
  refine ⟨_, rfl, _, rfl, by omega, by omega, ?_⟩
  refine for_range (lo := 0) (n := n) (fun g σ' H' => ∃ z4 z5, σ' = [some (.ref a), some (.ref b), some (.ref p), some (N n), z4, z5] ∧ Same H H' ∧ ∀ x, x < g → ∀ full, Fit L R L' R' (l ++ [x]) → ¬ Good L R L' R' n (l ++ [x]) full ∨ x ∈ l) ?_ ?_ ?_
  · exact ⟨none, none, rfl, fun _ _ e => e, fun x h => by omega⟩
  · rintro g σ' H' hg ⟨z4, z5, rfl, s, hno⟩
    rw [Int.zero_add]
    dsimp only [gName]
    have hl' := sqL s hl
    refine ⟨_, rfl, _, rfl, p, _, rfl, .inl hl', rfl, flat_N _, _, rfl, ?_⟩
    rw [if_pos rfl, in_N]
    by_cases cg : g ∈ l
    · refine iteF' (by simpa using cg) ⟨_, _, rfl, s, fun x hx full hf => ?_⟩
      by_cases e : x = g
      · subst e
        exact .inr cg
      · exact hno x (by omega) full hf
    refine iteT' (by simpa using cg) ?_
    have emap : l.map N ++ [N g] = (l ++ [g]).map N := by simp
    -- fits(one, other, [*images, goal])
    refine ⟨_, rfl, _, rfl, _, rfl, p, _, rfl, .inr hl', _, rfl, ?_, fun t ht => ?_⟩
    · rw [emap, List.length_map, List.length_append]
      exact Nat.le_trans (by simp; omega : l.length + [g].length ≤ 100) (by decide)
    have st := s.trans (same_new ht (.lst (l.map N ++ [N g])))
    have ht1 : upd H' t (.lst (l.map N ++ [N g])) t = some (.lst ((l ++ [g]).map N)) := by rw [upd_same, emap]
    generalize upd H' t (.lst (l.map N ++ [N g])) = H1 at st ht1
    have hlen1 : (l ++ [g]).length = l.length + 1 := by simp
    have hinj1 : Inj n (l ++ [g]) := by
      refine ⟨List.nodup_append.mpr ⟨hinj.1, by simp, fun x hx y hy => ?_⟩, fun x hx => ?_⟩
      · rw [List.mem_singleton] at hy
        intro e
        exact cg (by rw [← hy, ← e]; exact hx)
      · rcases List.mem_append.mp hx with h | h
        · exact hinj.2 x h
        · rw [List.mem_singleton] at h
          omega
    refine ⟨_, _, t, L, R, L', R', l ++ [g], n, rfl, dp_keep (.same st) _ _ (pT_gr L R) h1, dp_keep (.same st) _ _ (pT_gr L' R') h2, SqL.of ht1, ⟨n1, n2, n3, n4⟩, ⟨by omega, by omega, n60⟩, hinj1.2, fun bb H2 hb s2 => ?_⟩
    refine ⟨_, rfl, ?_⟩
    have s02 := st.trans s2
    cases bb with
    | false =>
      refine iteF ⟨_, _, rfl, s02, fun x hx full hf => ?_⟩
      by_cases e : x = g
      · subst e
        exact absurd (hb.mpr hf) (by decide)
      · exact hno x (by omega) full hf
    | true =>
      have hfit := hb.mp rfl
      refine iteT ?_
      -- found = extended(one, other, [*images, goal])
      refine ⟨_, rfl, _, rfl, _, rfl, p, _, rfl, .inr (sqL s02 hl), _, rfl, ?_, fun t2 ht2 => ?_⟩
      · rw [emap, List.length_map, List.length_append]
        exact Nat.le_trans (by simp; omega : l.length + [g].length ≤ 100) (by decide)
      have st2 := s02.trans (same_new ht2 (.lst (l.map N ++ [N g])))
      have ht3 : upd H2 t2 (.lst (l.map N ++ [N g])) t2 = some (.lst ((l ++ [g]).map N)) := by rw [upd_same, emap]
      generalize upd H2 t2 (.lst (l.map N ++ [N g])) = H3 at st2 ht3
      refine ⟨_, _, t2, L, R, L', R', l ++ [g], n, rfl, dp_keep (.same st2) _ _ (pT_gr L R) h1, dp_keep (.same st2) _ _ (pT_gr L' R') h2, SqL.of ht3, ⟨n1, n2, n3, n4⟩, ⟨by omega, by omega, n60⟩, hinj1, by omega, fun f full H4 hgood s4 hf4 => ?_, fun H4 hnone s4 => ?_⟩
      · dsimp only [gName]
        refine ⟨_, rfl, rfl, _, rfl, iteT ⟨_, rfl, ?_⟩⟩
        exact q1 f full H4 (hgood.back hfit) (st2.trans s4) hf4
      · dsimp only [gName]
        refine ⟨_, rfl, rfl, _, rfl, iteF ⟨_, _, rfl, st2.trans s4, fun x hx full hf => ?_⟩⟩
        by_cases e : x = g
        · subst e
          exact .inl (hnone full)
        · exact hno x (by omega) full hf
  · rintro σ' H' ⟨z4, z5, rfl, s, hno⟩
    refine q2 H' (fun full hg => ?_) s
    obtain ⟨x, hx, hxl, hf, hg'⟩ := hg.step (by omega)
    rcases hno x hx full hf with h | h
    · exact h hg'
    · exact hxl h
theorem ok_extended {k : Nat} (T : Txt K mg) (G_fits : FnOk P w K mg base CX0 k T.a_fits T.d_fits ["one", "other", "images"] (spFits K)) : ∀ d : Nat, FnOk P w K mg base CX0 (k + 1 + d) T.a_extended T.d_extended ["one", "other", "images"] (spExt K d)
  | 0 => ok_ext_step T 0 (fun _ _ _ _ => False) (fun d' h => by omega) G_fits ⟨fun _ _ _ _ h => h.elim, fun _ _ _ _ _ _ _ _ _ _ _ _ _ h => h.elim⟩
  | d + 1 => ok_ext_step T (d + 1) (spExt K d) (fun d' h => by rw [Nat.succ.inj h]) (G_fits.mono (by show k ≤ k + 1 + d; omega)) (ok_extended T G_fits d)
/-! ### graph_map -/
def spMap (K : PySem.W.Frag) : Sp := fun vs H Q _ => ∃ (v v' : V) (L R L' R' : List (List Nat)), vs = [v, v'] ∧ Dp K H v (grD L R) ∧ Dp K H v' (grD L' R') ∧ GrOk L R ∧ GrOk L' R' ∧
  (∀ (f : Addr) (full : List Nat) H', L.length = L'.length → Fit L R L' R' [0] → Good L R L' R' L.length [0] full → Same H H' → SqT K H' f (full.map N) → Q (.ref f) H') ∧
  ∀ H', (L.length ≠ L'.length ∨ ∀ full, Fit L R L' R' [0] → ¬ Good L R L' R' L.length [0] full) → Same H H' → Q .non H'
theorem ok_graph_map {k : Nat} (T : Txt K mg) (G_need_graph : FnOk P w K mg base CX0 k T.a_need_graph T.d_need_graph ["value"] (spNeedG K)) (G_fits : FnOk P w K mg base CX0 k T.a_fits T.d_fits ["one", "other", "images"] (spFits K)) (G_extended : FnOk P w K mg base CX0 k T.a_extended T.d_extended ["one", "other", "images"] (spExt K 60)) :
    FnOk P w K mg base CX0 (k + 1) T.a_graph_map T.d_graph_map ["one", "other"] (spMap K) := by
  refine T.F_graph_map.ok sc_graph_map (fun vs H Q E h => ?_) (fun cdv A outer s H vs Q E hr h => ?_)
  · obtain ⟨v, v', L, R, L', R', rfl, _⟩ := h
    rfl
  obtain ⟨v, v', L, R, L', R', rfl, h1, h2, g1, g2, q1, q2⟩ := h
  refine ⟨_, (pss_cons (ps_expr (pe_call G_need_graph hr rfl T.g_need_graph T.F_need_graph.kp T.b_need_graph .nil pass0 (pa_cons (pv 0) pa_nil)))
  (pss_cons (ps_expr (pe_call G_need_graph hr rfl T.g_need_graph T.F_need_graph.kp T.b_need_graph .nil pass0 (pa_cons (pv 1) pa_nil)))
  (pss_cons (ps_if (PW.pt (pw_or (pt_cmpR op_ne (pe_callB (call_lenK (K := K) rfl) rfl T.m_len PySem.boot_len (pa_cons (pe_ix (ix_tupK (K := K) rfl) (pv 0) pe_int (fun _ _ => rfl)) pa_nil)) (pe_callB (call_lenK (K := K) rfl) rfl T.m_len PySem.boot_len (pa_cons (pe_ix (ix_tupK (K := K) rfl) (pv 1) pe_int (fun _ _ => rfl)) pa_nil)) (nomark _)) (pw_or1 (pt_not (pt_val (pe_call G_fits hr rfl T.g_fits T.F_fits.kp T.b_fits .nil pass0 (pa_cons (pv 0) (pa_cons (pv 1) (pa_cons (pe_lst (pa_cons pe_int pa_nil)) pa_nil)))))))))
  (pss_one (ps_ret pe_non))
  pss_nil)
  (pss_one (ps_ret (pe_call G_extended hr rfl T.g_extended T.F_extended.kp T.b_extended .nil pass0 (pa_cons (pv 0) (pa_cons (pv 1) (pa_cons (pe_lst (pa_cons pe_int pa_nil)) pa_nil))))))))), ?_⟩
  refine ⟨_, rfl, _, L, R, rfl, h1, g1, fun H1 s1 => ?_⟩
  refine ⟨_, rfl, _, L', R', rfl, dp_keep (.same s1) _ _ (pT_gr L' R') h2, g2, fun H2 s2 => ?_⟩
  have s12 := s1.trans s2
  have h1' := dp_keep (.same s12) _ _ (pT_gr L R) h1
  have h2' := dp_keep (.same s12) _ _ (pT_gr L' R') h2
  obtain ⟨a, x1, x2, rfl, hS1, hL, hR⟩ := gr_at h1'
  obtain ⟨b, y1, y2, rfl, hS2, hL', hR'⟩ := gr_at h2'
  obtain ⟨aL, xL, rfl, hSL, hlL, hAL⟩ := rows_at hL
  obtain ⟨bL, yL, rfl, hSL', hlL', hAL'⟩ := rows_at hL'
  obtain ⟨e1, n1, n60, _, _⟩ := g1
  obtain ⟨e2, _, _, _, _⟩ := g2
  refine ⟨_, rfl, a, _, 0, _, rfl, rfl, hS1, rfl, aL, _, rfl, .inr hSL, _, rfl, b, _, 0, _, rfl, rfl, hS2, rfl, bL, _, rfl, .inr hSL', rfl, _, rfl, ?_⟩
  rw [hlL, hlL']
  by_cases c : L.length = L'.length
  · rw [c]
    refine iteF' (by simp) ?_
    refine ⟨_, rfl, _, rfl, by show 1 ≤ sizeLine; decide, fun t ht => ?_⟩
    have s3 := same_new ht (.lst [V.int 0])
    have ht1 : upd H2 t (.lst [V.int 0]) t = some (.lst ([0].map N)) := upd_same
    generalize upd H2 t (.lst [V.int 0]) = H3 at s3 ht1
    refine ⟨_, _, t, L, R, L', R', [0], L.length, rfl, dp_keep (.same s3) _ _ (pT_gr L R) h1', dp_keep (.same s3) _ _ (pT_gr L' R') h2', SqL.of ht1, ⟨rfl, e1.symm, c.symm, by omega⟩, ⟨by simp, by simpa using n1, n60⟩, fun x hx => by rw [List.mem_singleton] at hx; omega, fun bb H4 hb s4 => ?_⟩
    have s34 := s3.trans s4
    refine ⟨_, rfl, ?_⟩
    cases bb with
    | false =>
      refine iteT ?_
      exact q2 H4 (.inr fun full hf => absurd (hb.mpr hf) (by decide)) (s12.trans s34)
    | true =>
      refine iteF ?_
      dsimp only [tNext]
      refine ⟨_, rfl, _, rfl, by show 1 ≤ sizeLine; decide, fun t2 ht2 => ?_⟩
      have s5 := s34.trans (same_new ht2 (.lst [V.int 0]))
      have ht3 : upd H4 t2 (.lst [V.int 0]) t2 = some (.lst ([0].map N)) := upd_same
      generalize upd H4 t2 (.lst [V.int 0]) = H5 at s5 ht3
      refine ⟨_, _, t2, L, R, L', R', [0], L.length, rfl, dp_keep (.same s5) _ _ (pT_gr L R) h1', dp_keep (.same s5) _ _ (pT_gr L' R') h2', SqL.of ht3, ⟨rfl, e1.symm, c.symm, by omega⟩, ⟨by simp, by simpa using n1, n60⟩, ⟨by simp, fun x hx => by rw [List.mem_singleton] at hx; omega⟩, by omega, fun f full H6 hg s6 hf => ?_, fun H6 hn s6 => ?_⟩
      · exact q1 f full H6 c (hb.mp rfl) hg (s12.trans (s5.trans s6)) hf
      · exact q2 H6 (.inr fun full _ => hn full) (s12.trans (s5.trans s6))
  · refine iteT' (by simp; omega) ?_
    exact q2 H2 (.inl c) s12
end
end K83


set_option Elab.async false
set_option linter.all false
set_option maxRecDepth 100000
set_option maxHeartbeats 4000000
namespace K83
open PySem L2 TG GM
section
variable {P : Program} {w : World} {K : PySem.W.Frag} {mg : Str → Option Value} {base : Heap}
def spMoved (K : PySem.W.Frag) : Sp := fun vs H Q _ => ∃ (v : V) (p : Addr) (L R : List (List Nat)) (l : List Nat) (n : Nat), vs = [v, .ref p] ∧ Dp K H v (grD L R) ∧ SqT K H p (l.map N) ∧ (L.length = n ∧ R.length = n ∧ l.length = n ∧ 1 ≤ n ∧ n ≤ 60) ∧ Inj n l ∧ (∀ r ∈ L, OkRow n r) ∧ (∀ r ∈ R, OkRow n r) ∧
  ∀ (v' : V) (A B : List (List Nat)) H', MovedOf l n L A → MovedOf l n R B → Dp K H' v' (grD A B) → Same H H' → Q v' H'
theorem ok_moved {k : Nat} (T : Txt K mg) : FnOk P w K mg base CX0 (k + 1) T.a_law_moved T.d_law_moved ["_law_graph_here", "_law_names"] (spMoved K) := by
  refine T.F_law_moved.ok sc_law_moved (fun vs H Q E h => ?_) (fun cdv A outer s H vs Q E hr h => ?_)
  · obtain ⟨v, p, L, R, l, n, rfl, _⟩ := h
    rfl
  obtain ⟨v, p, L, R, l, n, rfl, h1, hp, ⟨lL, lR, ll, n1, n60⟩, hinj, okL, okR, q⟩ := h
  refine ⟨_, (pss_cons (ps_set (i := 2) sc_law_moved.nd rfl (Or.inl rfl) (pe_lst pa_nil))
  (pss_cons (ps_for PassesOwn.never rfl (pi_tupK (K := K) rfl (pv 0)) (pg_name (i := 3) sc_law_moved.nd rfl (Or.inl rfl))
  (pss_cons (ps_set (i := 4) sc_law_moved.nd rfl (Or.inl rfl) (pe_op op_rep (pe_lst (pa_cons (pe_tup pa_nil) pa_nil)) (pe_callB (call_lenK (K := K) rfl) rfl T.m_len PySem.boot_len (pa_cons (pv 1) pa_nil))))
  (pss_cons (ps_for PassesOwn.never rfl (pi_range1 rfl T.m_range (pa_cons (pe_callB (call_lenK (K := K) rfl) rfl T.m_len PySem.boot_len (pa_cons (pv 1) pa_nil)) pa_nil)) (pg_name (i := 5) sc_law_moved.nd rfl (Or.inl rfl))
  (pss_one (ps_asg (pe_callTy (call_tuple_ofK (K := K) rfl) rfl T.m_tuple (by decide +kernel) (pa_cons (pe_callB (cr_sortedIK (K := K) rfl) rfl T.m_sorted (by decide +kernel) (pa_cons (pe_lc (own := [("_law_goal", 6)]) rfl sc_law_moved.nd (pi_tupK (K := K) rfl (pe_ix (ix_tupK (K := K) rfl) (pv 3) (pv 5) (fun _ _ => rfl))) (blkOk_by (N := ["_law_graph_here", "_law_names", "_law_sides", "_law_side", "_law_rows", "_law_node", "_law_goal"]) (sc := defScope s_law_moved) (by decide +kernel)) (fun _ _ _ _ _ => (pg_name (i := 6) sc_law_moved.nd rfl (Or.inl rfl))) (fun _ _ _ _ _ => pts_nil) (fun _ _ _ _ _ => (pe_ix (ix_tupK (K := K) rfl) (pv 1) (pv 6) (fun _ _ => rfl)))) pa_nil)) pa_nil)) (pg_sub (pv 4) (pe_ix (ix_tupK (K := K) rfl) (pv 1) (pv 5) (fun _ _ => rfl)) set_list))))
  (pss_one (ps_expr (pe_bmK (K := K) rfl PySem.F.plainAttrs_list PySem.F.slot_list_append PySem.F.type_list_append mt_append (pv 2) (pa_cons (pe_callTy (call_tuple_ofK (K := K) rfl) rfl T.m_tuple (by decide +kernel) (pa_cons (pv 4) pa_nil)) pa_nil)))))))
  (pss_one (ps_ret (pe_tup (pa_cons (pe_ix (ix_listK (K := K) rfl) (pv 2) pe_int (fun _ _ => rfl)) (pa_cons (pe_ix (ix_listK (K := K) rfl) (pv 2) pe_int (fun _ _ => rfl)) pa_nil))))))), ?_⟩
  obtain ⟨a, x1, x2, rfl, hS1, hL, hR⟩ := gr_at h1
  -- sides = []
  refine ⟨by show 0 ≤ sizeLine; decide, fun D1 hD1 => ?_⟩
  have s1 := same_new hD1 (.lst [])
  dsimp only [gName]
  -- for side in graph
  refine ⟨_, rfl, a, rfl, ⟨_, sqT s1 hS1⟩, ?_⟩
  have sides : ∀ (i : Nat) (x : V), [x1, x2][i]? = some x → i < 2 ∧ ∃ F : List (List Nat), Dp K H x (rowsD F) ∧ F.length = n ∧ (∀ r ∈ F, OkRow n r) ∧ (i = 0 → F = L) ∧ (i = 1 → F = R) := by
    intro i x hx
    match i, hx with
    | 0, hx =>
      cases hx
      exact ⟨by decide, L, hL, lL, okL, fun _ => rfl, fun h => absurd h (by decide)⟩
    | 1, hx =>
      cases hx
      exact ⟨by decide, R, hR, lR, okR, fun h => absurd h (by decide), fun _ => rfl⟩
  refine for_tup (xs := [x1, x2]) (fun i σ' H' => ∃ (z3 z4 z5 : Option V) (ss : List V) (As : List (List (List Nat))), σ' = [some (.ref a), some (.ref p), some (.ref D1), z3, z4, z5, none] ∧ H' D1 = some (.lst ss) ∧ DpAll K H' ss (As.map rowsD) ∧ As.length = i ∧ Same H H' ∧ (∀ A, As[0]? = some A → MovedOf l n L A) ∧ ∀ A, As[1]? = some A → MovedOf l n R A) ?_ ?_ ?_ ?_
  · exact ⟨none, none, none, [], [], rfl, upd_same, .nil, rfl, s1, fun A h => (by cases h), fun A h => (by cases h)⟩
  · rintro i σ' H' _ ⟨z3, z4, z5, ss, As, rfl, _, _, _, sm, _⟩
    exact sqT sm hS1
  · rintro i x σ' H' hx ⟨z3, z4, z5, ss, As, rfl, hE1, hA1, hAl, sm, m0, m1⟩
    obtain ⟨hi2, F, hF, lF, okF, c0, c1⟩ := sides i x hx
    dsimp only [gName]
    -- rows = [()] * len(names)
    refine ⟨by show 0 ≤ sizeLine; decide, fun e he => ⟨by show 1 ≤ sizeLine; decide, fun D0 hD0 => ?_⟩⟩
    have se := same_new he (.tup [])
    have hE0 : upd H' e (.tup []) e = some (.tup []) := upd_same
    generalize upd H' e (.tup []) = H1 at se hE0 hD0
    have sd := se.trans (same_new hD0 (.lst [V.ref e]))
    have hE0' := (same_new hD0 (.lst [V.ref e])) _ _ hE0
    have hDD : upd H1 D0 (.lst [V.ref e]) D0 = some (.lst [V.ref e]) := upd_same
    generalize upd H1 D0 (.lst [V.ref e]) = H2 at sd hE0' hDD
    have sm2 := sm.trans sd
    refine ⟨_, rfl, p, _, rfl, .inr (sqT sm2 hp), ?_⟩
    rw [List.length_map, ll]
    refine ⟨D0, _, _, rfl, rfl, hDD, by omega, by omega, ?_, fun D2 hD2 => ?_⟩
    · show 1 * ((n : Nat) : Int).toNat ≤ sizeLine
      exact Nat.le_trans (by omega : 1 * ((n : Nat) : Int).toNat ≤ 60) (by decide)
    have erep : (List.replicate ((n : Nat) : Int).toNat [V.ref e]).flatten = List.replicate n (V.ref e) := by
      rw [Int.toNat_natCast]
      generalize n = m
      induction m with
      | zero => rfl
      | succ m ih => rw [List.replicate_succ, List.flatten_cons, ih]; rfl
    rw [erep]
    have s3 := sm2.trans (same_new hD2 (.lst (List.replicate n (V.ref e))))
    have s23 := sd.trans (same_new hD2 (.lst (List.replicate n (V.ref e))))
    have hE3 : upd H2 D2 (.lst (List.replicate n (V.ref e))) D2 = some (.lst (List.replicate n (V.ref e))) := upd_same
    have he3 := (same_new hD2 (.lst (List.replicate n (V.ref e)))) _ _ hE0'
    generalize upd H2 D2 (.lst (List.replicate n (V.ref e))) = H3 at s3 s23 hE3 he3
    have hD2' : H' D2 = none := by
      cases hq : H' D2 with
      | none => rfl
      | some u => rw [sd _ _ hq] at hD2; cases hD2
    have hD2H : H D2 = none := by
      cases hq : H D2 with
      | none => rfl
      | some u => rw [sm _ _ hq] at hD2'; cases hD2'
    have h12 : D1 ≠ D2 := ne_of_none hE1 hD2'
    dsimp only [gName]
    -- for node in range(len(names))
    refine ⟨_, rfl, p, _, rfl, .inr (sqT s3 hp), _, rfl, ?_⟩
    rw [List.length_map, ll]
    refine ⟨by omega, by omega, ?_⟩
    refine for_range (lo := 0) (n := n) (fun j σ'' H'' => ∃ (z5 : Option V) (rs : List V) (A : List (List Nat)), σ'' = [some (.ref a), some (.ref p), some (.ref D1), some x, some (.ref D2), z5, none] ∧ H'' D2 = some (.lst rs) ∧ DpAll K H'' rs (A.map rowD) ∧ A.length = n ∧
      (∀ b, b < j → (row A (im l b)).Pairwise (· ≤ ·) ∧ (row A (im l b)).Perm ((row F b).map (im l))) ∧ Off D2 H3 H'') ?_ ?_ ?_
    · refine ⟨_, List.replicate n (V.ref e), List.replicate n [], rfl, hE3, ?_, by simp, fun b h => by omega, Off.refl⟩
      rw [List.map_replicate]
      exact dps_rep (row_of (ds := []) (SqT.of he3)) n
    · rintro j σ'' H'' hj ⟨z5', rs, A, rfl, hE4, hA4, hlA, hdone, o4⟩
      rw [Int.zero_add]
      dsimp only [gName]
      have k34 : KpT H3 H'' := .off hE3 o4
      have kH : KpT H H'' := (KpT.same s3).trans k34
      obtain ⟨aF, xF, rfl, hSF, hlF, hAF⟩ := rows_at (dp_keep kH _ _ (pT_rows F) hF)
      obtain ⟨bF, atF, hTF⟩ := at_row hAF (i := j) (by omega)
      have okj := row_ok okF j
      refine go_asg (go_cb (go_cons (go_cb (go_cons ?_))))
      refine el_lcT (K := K) (a := bF) (xs := (row F j).map N) (fun _ => true) (fun i => N (im l (im (row F j) i))) ?_ hTF ?_ ?_ ?_ ?_ H'' (Evl.Ex.refl H'') _ ?_
      · intro H5 e5 Q5 q5
        exact ⟨_, rfl, _, rfl, aF, _, _, _, rfl, rfl, sqT e5 hSF, atF, q5 H5 (Evl.Ex.refl H5)⟩
      · rw [List.length_map]
        have := okj.2.2
        omega
      · intro x
        rfl
      · intro i x H5 e5 hx H6 e6 Q6 q6
        exact q6 H6 (Evl.Ex.refl H6)
      · intro i x H5 e5 hx _ H6 e6 Q6 q6
        rw [List.getElem?_map] at hx
        cases hd : (row F j)[i]? with
        | none => rw [hd] at hx; cases hx
        | some d =>
          rw [hd] at hx
          obtain rfl := Option.some.inj hx
          have hdn := okj.2.1 d (List.mem_of_getElem? hd)
          have ed : im (row F j) i = d := by
            unfold im
            rw [List.getD_eq_getElem?_getD, hd]
            rfl
          refine ⟨_, rfl, _, rfl, p, _, _, _, rfl, rfl, sqT e6 (sqT e5 (kH K _ _ hp)), at_N (by omega), ?_⟩
          rw [ed] at q6
          exact q6 H6 (Evl.Ex.refl H6)
      · intro D5 H5 hD5 e5 h5
        have hg : Evl.given ((row F j).map N).length (fun _ => true) (fun i => N (im l (im (row F j) i))) = (((row F j).map (im l)).map fun m : Nat => (m : Int)).map V.int := by
          rw [given_all, List.length_map, List.map_map, List.map_map]
          refine List.ext_getElem (by simp) fun i h1 h2 => ?_
          simp only [List.length_map, List.length_range] at h1
          simp [im_get h1]
        rw [hg] at h5
        refine ⟨D5, _, rfl, SqL.of h5, fun ms D6 hperm hsort hD6 => ⟨D6, _, rfl, .inl ⟨SqL.of upd_same, fun t ht => ?_⟩⟩⟩
        have ems : ms.map V.int = (ms.map Int.toNat).map N := by
          rw [List.map_map]
          refine List.map_congr_left fun z hz => ?_
          obtain ⟨y, _, rfl⟩ := List.mem_map.mp (hperm.mem_iff.mp hz)
          rfl
        have hp2 : (ms.map Int.toNat).Perm ((row F j).map (im l)) := by
          have := hperm.map Int.toNat
          rw [List.map_map] at this
          have e : ((row F j).map (im l)).map (Int.toNat ∘ fun m : Nat => (m : Int)) = (row F j).map (im l) := by
            conv => rhs; rw [← List.map_id ((row F j).map (im l))]
            exact List.map_congr_left fun z _ => rfl
          rw [e] at this
          exact this
        have hs2 : (ms.map Int.toNat).Pairwise (· ≤ ·) := by
          rw [List.pairwise_map]
          exact hsort.imp fun {x y} h => by omega
        generalize ms.map Int.toNat = ds at ems hp2 hs2
        have s6 := (e5.trans (same_new hD6 (.lst (ms.map V.int)))).trans (same_new ht (.tup (ms.map V.int)))
        have ht6 : upd (upd H5 D6 (.lst (ms.map V.int))) t (.tup (ms.map V.int)) t = some (.tup (ds.map N)) := by rw [upd_same, ems]
        generalize upd (upd H5 D6 (.lst (ms.map V.int))) t (.tup (ms.map V.int)) = H6 at s6 ht6
        have hE6 := s6 _ _ hE4
        have himj : im l j < n := by
          rw [im_get (by omega)]
          exact hinj.2 _ (List.getElem_mem _)
        have hrl : rs.length = n := by
          have := dps_len hA4
          rw [List.length_map] at this
          omega
        have k6 : KpT H'' H6 := .same s6
        have k7 : KpT H6 (upd H6 D2 (.lst (rs.set (im l j) (.ref t)))) := .upd hE6
        refine ⟨_, rfl, _, rfl, _, rfl, p, _, _, _, rfl, rfl, sqT s6 (kH K _ _ hp), at_N (by omega), D2, rs, _, im l j, rfl, rfl, hE6, ?_, ?_⟩
        · rw [hrl]
          exact Evl.ixN_nat himj
        refine ⟨_, rs.set (im l j) (.ref t), A.set (im l j) ds, rfl, upd_same, ?_, by rw [List.length_set]; exact hlA, fun b hb => ?_, ?_⟩
        · rw [List.map_set]
          exact dps_set _ (dps_keep (k6.trans k7) _ _ (pTs_all _ fun d hd => by
            obtain ⟨z, _, rfl⟩ := List.mem_map.mp hd
            exact pT_row z) hA4) (row_of (k7 K _ _ (SqT.of ht6)))
        · by_cases ebj : b = j
          · subst ebj
            have : row (A.set (im l b) ds) (im l b) = ds := by
              rw [row_get (by rw [List.length_set]; omega), List.getElem_set_self]
            rw [this]
            exact ⟨hs2, hp2⟩
          · have hne : im l j ≠ im l b := fun h => ebj (im_inj hinj (by omega) (by omega) h).symm
            have : row (A.set (im l j) ds) (im l b) = row A (im l b) := by
              unfold row
              rw [List.getD_eq_getElem?_getD, List.getD_eq_getElem?_getD, List.getElem?_set_ne hne]
            rw [this]
            exact hdone b (by omega)
        · intro b u hb hu
          rw [upd_ne hb]
          exact s6 _ _ (o4 b u hb hu)
    · rintro σ'' H'' ⟨z5', rs, A, rfl, hE4, hA4, hlA, hdone, o4⟩
      -- sides.append(tuple(rows))
      have hS4 : H'' D1 = some (.lst ss) := o4 _ _ h12 (s23 _ _ hE1)
      refine ⟨_, rfl, .inl ⟨rfl, _, SqL.of hS4⟩, _, rfl, D2, _, rfl, .inl ⟨SqL.of hE4, fun t ht => ?_⟩⟩
      have s5 := same_new ht (.tup rs)
      have ht5 : upd H'' t (.tup rs) t = some (.tup rs) := upd_same
      generalize upd H'' t (.tup rs) = H5 at s5 ht5
      have hS5 := s5 _ _ hS4
      have k5 : KpT H'' (upd H5 D1 (.lst (ss ++ [.ref t]))) := (KpT.same s5).trans (.upd hS5)
      have k1 : KpT H5 (upd H5 D1 (.lst (ss ++ [.ref t]))) := .upd hS5
      have k04 : KpT H' H'' := (KpT.same s23).trans (.off hE3 o4)
      have hsl := dps_len hA1
      rw [List.length_map] at hsl
      have hmv : MovedOf l n F A := ⟨hlA, hdone⟩
      refine ⟨D1, _, _, rfl, rfl, hS5, Nat.lt_of_le_of_lt (by omega : ss.length ≤ 10) (by decide), _, _, _, ss ++ [.ref t], As ++ [A], rfl, upd_same, ?_, ?_, ?_, ?_, ?_⟩
      · rw [List.map_append]
        refine dps_snoc (dps_keep (k04.trans k5) _ _ (pTs_all _ fun d hd => by
          obtain ⟨z, _, rfl⟩ := List.mem_map.mp hd
          exact pT_rows z) hA1) (.tup (k1 K _ _ (SqT.of ht5)) (dps_keep k5 _ _ (pTs_all _ fun d hd => by
          obtain ⟨z, _, rfl⟩ := List.mem_map.mp hd
          exact pT_row z) hA4))
      · rw [List.length_append, hAl]
        rfl
      · intro b u hu
        have hb2 : b ≠ D2 := fun c => by rw [c, hD2H] at hu; cases hu
        have hb1 : b ≠ D1 := fun c => by rw [c, hD1] at hu; cases hu
        rw [upd_ne hb1]
        exact s5 _ _ (o4 b u hb2 (s3 _ _ hu))
      · intro A' hA'
        by_cases e0 : i = 0
        · have : As = [] := List.length_eq_zero_iff.mp (by omega)
          rw [this] at hA'
          cases hA'
          rw [← c0 e0]
          exact hmv
        · rw [List.getElem?_append_left (by omega)] at hA'
          exact m0 A' hA'
      · intro A' hA'
        by_cases e1 : i = 1
        · rw [List.getElem?_append_right (by omega), hAl, e1] at hA'
          cases hA'
          rw [← c1 e1]
          exact hmv
        · have : As = [] := List.length_eq_zero_iff.mp (by omega)
          rw [this] at hA'
          cases hA'
  · rintro σ' H' ⟨z3, z4, z5, ss, As, rfl, hE1, hA1, hAl, sm, m0, m1⟩
    match As, ss, hAl, hA1, m0, m1 with
    | [A, B], [l1, r1], _, .cons h1 (.cons h2 .nil), m0, m1 =>
      refine ⟨_, rfl, D1, _, 0, l1, rfl, rfl, SqL.of hE1, rfl, _, rfl, D1, _, 1, r1, rfl, rfl, SqL.of hE1, rfl, by show 2 ≤ sizeLine; decide, fun t ht => ?_⟩
      have s2 := same_new ht (.tup [l1, r1])
      exact q _ A B _ (m0 A rfl) (m1 B rfl) (gr_of (SqT.of upd_same) (dp_keep (.same s2) _ _ (pT_rows A) h1) (dp_keep (.same s2) _ _ (pT_rows B) h2)) (sm.trans s2)
end
end K83


set_option Elab.async false
set_option linter.all false
set_option maxRecDepth 100000
set_option maxHeartbeats 4000000
namespace K83
open PySem L2 TG GM
section
variable {P : Program} {w : World} {K : PySem.W.Frag} {mg : Str → Option Value} {base : Heap}
theorem pT_rowss (rs : List (List Nat)) : pTs (rs.map rowD) = true := pTs_all _ fun d hd => by
  obtain ⟨z, _, rfl⟩ := List.mem_map.mp hd
  exact pT_row z
theorem ord_len : ∀ {m : Nat} {l : List Nat}, l ∈ ord m → l.length = m
  | 0, l, h => by
    rw [List.mem_singleton.mp h]
    rfl
  | m + 1, l, h => by
    obtain ⟨k, hk, hl⟩ := List.mem_flatMap.mp h
    obtain ⟨i, hi, rfl⟩ := List.mem_map.mp hl
    have := ord_len hk
    have hi' := List.mem_range.mp hi
    simp only [List.length_append, List.length_take, List.length_drop, List.length_cons, List.length_nil]
    omega
theorem ord_few {m : Nat} (h : m ≤ 4) : (ord m).length ≤ 24 := by
  match m, h with
  | 0, _ => decide +kernel
  | 1, _ => decide +kernel
  | 2, _ => decide +kernel
  | 3, _ => decide +kernel
  | 4, _ => decide +kernel
def spOrders (K : PySem.W.Frag) : Sp := fun vs H Q _ => ∃ n : Nat, vs = [N n] ∧ (1 ≤ n ∧ n ≤ 5) ∧ ∀ p xs H', H' p = some (.lst xs) → DpAll K H' xs ((orders n).map rowD) → H p = none → Same H H' → Q (.ref p) H'
theorem ok_orders {k : Nat} (T : Txt K mg) : FnOk P w K mg base CX0 (k + 1) T.a_law_orders T.d_law_orders ["_law_many"] (spOrders K) := by
  refine T.F_law_orders.ok sc_law_orders (fun vs H Q E h => ?_) (fun cdv A outer s H vs Q E hr h => ?_)
  · obtain ⟨n, rfl, _⟩ := h
    rfl
  obtain ⟨n, rfl, ⟨n1, n5⟩, q⟩ := h
  refine ⟨_, (pss_cons (ps_set (i := 1) sc_law_orders.nd rfl (Or.inl rfl) (pe_lst (pa_cons (pe_tup pa_nil) pa_nil)))
  (pss_cons (ps_for PassesOwn.never rfl (pi_range2 rfl T.m_range (pa_cons pe_int (pa_cons (pv 0) pa_nil))) (pg_name (i := 2) sc_law_orders.nd rfl (Or.inl rfl))
  (pss_cons (ps_set (i := 3) sc_law_orders.nd rfl (Or.inl rfl) (pe_lst pa_nil))
  (pss_cons (ps_for PassesOwn.never rfl (pi_listK (K := K) rfl (pv 1)) (pg_name (i := 4) sc_law_orders.nd rfl (Or.inl rfl))
  (pss_one (ps_for PassesOwn.never rfl (pi_range1 rfl T.m_range (pa_cons (pe_op op_add (pe_callB (call_lenK (K := K) rfl) rfl T.m_len PySem.boot_len (pa_cons (pv 4) pa_nil)) pe_int) pa_nil)) (pg_name (i := 5) sc_law_orders.nd rfl (Or.inl rfl))
  (pss_one (ps_expr (pe_bmK (K := K) rfl PySem.F.plainAttrs_list PySem.F.slot_list_append PySem.F.type_list_append mt_append (pv 3) (pa_cons (pe_op (op_catAK (K := K) rfl) (pe_op (op_catAK (K := K) rfl) (pe_slice (sl_tupAK (K := K) rfl) (pv 4) po_none (po_some (pv 5))) (pe_tup (pa_cons (pv 2) pa_nil))) (pe_slice (sl_tupAK (K := K) rfl) (pv 4) (po_some (pv 5)) po_none)) pa_nil)))))))
  (pss_one (ps_set (i := 1) sc_law_orders.nd rfl (Or.inl rfl) (pv 3))))))
  (pss_one (ps_ret (pe_lc (own := [("_law_told", 4)]) rfl sc_law_orders.nd (pi_listK (K := K) rfl (pv 1)) (blkOk_by (N := ["_law_many", "_law_found", "_law_node", "_law_longer", "_law_told", "_law_at"]) (sc := defScope s_law_orders) (by decide +kernel)) (fun _ _ _ _ _ => (pg_name (i := 4) sc_law_orders.nd rfl (Or.inl rfl))) (fun _ _ _ _ _ => pts_nil) (fun _ _ _ _ _ => (pe_op (op_catAK (K := K) rfl) (pe_tup (pa_cons pe_int pa_nil)) (pv 4)))))))), ?_⟩
  -- found = [()]
  refine ⟨by show 0 ≤ sizeLine; decide, fun e he => ⟨by show 1 ≤ sizeLine; decide, fun D0 hD0 => ?_⟩⟩
  have se := same_new he (.tup [])
  have hE0 : upd H e (.tup []) e = some (.tup []) := upd_same
  generalize upd H e (.tup []) = H1 at se hE0 hD0
  have hD0H : H D0 = none := by
    cases hq : H D0 with
    | none => rfl
    | some u => rw [se _ _ hq] at hD0; cases hD0
  dsimp only [gName]
  -- for node in range(1, many)
  refine ⟨_, rfl, _, _, rfl, by omega, ?_⟩
  have en : (((n : Nat) : Int) - 1).toNat = n - 1 := by omega
  rw [en]
  refine for_range (lo := 1) (n := n - 1) (fun i σ' H' => ∃ (z2 z3 z4 z5 : Option V) (D : Addr) (xs : List V), σ' = [some (N n), some (.ref D), z2, z3, z4, z5] ∧ H' D = some (.lst xs) ∧ DpAll K H' xs ((ord i).map rowD) ∧ H D = none ∧ Same H H') ?_ ?_ ?_
  · have s2 := same_new hD0 (.lst [V.ref e])
    exact ⟨none, none, none, none, D0, [.ref e], rfl, upd_same, .cons (row_of (ds := []) (SqT.of (s2 _ _ hE0))) .nil, hD0H, se.trans s2⟩
  · rintro i σ' H' hi ⟨z2, z3, z4, z5, D, xs, rfl, hE, hA, hDH, sm⟩
    dsimp only [gName]
    have enode : V.int (1 + (i : Int)) = N (i + 1) := congrArg V.int (by omega)
    rw [enode]
    -- longer = []
    refine ⟨by show 0 ≤ sizeLine; decide, fun D2 hD2 => ?_⟩
    have s2 := same_new hD2 (.lst [])
    have hD2H : H D2 = none := by
      cases hq : H D2 with
      | none => rfl
      | some u => rw [sm _ _ hq] at hD2; cases hD2
    -- for told in found
    refine ⟨_, rfl, D, rfl, ⟨_, SqL.of (s2 _ _ hE)⟩, ?_⟩
    refine for_list (K := K) (a := D) (xs := xs) (fun t σ'' H'' => ∃ (z4 z5 : Option V) (ys : List V), σ'' = [some (N n), some (.ref D), some (N (i + 1)), some (.ref D2), z4, z5] ∧ H'' D2 = some (.lst ys) ∧ DpAll K H'' ys ((((ord i).take t).flatMap (ins (i + 1))).map rowD) ∧ Same H' H'') ?_ ?_ ?_ ?_
    · exact ⟨_, _, [], rfl, upd_same, .nil, s2⟩
    · rintro t σ'' H'' _ ⟨y4, y5, ys, rfl, _, _, s3⟩
      exact SqL.of (s3 _ _ hE)
    · rintro t x σ'' H'' hx ⟨y4, y5, ys, rfl, hE3, hA3, s3⟩
      obtain ⟨d, hd, hdx⟩ := dps_at hA t x hx
      rw [List.getElem?_map] at hd
      obtain ⟨l, hl, rfl⟩ : ∃ l, (ord i)[t]? = some l ∧ rowD l = d := by
        cases hq : (ord i)[t]? with
        | none => rw [hq] at hd; cases hd
        | some l => rw [hq] at hd; exact ⟨l, rfl, Option.some.inj hd⟩
      obtain ⟨b, rfl, hb⟩ := row_at hdx
      have hll := ord_len (List.mem_of_getElem? hl)
      dsimp only [gName]
      -- for at in range(len(told) + 1)
      refine ⟨_, rfl, b, _, rfl, .inr (sqT s3 hb), _, _, rfl, rfl, _, rfl, ?_⟩
      rw [List.length_map]
      refine ⟨by omega, by omega, ?_⟩
      have e2 : (((l.length : Nat) : Int) + 1).toNat = l.length + 1 := by omega
      rw [e2]
      have htk : (ord i).take (t + 1) = (ord i).take t ++ [l] := by
        have hlt := (List.getElem?_eq_some_iff.mp hl).1
        rw [List.take_succ_eq_append_getElem hlt, (List.getElem?_eq_some_iff.mp hl).2]
      refine for_range (lo := 0) (n := l.length + 1) (fun u σ3 H3 => ∃ (z5 : Option V) (ys : List V), σ3 = [some (N n), some (.ref D), some (N (i + 1)), some (.ref D2), some (.ref b), z5] ∧ H3 D2 = some (.lst ys) ∧ DpAll K H3 ys ((((ord i).take t).flatMap (ins (i + 1)) ++ (ins (i + 1) l).take u).map rowD) ∧ Same H' H3) ?_ ?_ ?_
      · refine ⟨_, ys, rfl, hE3, ?_, s3⟩
        rw [List.take_zero, List.append_nil]
        exact hA3
      · rintro u σ3 H3 hu ⟨z5', ys3, rfl, hE4, hA4, s4⟩
        rw [Int.zero_add]
        dsimp only [gName]
        have hb4 := sqT s4 hb
        refine ⟨_, rfl, .inl ⟨rfl, _, SqL.of hE4⟩, ?_⟩
        refine ⟨_, rfl, _, rfl, _, rfl, slA_any hb4 fun p1 H5 s5 h5 => ?_⟩
        refine ⟨_, rfl, by show 1 ≤ sizeLine; decide, fun p2 hp2 => ?_⟩
        have s6 := same_new hp2 (.tup [N (i + 1)])
        have h6 : upd H5 p2 (.tup [N (i + 1)]) p2 = some (.tup [N (i + 1)]) := upd_same
        generalize upd H5 p2 (.tup [N (i + 1)]) = H6 at s6 h6
        rw [cut_take] at h5
        refine catA_any (sqT s6 h5) (SqT.of h6) ?_ fun p3 H7 s7 h7 => ?_
        · rw [List.length_take, List.length_map]
          exact Nat.le_trans (by simp; omega : min u l.length + [N (i + 1)].length ≤ 100) (by decide)
        have s57 := ((s4.trans s5).trans s6).trans s7
        refine ⟨_, rfl, _, rfl, _, rfl, ?_⟩
        dsimp only [tNoPart]
        refine slA_any (sqT s57 hb) fun p4 H8 s8 h8 => ?_
        rw [cut_drop] at h8
        refine catA_any (sqT s8 h7) h8 ?_ fun p5 H9 s9 h9 => ?_
        · rw [List.length_append, List.length_take, List.length_drop, List.length_map]
          exact Nat.le_trans (by simp; omega : min u l.length + [N (i + 1)].length + (l.length - u) ≤ 100) (by decide)
        have s49 := ((((s5.trans s6).trans s7).trans s8).trans s9)
        have hE9 := s49 _ _ hE4
        have hrow : SqT K H9 p5 ((l.take u ++ [i + 1] ++ l.drop u).map N) := by
          have e4 : (l.take u ++ [i + 1] ++ l.drop u).map N = (l.map N).take u ++ [N (i + 1)] ++ (l.map N).drop u := by
            rw [List.map_append, List.map_append, List.map_take, List.map_drop]
            rfl
          rw [e4]
          exact h9
        have k9 : KpT H9 (upd H9 D2 (.lst (ys3 ++ [.ref p5]))) := .upd hE9
        have hins : (ins (i + 1) l).take (u + 1) = (ins (i + 1) l).take u ++ [l.take u ++ [i + 1] ++ l.drop u] := by
          have hlen : u < (ins (i + 1) l).length := by unfold ins; simpa using hu
          rw [List.take_succ_eq_append_getElem hlen]
          congr 2
          unfold ins
          simp
        have hyl := dps_len hA4
        have hfew : ys3.length ≤ 200 := by
          rw [hyl, List.length_map]
          have f1 := ord_few (m := i + 1) (by omega)
          have f2 : (ord (i + 1)).length = (((ord i).take t).flatMap (ins (i + 1)) ++ ins (i + 1) l).length + (((ord i).drop (t + 1)).flatMap (ins (i + 1))).length := by
            show ((ord i).flatMap (ins (i + 1))).length = _
            conv => lhs; rw [← List.take_append_drop (t + 1) (ord i)]
            rw [List.flatMap_append, List.length_append, htk, List.flatMap_append]
            simp
          rw [List.length_append] at f2 ⊢
          have f3 : ((ins (i + 1) l).take u).length ≤ (ins (i + 1) l).length := by rw [List.length_take]; omega
          omega
        refine ⟨D2, _, _, rfl, rfl, hE9, Nat.lt_of_le_of_lt hfew (by decide), _, ys3 ++ [.ref p5], rfl, upd_same, ?_, ?_⟩
        · rw [hins, ← List.append_assoc, List.map_append]
          exact dps_snoc (dps_keep ((KpT.same s49).trans k9) _ _ (pT_rowss _) hA4) (row_of (k9 K _ _ hrow))
        · intro b' u' hu'
          have hb2 : b' ≠ D2 := fun c => by rw [c, hD2] at hu'; cases hu'
          rw [upd_ne hb2]
          exact s49 _ _ (s4 _ _ hu')
      · rintro σ3 H3 ⟨z5', ys3, rfl, hE4, hA4, s4⟩
        refine ⟨_, _, ys3, rfl, hE4, ?_, s4⟩
        rw [htk, List.flatMap_append]
        have e3 : (ins (i + 1) l).take (l.length + 1) = ins (i + 1) l := List.take_of_length_le (by unfold ins; simp)
        rw [e3] at hA4
        simpa using hA4
    · rintro σ'' H'' ⟨y4, y5, ys, rfl, hE3, hA3, s3⟩
      refine ⟨_, rfl, _, _, _, _, D2, ys, rfl, hE3, ?_, hD2H, sm.trans s3⟩
      have hlen := dps_len hA
      rw [List.length_map] at hlen
      rw [hlen, List.take_length] at hA3
      exact hA3
  · rintro σ' H' ⟨z2, z3, z4, z5, D, xs, rfl, hE, hA, hDH, sm⟩
    refine ⟨_, rfl, D, rfl, ⟨_, SqL.of hE⟩, fun D3 hD3 => ?_⟩
    have s2 := same_new hD3 (.lst [])
    have hD3H : H D3 = none := by
      cases hq : H D3 with
      | none => rfl
      | some u => rw [sm _ _ hq] at hD3; cases hD3
    have hlx := dps_len hA
    rw [List.length_map] at hlx
    have few := ord_few (m := n - 1) (by omega)
    refine lc_list (K := K) (a := D) (xs := xs) (fun t H3 => ∃ ys, H3 D3 = some (.lst ys) ∧ DpAll K H3 ys ((((ord (n - 1)).take t).map fun l => 0 :: l).map rowD) ∧ ys.length = t ∧ Same H' H3) ?_ ?_ ?_ ?_
    · exact ⟨[], upd_same, .nil, rfl, s2⟩
    · rintro t H3 _ ⟨ys, _, _, _, s3⟩
      exact SqL.of (s3 _ _ hE)
    · rintro t x H3 hx ⟨ys, hE3, hA3, hyl, s3⟩
      obtain ⟨d, hd, hdx⟩ := dps_at hA t x hx
      rw [List.getElem?_map] at hd
      obtain ⟨l, hl, rfl⟩ : ∃ l, (ord (n - 1))[t]? = some l ∧ rowD l = d := by
        cases hq : (ord (n - 1))[t]? with
        | none => rw [hq] at hd; cases hd
        | some l => rw [hq] at hd; exact ⟨l, rfl, Option.some.inj hd⟩
      obtain ⟨b, rfl, hb⟩ := row_at hdx
      have hll := ord_len (List.mem_of_getElem? hl)
      have hlt := (List.getElem?_eq_some_iff.mp hl).1
      refine ⟨rfl, ?_⟩
      dsimp only [tYes]
      rw [if_pos rfl]
      refine ⟨by show 1 ≤ sizeLine; decide, fun p1 hp1 => ?_⟩
      have s4 := same_new hp1 (.tup [V.int 0])
      have h4 : upd H3 p1 (.tup [V.int 0]) p1 = some (.tup [N 0]) := upd_same
      generalize upd H3 p1 (.tup [V.int 0]) = H4 at s4 h4
      refine ⟨_, rfl, catA_any (SqT.of h4) (sqT (s3.trans s4) hb) ?_ fun p5 H5 s5 h5 => ?_⟩
      · rw [List.length_map]
        exact Nat.le_trans (by simp; omega : [N 0].length + l.length ≤ 100) (by decide)
      have s45 := s4.trans s5
      have hE5 := s45 _ _ hE3
      have k5 : KpT H5 (upd H5 D3 (.lst (ys ++ [.ref p5]))) := .upd hE5
      refine ⟨ys, hE5, Nat.lt_of_le_of_lt (by omega : ys.length ≤ 100) (by decide), ys ++ [.ref p5], upd_same, ?_, by simp [hyl], ?_⟩
      · rw [List.take_succ_eq_append_getElem hlt, (List.getElem?_eq_some_iff.mp hl).2, List.map_append, List.map_append]
        exact dps_snoc (dps_keep ((KpT.same s45).trans k5) _ _ (pT_rowss _) hA3) (row_of (k5 K _ _ h5))
      · intro b' u' hu'
        have hb2 : b' ≠ D3 := fun c => by rw [c, hD3] at hu'; cases hu'
        rw [upd_ne hb2]
        exact s45 _ _ (s3 _ _ hu')
    · rintro H3 ⟨ys, hE3, hA3, hyl, s3⟩
      refine q D3 ys H3 hE3 ?_ hD3H (sm.trans s3)
      rw [hlx, List.take_length] at hA3
      exact hA3
end
end K83


set_option Elab.async false
set_option linter.all false
set_option maxRecDepth 100000
set_option maxHeartbeats 4000000
namespace K83
open PySem L2 TG GM
section
variable {P : Program} {w : World} {K : PySem.W.Frag} {mg : Str → Option Value} {base : Heap}
def spLaw (K : PySem.W.Frag) : Sp := fun vs H Q _ => ∃ (a : Addr) (ns : List Int), vs = [.ref a] ∧ SqL K H a (ns.map V.int) ∧ ns.length ≤ 63 ∧ ∀ H', Q (.bl true) H'
def Iso (L R A B : List (List Nat)) (n : Nat) (l : List Nat) : Prop := Fit L R A B [0] ∧ Good L R A B n [0] l
theorem ok_law {k : Nat} (T : Txt K mg) (G_law_taken : FnOk P w K mg base CX0 k T.a_law_taken T.d_law_taken ["_law_row", "_law_many"] (spTk K)) (G_law_pick : FnOk P w K mg base CX0 k T.a_law_pick T.d_law_pick ["_law_row", "_law_things"] (spPk K))
    (G_law_graph : FnOk P w K mg base CX0 k T.a_law_graph T.d_law_graph ["_law_row", "_law_most"] (spGraph K)) (G_law_orders : FnOk P w K mg base CX0 k T.a_law_orders T.d_law_orders ["_law_many"] (spOrders K))
    (G_law_moved : FnOk P w K mg base CX0 k T.a_law_moved T.d_law_moved ["_law_graph_here", "_law_names"] (spMoved K)) (G_graph_map : FnOk P w K mg base CX0 k T.a_graph_map T.d_graph_map ["one", "other"] (spMap K)) :
    FnOk P w K mg base CX0 (k + 1) T.a_law T.d_law ["_law_script"] (spLaw K) := by
  refine T.F_law.ok sc_law (fun vs H Q E h => ?_) (fun cdv A outer s H vs Q E hr h => ?_)
  · obtain ⟨a, ns, rfl, _⟩ := h
    rfl
  obtain ⟨a, ns, rfl, hS, hl, q⟩ := h
  refine ⟨_, (pss_cons (ps_set (i := 1) sc_law.nd rfl (Or.inl rfl) (pe_lst (pa_cons (pv 0) (pa_cons pe_int (pa_cons pe_int (pa_cons pe_int pa_nil))))))
  (pss_cons (ps_set (i := 2) sc_law.nd rfl (Or.inr rfl) (pe_call G_law_graph hr rfl T.g_law_graph T.F_law_graph.kp T.b_law_graph .nil pass0 (pa_cons (pv 1) (pa_cons pe_int pa_nil))))
  (pss_cons (ps_set (i := 3) sc_law.nd rfl (Or.inl rfl) (pe_call G_law_orders hr rfl T.g_law_orders T.F_law_orders.kp T.b_law_orders .nil pass0 (pa_cons (pe_callB (call_lenK (K := K) rfl) rfl T.m_len PySem.boot_len (pa_cons (pe_ix (ix_tupK (K := K) rfl) (pv 2) pe_int (fun _ _ => rfl)) pa_nil)) pa_nil)))
  (pss_cons (ps_set (i := 4) sc_law.nd rfl (Or.inr rfl) (pe_call G_law_moved hr rfl T.g_law_moved T.F_law_moved.kp T.b_law_moved .nil pass0 (pa_cons (pv 2) (pa_cons (pe_call G_law_pick hr rfl T.g_law_pick T.F_law_pick.kp T.b_law_pick .nil pass0 (pa_cons (pv 1) (pa_cons (pv 3) pa_nil))) pa_nil))))
  (Evl.pss_cut (ps_if (pt_cmpR op_eq (pe_call G_law_taken hr rfl T.g_law_taken T.F_law_taken.kp T.b_law_taken .nil pass0 (pa_cons (pv 1) (pa_cons pe_int pa_nil))) pe_int (nomark _))
  (pss_cons (ps_asg (pe_tup (pa_cons (pe_call G_law_taken hr rfl T.g_law_taken T.F_law_taken.kp T.b_law_taken .nil pass0 (pa_cons (pv 1) (pa_cons pe_int pa_nil))) (pa_cons (pe_call G_law_taken hr rfl T.g_law_taken T.F_law_taken.kp T.b_law_taken .nil pass0 (pa_cons (pv 1) (pa_cons (pe_callB (call_lenK (K := K) rfl) rfl T.m_len PySem.boot_len (pa_cons (pe_ix (ix_tupK (K := K) rfl) (pv 2) pe_int (fun _ _ => rfl)) pa_nil)) pa_nil))) (pa_cons (pe_call G_law_taken hr rfl T.g_law_taken T.F_law_taken.kp T.b_law_taken .nil pass0 (pa_cons (pv 1) (pa_cons (pe_callB (call_lenK (K := K) rfl) rfl T.m_len PySem.boot_len (pa_cons (pe_ix (ix_tupK (K := K) rfl) (pv 2) pe_int (fun _ _ => rfl)) pa_nil)) pa_nil))) pa_nil)))) (pg_tupK (K := K) (n := 3) rfl rfl (pgs_cons (pg_name (i := 5) sc_law.nd rfl (Or.inl rfl)) (pgs_cons (pg_name (i := 6) sc_law.nd rfl (Or.inl rfl)) (pgs_cons (pg_name (i := 7) sc_law.nd rfl (Or.inr rfl)) pgs_nil)))))
  (pss_cons (ps_set (i := 8) sc_law.nd rfl (Or.inl rfl) (pe_op op_cat (pe_lc (own := [("_law_more", 13)]) rfl sc_law.nd (pi_tupK (K := K) rfl (pe_ix (ix_tupK (K := K) rfl) (pe_ix (ix_tupK (K := K) rfl) (pv 4) (pv 5) (fun _ _ => rfl)) (pv 6) (fun _ _ => rfl))) (blkOk_by (N := ["_law_script", "_law_row", "_law_one", "_law_some", "_law_other", "_law_side", "_law_node", "_law_goal", "_law_told", "_law_rows", "_law_maps", "_law_found", "_law_names", "_law_more"]) (sc := defScope s_law) (by decide +kernel)) (fun _ _ _ _ _ => (pg_name (i := 13) sc_law.nd rfl (Or.inl rfl))) (fun _ _ _ _ _ => (pts_one (pt_cmpR op_ne (pv 13) (pv 7) (nomark _)))) (fun _ _ _ _ _ => (pv 13))) (pe_op op_rep (pe_lst (pa_cons (pv 7) pa_nil)) (pe_callTy call_int1 rfl T.m_int (by decide +kernel) (pa_cons (pe_cmpR (op_notIn_seqK (K := K) rfl) (pv 7) (pe_ix (ix_tupK (K := K) rfl) (pe_ix (ix_tupK (K := K) rfl) (pv 4) (pv 5) (fun _ _ => rfl)) (pv 6) (fun _ _ => rfl)) (by rfl)) pa_nil)))))
  (pss_cons (ps_set (i := 9) sc_law.nd rfl (Or.inl rfl) (pe_op (op_catAK (K := K) rfl) (pe_op (op_catAK (K := K) rfl) (pe_slice (sl_tupAK (K := K) rfl) (pe_ix (ix_tupK (K := K) rfl) (pv 4) (pv 5) (fun _ _ => rfl)) po_none (po_some (pv 6))) (pe_tup (pa_cons (pe_callTy (call_tuple_ofK (K := K) rfl) rfl T.m_tuple (by decide +kernel) (pa_cons (pe_callB (cr_sortedIK (K := K) rfl) rfl T.m_sorted (by decide +kernel) (pa_cons (pv 8) pa_nil)) pa_nil)) pa_nil))) (pe_slice (sl_tupAK (K := K) rfl) (pe_ix (ix_tupK (K := K) rfl) (pv 4) (pv 5) (fun _ _ => rfl)) (po_some (pe_op op_add (pv 6) pe_int)) po_none)))
  (pss_one (ps_set (i := 4) sc_law.nd rfl (Or.inr rfl) (pe_ifExp (pt_cmpR op_eq (pv 5) pe_int (nomark _)) (pe_tup (pa_cons (pv 9) (pa_cons (pe_ix (ix_tupK (K := K) rfl) (pv 4) pe_int (fun _ _ => rfl)) pa_nil))) (pe_tup (pa_cons (pe_ix (ix_tupK (K := K) rfl) (pv 4) pe_int (fun _ _ => rfl)) (pa_cons (pv 9) pa_nil)))))))))
  pss_nil)
  (pss_cons (ps_setLc (i := 10) (own := [("_law_names", 12)]) rfl sc_law.nd rfl rfl (sw_true rfl rfl rfl (by decide +kernel)) (pi_listK (K := K) rfl (pv 3)) (blkOk_by (N := ["_law_script", "_law_row", "_law_one", "_law_some", "_law_other", "_law_side", "_law_node", "_law_goal", "_law_told", "_law_rows", "_law_maps", "_law_found", "_law_names", "_law_more"]) (sc := defScope s_law) (by decide +kernel)) (fun _ _ _ _ _ => (pg_name (i := 12) sc_law.nd rfl (Or.inl rfl))) (fun _ _ _ _ _ => (pts_one (pt_cmpR (op_eqDK (K := K) rfl hr.units) (pe_call G_law_moved hr rfl T.g_law_moved T.F_law_moved.kp T.b_law_moved .nil pass0 (pa_cons (pv 2) (pa_cons (pv 12) pa_nil))) (pv 4) (nomark _)))) (fun _ _ _ _ _ => (pv 12)))
  (pss_cons (ps_set (i := 11) sc_law.nd rfl (Or.inl rfl) (pe_call G_graph_map hr rfl T.g_graph_map T.F_graph_map.kp T.b_graph_map .nil pass0 (pa_cons (pv 2) (pa_cons (pv 4) pa_nil))))
  (pss_cons (ps_if (pt_cmpR (op_eqDK (K := K) rfl hr.units) (pv 10) (pe_lst pa_nil) (nomark _))
  (pss_one (ps_ret (pe_cmpR op_isN (pv 11) pe_non (nomark _))))
  pss_nil)
  (pss_one (ps_ret (pe_and (pe_callB (call_isiG (K := K) rfl) rfl T.m_isinstance (by decide +kernel) (pa_cons (pv 11) (pa_cons (pe_bltn (v := .ty "tuple") (u := .type "tuple") rfl T.m_tuple (by decide +kernel) rfl) pa_nil))) (pe_and (pe_cmpR (op_inDK (K := K) rfl (units65 hr)) (pv 11) (pv 10) (by rfl)) (pe_one (pe_cmpR op_isN (pe_call G_graph_map hr rfl T.g_graph_map T.F_graph_map.kp T.b_graph_map .nil pass0 (pa_cons (pv 2) (pa_cons (pe_tup (pa_cons (pe_op (op_catAK (K := K) rfl) (pe_ix (ix_tupK (K := K) rfl) (pv 2) pe_int (fun _ _ => rfl)) (pe_tup (pa_cons (pe_tup pa_nil) pa_nil))) (pa_cons (pe_op (op_catAK (K := K) rfl) (pe_ix (ix_tupK (K := K) rfl) (pv 2) pe_int (fun _ _ => rfl)) (pe_tup (pa_cons (pe_tup pa_nil) pa_nil))) pa_nil))) pa_nil))) pe_non (nomark _))))))))))))))), ?_⟩
  refine ⟨_, rfl, by show 4 ≤ sizeLine; decide, fun r hr' => ?_⟩
  have hR := RowA.make (s := 3183) hr' hS hl
  generalize upd H r (.lst [V.ref a, V.int 0, V.int 3183, V.int 0]) = H0 at hR
  dsimp only [gName]
  -- one = graph(row, 5)
  refine ⟨_, rfl, r, a, ns, 5, rfl, hR, ⟨by decide, by decide⟩, fun v L R H1 h1 hok hm hR1 o1 => ?_⟩
  dsimp only [gName]
  obtain ⟨e1, n1, n60, okL, okR⟩ := id hok
  obtain ⟨n, hn⟩ : ∃ n, L.length = n := ⟨_, rfl⟩
  rw [hn] at n1 n60 okL okR hm e1
  obtain ⟨a1, l1, r1, rfl, hS1, hL1, hR1'⟩ := gr_at h1
  obtain ⟨aL, xL, rfl, hSL, hlL, hAL⟩ := rows_at hL1
  -- some = orders(len(one[0]))
  refine ⟨_, rfl, a1, _, 0, _, rfl, rfl, hS1, rfl, aL, _, rfl, .inr hSL, n, ?_, ⟨n1, hm⟩, fun p xs H2 hp hA hpn s2 => ?_⟩
  · rw [hlL, hn]
    rfl
  dsimp only [gName]
  have hR2 := hR1.more s2
  have hpr : p ≠ r := by
    obtain ⟨ys, hy⟩ := hR1.there
    exact fun c => by rw [c, hy] at hpn; cases hpn
  have ol := orders_len n1 hm
  have hxl := dps_len hA
  rw [List.length_map] at hxl
  -- other = moved(one, pick(row, some))
  refine ⟨_, rfl, _, rfl, _, rfl, r, a, p, ns, xs, rfl, hR2, hp, hpr, ⟨by omega, by omega⟩, fun x H3 hx hR3 ho3 => ?_⟩
  obtain ⟨i, hi, ei⟩ := List.getElem_of_mem hx
  obtain ⟨d, hd, hdx⟩ := dps_at hA i x (by rw [List.getElem?_eq_getElem hi, ei])
  rw [List.getElem?_map] at hd
  obtain ⟨l, hl0, rfl⟩ : ∃ l, (orders n)[i]? = some l ∧ rowD l = d := by
    cases hq : (orders n)[i]? with
    | none => rw [hq] at hd; cases hd
    | some l => rw [hq] at hd; exact ⟨l, rfl, Option.some.inj hd⟩
  obtain ⟨b, rfl, hb⟩ := row_at hdx
  obtain ⟨ll, linj, l0⟩ := orders_ok n1 hm (List.mem_of_getElem? hl0)
  have k3 : KpT H2 H3 := .row hR2 ho3
  have h1_3 := dp_keep ((KpT.same s2).trans k3) _ _ (pT_gr L R) h1
  refine ⟨_, b, L, R, l, n, rfl, h1_3, k3 K _ _ hb, ⟨hn, e1.symm, ll, n1, n60⟩, linj, okL, okR, fun v' A0 B0 H4 mA mB hD4 s4 => ?_⟩
  dsimp only [gName]
  have hp4 : H4 p = some (.lst xs) := s4 _ _ (by rw [ho3 p hpr]; exact hp)
  have hA4 : DpAll K H4 xs ((orders n).map rowD) := dps_keep (k3.trans (.same s4)) _ _ (pT_rowss _) hA
  have h1_4 := dp_keep (.same s4) _ _ (pT_gr L R) h1_3
  have hR4 := hR3.more s4
  refine ⟨fun σ' H' => ∃ (z5 z6 z7 z8 z9 : Option V) (v4 : V) (A B : List (List Nat)), σ' = [some (.ref a), some (.ref r), some (.ref a1), some (.ref p), some v4, z5, z6, z7, z8, z9, none, none, none, none] ∧ Dp K H' v4 (grD A B) ∧ (A.length = n ∧ B.length = n ∧ (∀ r ∈ A, OkRow n r) ∧ ∀ r ∈ B, OkRow n r) ∧
    H' p = some (.lst xs) ∧ DpAll K H' xs ((orders n).map rowD) ∧ Dp K H' (.ref a1) (grD L R), ?_, ?_⟩
  · -- if taken(row, 2) == 0
    refine ⟨_, rfl, r, a, ns, 2, rfl, hR4, ⟨by decide, by decide⟩, fun d H5 d0 d1 hR5 ho5 => ?_⟩
    have k5 : KpT H4 H5 := .row hR4 ho5
    have hp5 : H5 p = some (.lst xs) := by rw [ho5 p hpr]; exact hp4
    have oA := moved_ok ll linj n60 okL mA
    have oB := moved_ok ll linj n60 okR mB
    refine ⟨rfl, _, rfl, ite2 (fun c => ?yes) (fun c => ?no)⟩
    case no => exact ⟨none, none, none, none, none, v', A0, B0, rfl, dp_keep k5 _ _ (pT_gr A0 B0) hD4, ⟨mA.1, mB.1, oA, oB⟩, hp5, dps_keep k5 _ _ (pT_rowss _) hA4, dp_keep k5 _ _ (pT_gr L R) h1_4⟩
    have h1_5 := dp_keep k5 _ _ (pT_gr L R) h1_4
    obtain ⟨a9, l9, r9, e9, hS9, hL9, hR9⟩ := gr_at h1_5
    cases e9
    obtain ⟨aL9, xL9, rfl, hSL9, hlL9, hAL9⟩ := rows_at hL9
    have hx9 : ((xL9.length : Nat) : Int) = (n : Int) := by rw [hlL9, hn]
    -- side, node, goal
    refine ⟨_, rfl, r, a, ns, 2, rfl, hR5, ⟨by decide, by decide⟩, fun sd H6 sd0 sd1 hR6 ho6 => ?_⟩
    have k6 : KpT H5 H6 := .row hR5 ho6
    refine ⟨_, rfl, _, rfl, a1, _, 0, _, rfl, rfl, k6 K _ _ hS9, rfl, aL9, _, rfl, .inr (k6 K _ _ hSL9), r, a, ns, _, rfl, hR6, ⟨by omega, by omega⟩, fun nd H7 nd0 nd1 hR7 ho7 => ?_⟩
    have k7 : KpT H6 H7 := .row hR6 ho7
    refine ⟨_, rfl, _, rfl, a1, _, 0, _, rfl, rfl, (k6.trans k7) K _ _ hS9, rfl, aL9, _, rfl, .inr ((k6.trans k7) K _ _ hSL9), r, a, ns, _, rfl, hR7, ⟨by omega, by omega⟩, fun gl H8 gl0 gl1 hR8 ho8 => ?_⟩
    have k8 : KpT H7 H8 := .row hR7 ho8
    refine ⟨by show 3 ≤ sizeLine; decide, fun t0 ht0 => ⟨t0, _, rfl, SqT.of upd_same, rfl, _, _, rfl, _, _, rfl, _, _, rfl, rfl, ?_⟩⟩
    have s9 := same_new ht0 (.tup [V.int sd, V.int nd, V.int gl])
    generalize upd H8 t0 (.tup [V.int sd, V.int nd, V.int gl]) = H9 at s9
    have k59 : KpT H5 H9 := ((k6.trans k7).trans k8).trans (.same s9)
    have hp9 : H9 p = some (.lst xs) := s9 _ _ (by rw [ho8 p hpr, ho7 p hpr, ho6 p hpr]; exact hp5)
    obtain ⟨nd', rfl⟩ : ∃ m : Nat, nd = (m : Int) := ⟨nd.toNat, by omega⟩
    obtain ⟨gl', rfl⟩ : ∃ m : Nat, gl = (m : Int) := ⟨gl.toNat, by omega⟩
    have hD9 := dp_keep (k5.trans k59) _ _ (pT_gr A0 B0) hD4
    obtain ⟨a4, l4, r4, rfl, hS4, hL4, hR4'⟩ := gr_at hD9
    obtain ⟨aF, xF, F, atS, hSF, hlF, hAF, lF, oF⟩ : ∃ (aF : Addr) (xF : List V) (F : List (List Nat)), atI [l4, r4] sd = some (.ref aF) ∧ SqT K H9 aF xF ∧ xF.length = F.length ∧ DpAll K H9 xF (F.map rowD) ∧ F.length = n ∧ ∀ r ∈ F, OkRow n r := by
      by_cases z : sd = 0
      · obtain ⟨b, ys, rfl, h2, h3, h4⟩ := rows_at hL4
        subst z
        exact ⟨b, ys, A0, rfl, h2, h3, h4, mA.1, oA⟩
      · have z1 : sd = 1 := by omega
        obtain ⟨b, ys, rfl, h2, h3, h4⟩ := rows_at hR4'
        subst z1
        exact ⟨b, ys, B0, rfl, h2, h3, h4, mB.1, oB⟩
    obtain ⟨bF, atF, hTF⟩ := at_row hAF (i := nd') (by omega)
    have okd := row_ok oF nd'
    generalize row F nd' = ds at hTF okd
    -- told = [..] + [goal] * ..
    dsimp only [gName]
    refine go_seq (go_asg (go_op ?_))
    refine el_lcT (K := K) (a := bF) (xs := ds.map N) (fun i => decide (im ds i ≠ gl')) (fun i => N (im ds i)) ?_ hTF ?_ ?_ ?_ ?_ H9 (Evl.Ex.refl H9) _ ?_
    · intro H10 e10 Q10 q10
      exact ⟨_, rfl, _, rfl, a4, _, _, _, rfl, rfl, sqT e10 hS4, atS, _, rfl, aF, _, _, _, rfl, rfl, sqT e10 hSF, atF, q10 H10 (Evl.Ex.refl H10)⟩
    · rw [List.length_map]
      have := okd.2.2
      omega
    · intro x
      rfl
    · intro i x H10 e10 hx H11 e11 Q11 q11
      rw [List.getElem?_map] at hx
      cases hdd : ds[i]? with
      | none => rw [hdd] at hx; cases hx
      | some z =>
        rw [hdd] at hx
        obtain rfl := Option.some.inj hx
        have ez : im ds i = z := by
          unfold im
          rw [List.getD_eq_getElem?_getD, hdd]
          rfl
        refine ⟨_, rfl, _, rfl, rfl, _, rfl, ?_⟩
        rw [ez] at q11
        have e12 : (!decide (N z = N gl')) = decide (z ≠ gl') := by
          by_cases e : z = gl'
          · subst e
            simp
          · have : N z ≠ N gl' := fun h => e (by have := V.int.inj h; omega)
            simp [e, this]
        rw [e12]
        exact q11 H11 (Evl.Ex.refl H11)
    · intro i x H10 e10 hx hf H11 e11 Q11 q11
      rw [List.getElem?_map] at hx
      cases hdd : ds[i]? with
      | none => rw [hdd] at hx; cases hx
      | some z =>
        rw [hdd] at hx
        obtain rfl := Option.some.inj hx
        have ez : im ds i = z := by
          unfold im
          rw [List.getD_eq_getElem?_getD, hdd]
          rfl
        rw [ez] at q11
        exact ⟨_, rfl, q11 H11 (Evl.Ex.refl H11)⟩
    · intro D10 H10 hD10 e10 h10
      rw [List.length_map, given_filter ds fun z => decide (z ≠ gl')] at h10
      refine ⟨_, rfl, by show 1 ≤ sizeLine; decide, fun D11 hD11 => ?_⟩
      have v1 := same_new hD11 (.lst [N gl'])
      have h11 : upd H10 D11 (.lst [N gl']) D11 = some (.lst [N gl']) := upd_same
      generalize upd H10 D11 (.lst [N gl']) = H11 at v1 h11
      have w1 : Same H9 H11 := e10.trans v1
      have e13 : (if (if true = true then !inV (N gl') (ds.map N) else inV (N gl') (ds.map N)) = true then (1 : Int) else 0) = if gl' ∈ ds then 0 else 1 := by
        rw [in_N]
        by_cases c : gl' ∈ ds <;> simp [c]
      obtain ⟨kk, ekk, kk0, kk1, hrep⟩ : ∃ kk : Int, (if gl' ∈ ds then (0 : Int) else 1) = kk ∧ 0 ≤ kk ∧ kk ≤ 1 ∧ (List.replicate kk.toNat [N gl']).flatten = (if gl' ∈ ds then [] else [gl']).map N := by
        by_cases c : gl' ∈ ds
        · exact ⟨0, by simp [c], by decide, by decide, by simp [c]⟩
        · exact ⟨1, by simp [c], by decide, by decide, by simp [c]⟩
      refine ⟨_, rfl, _, rfl, _, rfl, a4, _, _, _, rfl, rfl, sqT w1 hS4, atS, _, rfl, aF, _, _, _, rfl, rfl, sqT w1 hSF, atF, bF, _, rfl, .inr (sqT w1 hTF), rfl, flat_N _, .inr ⟨_, rfl, ?_⟩⟩
      rw [e13, ekk]
      refine ⟨D11, kk, _, rfl, rfl, h11, by omega, by omega, ?_, fun D12 hD12 => ?_⟩
      · exact Nat.le_trans (by simp; omega : [N gl'].length * kk.toNat ≤ 100) (by decide)
      rw [hrep]
      have v2 := same_new hD12 (.lst ((if gl' ∈ ds then [] else [gl']).map N))
      have hE12 : upd H11 D12 (.lst ((if gl' ∈ ds then [] else [gl']).map N)) D12 = some (.lst ((if gl' ∈ ds then [] else [gl']).map N)) := upd_same
      generalize upd H11 D12 (.lst ((if gl' ∈ ds then [] else [gl']).map N)) = H12 at v2 hE12
      have l60 := okd.2.2
      refine ⟨D10, D12, _, _, rfl, rfl, v2 _ _ (v1 _ _ h10), hE12, ?_, fun D13 hD13 => ?_⟩
      · rw [List.length_map, List.length_map]
        have f1 : (ds.filter fun z => decide (z ≠ gl')).length ≤ ds.length := List.length_filter_le _ _
        have f2 : (if gl' ∈ ds then ([] : List Nat) else [gl']).length ≤ 1 := by split <;> simp
        exact Nat.le_trans (by omega : _ ≤ 100) (by decide)
      rw [← List.map_append]
      have v3 := same_new hD13 (.lst ((flip ds gl').map N))
      have hE13 : upd H12 D13 (.lst ((flip ds gl').map N)) D13 = some (.lst ((flip ds gl').map N)) := upd_same
      show tSeq _ _ _ _ (upd H12 D13 (.lst ((flip ds gl').map N)))
      generalize upd H12 D13 (.lst ((flip ds gl').map N)) = H13 at v3 hE13
      have w3 : Same H9 H13 := (w1.trans v2).trans v3
      -- rows = other[side][:node] + (tuple(sorted(told)),) + other[side][node + 1:]
      refine ⟨_, rfl, _, rfl, a4, _, _, _, rfl, rfl, sqT w3 hS4, atS, _, rfl, _, rfl, slA_any (sqT w3 hSF) fun p1 H14 v4 h14 => ?_⟩
      rw [cut_take] at h14
      have eflip : (flip ds gl').map N = ((flip ds gl').map fun m : Nat => (m : Int)).map V.int := by
        rw [List.map_map]
        rfl
      rw [eflip] at hE13
      refine ⟨_, rfl, D13, _, rfl, SqL.of (v4 _ _ hE13), fun ms D14 hperm hsort hD14 => ⟨D14, _, rfl, .inl ⟨SqL.of upd_same, fun t5 ht5 => ⟨by show 1 ≤ sizeLine; decide, fun t6 ht6 => ?_⟩⟩⟩⟩
      obtain ⟨es, ees, hpe, hse⟩ := nat_perm hperm hsort
      have oke := flip_ok okd (by omega : gl' < n) n60 hpe hse
      have v5 := ((same_new hD14 (.lst (ms.map V.int))).trans (same_new ht5 (.tup (ms.map V.int)))).trans (same_new ht6 (.tup [V.ref t5]))
      have ht5' : upd (upd (upd H14 D14 (.lst (ms.map V.int))) t5 (.tup (ms.map V.int))) t6 (.tup [V.ref t5]) t5 = some (.tup (es.map N)) := by
        rw [← ees]
        exact (same_new ht6 (.tup [V.ref t5])) _ _ upd_same
      have ht6' : upd (upd (upd H14 D14 (.lst (ms.map V.int))) t5 (.tup (ms.map V.int))) t6 (.tup [V.ref t5]) t6 = some (.tup [V.ref t5]) := upd_same
      generalize upd (upd (upd H14 D14 (.lst (ms.map V.int))) t5 (.tup (ms.map V.int))) t6 (.tup [V.ref t5]) = H15 at v5 ht5' ht6'
      refine catA_any (sqT v5 h14) (SqT.of ht6') ?_ fun p2 H16 v6 h16 => ?_
      · rw [List.length_take]
        exact Nat.le_trans (by simp; omega : min nd' xF.length + [V.ref t5].length ≤ 100) (by decide)
      have w5 : Same H9 H16 := ((w3.trans v4).trans v5).trans v6
      refine ⟨_, rfl, _, rfl, a4, _, _, _, rfl, rfl, sqT w5 hS4, atS, _, rfl, _, _, rfl, rfl, _, rfl, ?_⟩
      dsimp only [tNoPart]
      refine slA_any (sqT w5 hSF) fun p3 H17 v7 h17 => ?_
      rw [show ((nd' : Nat) : Int) + 1 = ((nd' + 1 : Nat) : Int) by omega, cut_drop] at h17
      refine catA_any (sqT v7 h16) h17 ?_ fun p4 H18 v8 h18 => ?_
      · rw [List.length_append, List.length_take, List.length_drop]
        exact Nat.le_trans (by simp; omega : min nd' xF.length + [V.ref t5].length + (xF.length - (nd' + 1)) ≤ 200) (by decide)
      have w8 : Same H9 H18 := (w5.trans v7).trans v8
      have kk9 : KpT H9 H18 := .same w8
      have hF' : Dp K H18 (.ref p4) (rowsD (F.take nd' ++ [es] ++ F.drop (nd' + 1))) := by
        refine .tup h18 ?_
        rw [List.map_append, List.map_append, List.map_take, List.map_drop]
        have hA18 := dps_keep kk9 _ _ (pT_rowss _) hAF
        exact dps_app (dps_app (dps_take _ hA18) (.cons (row_of (SqT.of (((v6.trans v7).trans v8) _ _ ht5'))) .nil)) (dps_drop _ hA18)
      have lF' : (F.take nd' ++ [es] ++ F.drop (nd' + 1)).length = n := by
        simp only [List.length_append, List.length_take, List.length_drop, List.length_cons, List.length_nil]
        omega
      have oF' : ∀ r ∈ F.take nd' ++ [es] ++ F.drop (nd' + 1), OkRow n r := by
        intro r hr
        rcases List.mem_append.mp hr with h | h
        · rcases List.mem_append.mp h with h | h
          · exact oF r (List.mem_of_mem_take h)
          · rw [List.mem_singleton] at h
            rw [h]
            exact oke
        · exact oF r (List.mem_of_mem_drop h)
      generalize F.take nd' ++ [es] ++ F.drop (nd' + 1) = F' at hF' lF' oF'
      dsimp only [gName]
      have hp18 := w8 _ _ hp9
      have hA18 := dps_keep ((k5.trans k59).trans kk9) _ _ (pT_rowss _) hA4
      have h1_18 := dp_keep (k59.trans kk9) _ _ (pT_gr L R) h1_5
      -- other = ..
      refine ⟨_, rfl, rfl, _, rfl, ite2 (fun c => ?_) (fun c => ?_)⟩
      · refine ⟨_, rfl, _, rfl, a4, _, 1, _, rfl, rfl, sqT w8 hS4, rfl, by show 2 ≤ sizeLine; decide, fun t9 ht9 => ?_⟩
        have v9 := same_new ht9 (.tup [V.ref p4, r4])
        exact ⟨_, _, _, _, _, _, F', B0, rfl, gr_of (SqT.of upd_same) (dp_keep (.same v9) _ _ (pT_rows F') hF') (dp_keep (.same (w8.trans v9)) _ _ (pT_rows B0) hR4'), ⟨lF', mB.1, oF', oB⟩, v9 _ _ hp18, dps_keep (.same v9) _ _ (pT_rowss _) hA18, dp_keep (.same v9) _ _ (pT_gr L R) h1_18⟩
      · refine ⟨_, rfl, a4, _, 0, _, rfl, rfl, sqT w8 hS4, rfl, _, rfl, by show 2 ≤ sizeLine; decide, fun t9 ht9 => ?_⟩
        have v9 := same_new ht9 (.tup [l4, V.ref p4])
        exact ⟨_, _, _, _, _, _, A0, F', rfl, gr_of (SqT.of upd_same) (dp_keep (.same (w8.trans v9)) _ _ (pT_rows A0) hL4) (dp_keep (.same v9) _ _ (pT_rows F') hF'), ⟨mA.1, lF', oA, oF'⟩, v9 _ _ hp18, dps_keep (.same v9) _ _ (pT_rowss _) hA18, dp_keep (.same v9) _ _ (pT_gr L R) h1_18⟩
  rintro σ' H5 ⟨z5, z6, z7, z8, z9, v4, A, B, rfl, hD5, ⟨lA, lB, okA, okB⟩, hp5, hA5, h1_5⟩
  -- maps = [..]
  refine ⟨_, rfl, p, rfl, ⟨_, SqL.of hp5⟩, fun D hD => ?_⟩
  refine lc_list (K := K) (a := p) (xs := xs) (fun t H6 => ∃ (ys : List V) (ms : List (List Nat)), H6 D = some (.lst ys) ∧ DpAll K H6 ys (ms.map rowD) ∧ ms.length ≤ t ∧ (∀ m, m ∈ ms ↔ m ∈ (orders n).take t ∧ Iso L R A B n m) ∧ Same H5 H6) ?_ ?_ ?_ ?_
  · exact ⟨[], [], upd_same, .nil, Nat.zero_le _, fun m => by simp, same_new hD _⟩
  · rintro t H6 _ ⟨ys, ms, _, _, _, _, s6⟩
    exact SqL.of (s6 _ _ hp5)
  · rintro t x H6 hx ⟨ys, ms, hE6, hA6, hml, hms, s6⟩
    obtain ⟨d, hd, hdx⟩ := dps_at hA5 t x hx
    rw [List.getElem?_map] at hd
    obtain ⟨m, hm0, rfl⟩ : ∃ l, (orders n)[t]? = some l ∧ rowD l = d := by
      cases hq : (orders n)[t]? with
      | none => rw [hq] at hd; cases hd
      | some l => rw [hq] at hd; exact ⟨l, rfl, Option.some.inj hd⟩
    obtain ⟨b6, rfl, hb6⟩ := row_at hdx
    obtain ⟨mlen, minj, m0⟩ := orders_ok n1 hm (List.mem_of_getElem? hm0)
    have hlt := (List.getElem?_eq_some_iff.mp hm0).1
    have htk : (orders n).take (t + 1) = (orders n).take t ++ [m] := by rw [List.take_succ_eq_append_getElem hlt, (List.getElem?_eq_some_iff.mp hm0).2]
    refine ⟨rfl, ?_⟩
    refine ⟨_, rfl, _, rfl, _, b6, L, R, m, n, rfl, dp_keep (.same s6) _ _ (pT_gr L R) h1_5, sqT s6 hb6, ⟨hn, e1.symm, mlen, n1, n60⟩, minj, okL, okR, fun v6 A1 B1 H7 mA1 mB1 hD7 s7 => ?_⟩
    have s67 := s6.trans s7
    refine ⟨_, rfl, _, _, hD7, dp_keep (.same s67) _ _ (pT_gr A B) hD5, (small_gr _ _).ok (by decide), (small_gr _ _).ok (by decide), ?_⟩
    rw [eqv_gr]
    have hiso : Iso L R A B n m ↔ (A1 = A ∧ B1 = B) := good_moved mlen minj n1 m0 okL okR okA okB lA lB mA1 mB1
    refine ⟨_, rfl, ?_⟩
    have hE7 := s7 _ _ hE6
    by_cases c : A1 = A ∧ B1 = B
    · rw [decide_eq_true c]
      refine iteT ?_
      have k7 : KpT H7 (upd H7 D (.lst (ys ++ [.ref b6]))) := .upd hE7
      have hyl := dps_len hA6
      rw [List.length_map] at hyl
      refine ⟨_, rfl, ys, hE7, Nat.lt_of_le_of_lt (by omega : ys.length ≤ 100) (by decide), ys ++ [.ref b6], ms ++ [m], upd_same, ?_, by simp; omega, fun m' => ?_, ?_⟩
      · rw [List.map_append]
        exact dps_snoc (dps_keep ((KpT.same s7).trans k7) _ _ (pT_rowss _) hA6) (row_of (k7 K _ _ (sqT s67 hb6)))
      · rw [htk, List.mem_append, List.mem_append, List.mem_singleton, hms]
        constructor
        · rintro (⟨h1, h2⟩ | rfl)
          · exact ⟨.inl h1, h2⟩
          · exact ⟨.inr rfl, hiso.mpr c⟩
        · rintro ⟨h1 | rfl, h2⟩
          · exact .inl ⟨h1, h2⟩
          · exact .inr rfl
      · intro b' u' hu'
        have hb2 : b' ≠ D := fun c => by rw [c, hD] at hu'; cases hu'
        rw [upd_ne hb2]
        exact s67 _ _ hu'
    · rw [decide_eq_false c]
      refine iteF ⟨ys, ms, hE7, dps_keep (.same s7) _ _ (pT_rowss _) hA6, by omega, fun m' => ?_, s67⟩
      rw [htk, List.mem_append, List.mem_singleton, hms]
      constructor
      · rintro ⟨h1, h2⟩
        exact ⟨.inl h1, h2⟩
      · rintro ⟨h1 | rfl, h2⟩
        · exact ⟨h1, h2⟩
        · exact absurd (hiso.mp h2) c
  · rintro H6 ⟨ys, ms, hE6, hA6, hml, hms, s6⟩
    rw [hxl, List.take_length] at hms
    dsimp only [gName]
    have gAB : GrOk A B := ⟨by omega, by omega, by omega, by rw [lA]; exact okA, by rw [lA]; exact okB⟩
    have hDm : ∀ H', DpAll K H' ys (ms.map rowD) → H' D = some (.lst ys) → Dp K H' (.ref D) (.list (ms.map rowD)) := fun H' h1 h2 => .lst (SqL.of h2) h1
    have hsm : SeqAt.shaped (.list (ms.map rowD)) = true := (Small.list (m := 1) fun d hd => by
      obtain ⟨z, _, rfl⟩ := List.mem_map.mp hd
      exact small_row z).ok (by decide)
    -- found = graph_map(one, other)
    refine ⟨_, rfl, _, rfl, _, _, L, R, A, B, rfl, dp_keep (.same s6) _ _ (pT_gr L R) h1_5, dp_keep (.same s6) _ _ (pT_gr A B) hD5, hok, gAB, fun f full H7 _ hf0 hgood s7 hf7 => ?_, fun H7 hnone s7 => ?_⟩
    · rw [hn] at hgood
      have hin : full ∈ ms := (hms full).mpr ⟨orders_all n1 hm hgood.len hgood.inj hgood.pre, hf0, hgood⟩
      dsimp only [gName]
      have hE7 := s7 _ _ hE6
      have hA7 := dps_keep (.same s7) _ _ (pT_rowss _) hA6
      refine ⟨_, rfl, by show 0 ≤ sizeLine; decide, fun D8 hD8 => ?_⟩
      have s8 := same_new hD8 (.lst [])
      refine ⟨_, _, hDm _ (dps_keep (.same s8) _ _ (pT_rowss _) hA7) (s8 _ _ hE7), .lst (SqL.of upd_same) .nil, hsm, rfl, ?_⟩
      have hne : PyData.eqv (.list (ms.map rowD)) (.list []) = false := by
        cases ms with
        | nil => cases hin
        | cons x y => simp [PyData.eqv, PyData.eqvAll]
      rw [hne]
      refine ⟨_, rfl, iteF ?_⟩
      dsimp only [tNext]
      generalize upd H7 D8 (.lst []) = H8 at s8
      have s78 := s6.trans (s7.trans s8)
      have h1_8 := dp_keep (.same s78) _ _ (pT_gr L R) h1_5
      have hE8 := s8 _ _ hE7
      have hA8 := dps_keep (.same s8) _ _ (pT_rowss _) hA7
      have hf8 := sqT s8 hf7
      have hany : ((ms.map rowD).any fun z => PyData.eqv z (rowD full)) = true := by
        rw [List.any_eq_true]
        refine ⟨rowD full, List.mem_map.mpr ⟨full, hin, rfl⟩, ?_⟩
        rw [eqv_row]
        exact decide_eq_true rfl
      refine ⟨_, rfl, _, _, _, _, rfl, TyN.tup hf8, kit_tuple_tuple, _, rfl, _, rfl, _, rfl, rowD full, ms.map rowD, row_of hf8, hDm _ hA8 hE8, (small_row full).ok (by decide), hsm, ?_⟩
      rw [hany]
      refine ⟨_, rfl, ?_⟩
      obtain ⟨a9, l9, r9, e9, hS9, hL9, hR9⟩ := gr_at h1_8
      cases e9
      obtain ⟨aL9, xL9, rfl, hSL9, hlL9, hAL9⟩ := rows_at hL9
      obtain ⟨aR9, xR9, rfl, hSR9, hlR9, hAR9⟩ := rows_at hR9
      refine ⟨_, rfl, _, rfl, a1, _, 0, _, rfl, rfl, hS9, rfl, by show 0 ≤ sizeLine; decide, fun y1 hy1 => ⟨by show 1 ≤ sizeLine; decide, fun t1 ht1 => ?_⟩⟩
      have u1 := (same_new hy1 (.tup [])).trans (same_new ht1 (.tup [V.ref y1]))
      have hy1' : upd (upd H8 y1 (.tup [])) t1 (.tup [V.ref y1]) y1 = some (.tup []) := (same_new ht1 (.tup [V.ref y1])) _ _ upd_same
      have ht1' : upd (upd H8 y1 (.tup [])) t1 (.tup [V.ref y1]) t1 = some (.tup [V.ref y1]) := upd_same
      generalize upd (upd H8 y1 (.tup [])) t1 (.tup [V.ref y1]) = H9 at u1 hy1' ht1'
      refine catA_any (sqT u1 hSL9) (SqT.of ht1') ?_ fun p1 H10 u2 h10 => ?_
      · rw [hlL9, hn]
        exact Nat.le_trans (by simp; omega : n + [V.ref y1].length ≤ 100) (by decide)
      have u12 := u1.trans u2
      refine ⟨_, rfl, a1, _, 1, _, rfl, rfl, sqT u12 hS9, rfl, by show 0 ≤ sizeLine; decide, fun y2 hy2 => ⟨by show 1 ≤ sizeLine; decide, fun t2 ht2 => ?_⟩⟩
      have u3 := (same_new hy2 (.tup [])).trans (same_new ht2 (.tup [V.ref y2]))
      have hy2' : upd (upd H10 y2 (.tup [])) t2 (.tup [V.ref y2]) y2 = some (.tup []) := (same_new ht2 (.tup [V.ref y2])) _ _ upd_same
      have ht2' : upd (upd H10 y2 (.tup [])) t2 (.tup [V.ref y2]) t2 = some (.tup [V.ref y2]) := upd_same
      generalize upd (upd H10 y2 (.tup [])) t2 (.tup [V.ref y2]) = H11 at u3 hy2' ht2'
      have u13 := u12.trans u3
      refine catA_any (sqT u13 hSR9) (SqT.of ht2') ?_ fun p2 H12 u4 h12 => ?_
      · rw [hlR9, ← e1]
        exact Nat.le_trans (by simp; omega : n + [V.ref y2].length ≤ 100) (by decide)
      have u14 := u13.trans u4
      refine ⟨by show 2 ≤ sizeLine; decide, fun t3 ht3 => ?_⟩
      have u5 := same_new ht3 (.tup [V.ref p1, V.ref p2])
      have ht3' : upd H12 t3 (.tup [V.ref p1, V.ref p2]) t3 = some (.tup [V.ref p1, V.ref p2]) := upd_same
      generalize upd H12 t3 (.tup [V.ref p1, V.ref p2]) = H13 at u5 ht3'
      have u15 := u14.trans u5
      have w2 : Same H9 H13 := ((u2.trans u3).trans u4).trans u5
      have big1 : Dp K H13 (.ref p1) (rowsD (L ++ [[]])) := by
        refine .tup (sqT ((u3.trans u4).trans u5) h10) ?_
        rw [List.map_append]
        exact dps_snoc (dps_keep (.same u15) _ _ (pT_rowss _) hAL9) (row_of (ds := []) (SqT.of (w2 _ _ hy1')))
      have big2 : Dp K H13 (.ref p2) (rowsD (R ++ [[]])) := by
        refine .tup (sqT u5 h12) ?_
        rw [List.map_append]
        exact dps_snoc (dps_keep (.same u15) _ _ (pT_rowss _) hAR9) (row_of (ds := []) (SqT.of ((u4.trans u5) _ _ hy2')))
      have okB2 : ∀ S : List (List Nat), (∀ r ∈ S, OkRow n r) → ∀ r ∈ S ++ [[]], OkRow (n + 1) r := fun S hS r hr => by
        rcases List.mem_append.mp hr with h | h
        · exact ok_more (hS r h) (by omega)
        · rw [List.mem_singleton] at h
          rw [h]
          exact ⟨List.Pairwise.nil, fun x hx => (List.not_mem_nil hx).elim, Nat.zero_le _⟩
      have lb1 : (L ++ [[]]).length = n + 1 := by simp [hn]
      have lb2 : (R ++ [[]]).length = n + 1 := by simp [← e1]
      refine ⟨_, _, L, R, L ++ [[]], R ++ [[]], rfl, dp_keep (.same u15) _ _ (pT_gr L R) h1_8, gr_of (SqT.of ht3') big1 big2, hok, ⟨by omega, by omega, by omega, by rw [lb1]; exact okB2 L okL, by rw [lb1]; exact okB2 R okR⟩, fun f' full' H' hlen => by omega, fun H' _ _ => ⟨rfl, q _⟩⟩
    · have hnil : ms = [] := by
        cases hmm : ms with
        | nil => rfl
        | cons m ms' =>
          have := (hms m).mp (by rw [hmm]; exact List.mem_cons_self)
          rcases hnone with h | h
          · omega
          · rw [hn] at h
            exact absurd this.2.2 (h m this.2.1)
      dsimp only [gName]
      have hE7 := s7 _ _ hE6
      have hA7 := dps_keep (.same s7) _ _ (pT_rowss _) hA6
      refine ⟨_, rfl, by show 0 ≤ sizeLine; decide, fun D8 hD8 => ?_⟩
      have s8 := same_new hD8 (.lst [])
      refine ⟨_, _, hDm _ (dps_keep (.same s8) _ _ (pT_rowss _) hA7) (s8 _ _ hE7), .lst (SqL.of upd_same) .nil, hsm, rfl, ?_⟩
      rw [hnil]
      refine ⟨_, rfl, iteT ⟨_, rfl, rfl, q _⟩⟩
theorem law_end {P : Program} {w : World} {K : PySem.W.Frag} {mg : Str → Option Value} {fa : Addr} (N : Nonempty (Txt K mg)) (hfa : mg "law" = some (.ref fa)) :
    ∃ fd : FuncData, (∀ (s : Shared) (v : Value), BindsTo s fd ⟨[v], []⟩ [("_law_script", v)]) ∧ ∀ base : Heap, K.In base → base.Ns mainGlobals mg → FnOk P w K mg base CX0 64 fa fd ["_law_script"] (spLaw K) := by
  obtain ⟨T⟩ := N
  have e := hfa.symm.trans T.g_law
  cases e
  refine ⟨T.d_law, T.B_law, fun base _ _ => ?_⟩
  have t1 : FnOk P w K mg base CX0 1 T.a_law_taken T.d_law_taken ["_law_row", "_law_many"] (spTk K) := ok_taken T
  have n1 : FnOk P w K mg base CX0 1 T.a_is_int T.d_is_int ["value"] spIsInt := ok_is_int T
  have n2 := ok_is_in T n1
  have n3 := ok_is_edges T n2
  have n4 := ok_need_graph T n3
  have f1 : FnOk P w K mg base CX0 1 T.a_fits T.d_fits ["one", "other", "images"] (spFits K) := ok_fits T
  have x1 := ok_extended T f1 60
  have m1 := ok_graph_map (k := 62) T (n4.mono (by decide)) (f1.mono (by decide)) (x1.mono (by decide))
  have o1 : FnOk P w K mg base CX0 1 T.a_law_orders T.d_law_orders ["_law_many"] (spOrders K) := ok_orders T
  have v1 : FnOk P w K mg base CX0 1 T.a_law_moved T.d_law_moved ["_law_graph_here", "_law_names"] (spMoved K) := ok_moved T
  exact ok_law (k := 63) T (t1.mono (by decide)) ((ok_pick T t1).mono (by decide)) ((ok_graph T t1).mono (by decide)) (o1.mono (by decide)) (v1.mono (by decide)) m1
end
end K83
open PySem PySem.W PyProof.Rows
set_option maxRecDepth 100000 in
set_option maxHeartbeats 0 in
theorem PySem.Challenge.cw_thermogames_k83_whole_maps_of_graphs_holds : PySem.Challenge.rw_thermogames_k83_whole_maps_of_graphs.Holds := by
  w_on; o_law; k_head; (case hw => w_witness2)
  k_fill
  refine L2.walk_of (l := PySem.Challenge.rw_thermogames_k83_whole_maps_of_graphs) (n := 63) (k := 64) (x := "_law_script") (CX := fun _ => L2.CX0) (sp := fun w => K83.spLaw _) rfl (by decide) rfl ⟨rfl, by decide, by decide⟩ (fun w h Y => PySem.W.kIn_of Y) ?F (fun _ _ a ns hl _ hS => ⟨a, ns, rfl, hS, hl, fun _ => rfl⟩) (fun _ _ _ _ _ h => h)
  case F =>
    intro w mg fa h KX G hmg
    refine' K83.law_end (K83.txt_mk KX G ?a0 ?l0 ?c0 ?k0 ?a1 ?l1 ?c1 ?k1 ?a2 ?l2 ?c2 ?k2 ?a3 ?l3 ?c3 ?k3 ?a4 ?l4 ?c4 ?k4 ?a5 ?l5 ?c5 ?k5 ?a6 ?l6 ?c6 ?k6 ?a7 ?l7 ?c7 ?k7 ?a8 ?l8 ?c8 ?k8 ?a9 ?l9 ?c9 ?k9 ?a10 ?l10 ?c10 ?k10 ?a11 ?l11 ?c11 ?k11 ?a12 ?l12 ?c12 ?k12 ?v0 ?z0 ?z1 ?z2 ?z3 ?z4 ?z5 ?z6 ?z7 ?z8 ?z9) hmg
    case a0 => k_is
    case l0 => k_is
    case c0 => k_is
    case k0 => k_is
    case a1 => k_is
    case l1 => k_is
    case c1 => k_is
    case k1 => k_is
    case a2 => k_is
    case l2 => k_is
    case c2 => k_is
    case k2 => k_is
    case a3 => k_is
    case l3 => k_is
    case c3 => k_is
    case k3 => k_is
    case a4 => k_is
    case l4 => k_is
    case c4 => k_is
    case k4 => k_is
    case a5 => k_is
    case l5 => k_is
    case c5 => k_is
    case k5 => k_is
    case a6 => k_is
    case l6 => k_is
    case c6 => k_is
    case k6 => k_is
    case a7 => k_is
    case l7 => k_is
    case c7 => k_is
    case k7 => k_is
    case a8 => k_is
    case l8 => k_is
    case c8 => k_is
    case k8 => k_is
    case a9 => k_is
    case l9 => k_is
    case c9 => k_is
    case k9 => k_is
    case a10 => k_is
    case l10 => k_is
    case c10 => k_is
    case k10 => k_is
    case a11 => k_is
    case l11 => k_is
    case c11 => k_is
    case k11 => k_is
    case a12 => k_is
    case l12 => k_is
    case c12 => k_is
    case k12 => k_is
    case v0 => k_is
    case z0 => k_is
    case z1 => k_is
    case z2 => k_is
    case z3 => k_is
    case z4 => k_is
    case z5 => k_is
    case z6 => k_is
    case z7 => k_is
    case z8 => k_is
    case z9 => k_is
#print axioms PySem.Challenge.cw_thermogames_k83_whole_maps_of_graphs_holds

