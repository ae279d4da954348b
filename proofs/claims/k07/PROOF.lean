import PyProof.Rows.All
import Wide.All
import OpenK.AllK
import Wide.FinOn
import HandS.ForMost
import HandS.IsInst
import HandS.SortInts
import HandS.Style
import HandS.Evl
import HandS.More
import HandS.Zip
import PyProof.Draws
import PyProof.EnumMake
import HandS.TupAny
import HandS.SetFor
import HandS.Strs
import HandS.TupSets
import HandS.Deep
import HandS.Star
import HandS.Lambda
import KE.KDflt
import HandS.ExcOwn
import HandS.ExcIs
import KE.KNestM
import HandS.ExcInit
import HandS.ExcField
import KE.KExcIs
import KE.KDictKeyed
import HandS.Flow
import HandS.SetBool
import HandS.Conv
import KE.GoesMore
import HandS.Gcd
import HandS.Text
import KE.KDictDisplayH
import HandS.Call
import KE.IntText
import KE.IntTextLaws
import HandS.TupMul
import PyProof.StrOps2
import HandS.EndTab
import PySem.Challenge.RW_thermogames_k07_texts_refused
set_option Elab.async false
set_option linter.all false
set_option maxRecDepth 100000
set_option maxHeartbeats 4000000
namespace TG
open PySem L2
theorem same_new {H : Hp} {p : Addr} (h : H p = none) (o : HO) : Same H (upd H p o) := fun b u q => by rw [upd_ne (ne_of_none q h)]; exact q
section
variable {σ : L2.St} {H : Hp} {D : Ends} {te ta tb : TE} {r : R2} {Q : VK} {g : TG} {t u : TS} {tt : TT} {ts : TA}
end
section
variable {X : Cx} {K : PySem.W.Frag}
theorem op_in_seqK (hK : X.K = K) : OpR X (compareOp .In) (rIn K false) := by subst hK; exact op_in_seq
theorem op_notIn_seqK (hK : X.K = K) : OpR X (compareOp .NotIn) (rIn K true) := by subst hK; exact op_notIn_seq
theorem ix_listK (hK : X.K = K) : IxR X (rIxL K) := by subst hK; exact ix_list
theorem ix_seqK (hK : X.K = K) : IxR X (rIx K) := by subst hK; exact ix_seq
def rLenQ (K : PySem.W.Frag) : List V → Hp → VK → Prop := fun xs H Q => ∃ p ys, xs = [.ref p] ∧ (SqL K H p ys ∨ SqT K H p ys) ∧ Q (.int ys.length) H
theorem call_lenK (hK : X.K = K) : CallR X (.builtin "len") (rLenQ K) := by subst hK; exact call_len_seq
def rTupOf (K : PySem.W.Frag) : List V → Hp → VK → Prop := fun xs H Q => ∃ p ys, xs = [.ref p] ∧ ((SqL K H p ys ∧ ∀ l, H l = none → Q (.ref l) (upd H l (.tup ys))) ∨ (SqT K H p ys ∧ Q (.ref p) H))
theorem call_tuple_ofK (hK : X.K = K) : CallR X (.type "tuple") (rTupOf K) := by subst hK; exact call_tuple_of
theorem op_eqDK (hK : X.K = K) (hu : X.A.units + 64 < cLine) : OpR X (compareOp .Eq) (rEqD K) := by subst hK; exact op_eqD hu
theorem op_neDK (hK : X.K = K) (hu : X.A.units + 64 < cLine) : OpR X (compareOp .NotEq) (rNeD K) := by subst hK; exact op_neD hu
theorem pi_tupK {tg l : Expr} {tl : TE} (hK : X.K = K) (hl : PE X l tl) : PI X tg l (iTup K tl) := by subst hK; exact pi_tup hl
theorem pg_tupK {pos : Pos} {es : List Expr} {k : Nat} {t : TGs} {n : Nat} (hK : X.K = K) (hc : X.calm = true) (h : PGs X es t)
    (hn : (assignEach es X.env).length = n := by rfl) (hst : (assignEach es X.env).findIdx? (·.1) = none := by rfl) : PG X (.Tuple es k pos) (gTup K n t) := by subst hK; exact pg_tup hc h hn hst
theorem pe_bm0K {o : Expr} {to : TE} {name : Str} {apos cpos : Pos} {T id : String} {r : V → List V → Hp → VK → Prop} (hK : X.K = K) (pa : PlainAttrs T) (slot : Slot T name id) (hty : typeOf (.builtin id) = pure (.type "method_descriptor")) (hm : MtR X id r) (ho : PE X o to)
    (hbase : attributeBase o name X.env (eval o X.env) = eval o X.env := by rfl) (hline : (apos.endLine == cpos.line) = true := by rfl) : PE X (.Call (.Attribute o name apos) [] [] cpos) (tBM0 K T r to) := by subst hK; exact pe_bm0 pa slot hty hm ho hbase hline
theorem pe_bmK {o e : Expr} {es : List Expr} {to : TE} {t : TA} {name : Str} {apos cpos : Pos} {T id : String} {r : V → List V → Hp → VK → Prop} (hK : X.K = K) (pa : PlainAttrs T) (slot : Slot T name id) (hty : typeOf (.builtin id) = pure (.type "method_descriptor")) (hm : MtR X id r) (ho : PE X o to) (ha : PA X (e :: es) t)
    (hbase : attributeBase o name X.env (eval o X.env) = eval o X.env := by rfl)
    (hfew : ((backTo cpos (starEach (e :: es) X.env)).all (fun x => !x.1) && (backToKw cpos (keywordEach [] X.env)).all (fun x => x.1.isSome)
      && decide ((e :: es).length + ([] : List Keyword).length + (if ([] : List Keyword).isEmpty then 0 else 1) < 30)) = true := by rfl)
    (hline : (apos.endLine == cpos.line) = true := by rfl) (hs : starEach (e :: es) X.env = (false, eval e X.env) :: starEach es X.env := by rfl) (hplain : (backTo cpos (starEach es X.env)).any (·.1) = false := by rfl) :
    PE X (.Call (.Attribute o name apos) (e :: es) [] cpos) (tBM K T r to t) := by subst hK; exact pe_bm pa slot hty hm ho ha hbase hfew hline hs hplain
end
def sTy : V → Option String
  | .non => some "NoneType"
  | .bl _ => some "bool"
  | .int _ => some "int"
  | .str _ => some "str"
  | _ => none
def hide (H : Hp) (r : Addr) : Hp := fun b => if b = r then none else H b
theorem hide_same {H : Hp} {r : Addr} : Same (hide H r) H := fun b o e => by
  unfold hide at e
  by_cases h : b = r
  · rw [if_pos h] at e
    cases e
  · rw [if_neg h] at e
    exact e
def Off (r : Addr) (H H' : Hp) : Prop := ∀ b o, b ≠ r → H b = some o → H' b = some o
theorem Off.hide {r : Addr} {H H' : Hp} (h : Off r H H') : Same (hide H r) (hide H' r) := fun b o e => by
  unfold TG.hide at e ⊢
  by_cases hb : b = r
  · rw [if_pos hb] at e
    cases e
  · rw [if_neg hb] at e ⊢
    exact h b o hb e
theorem Off.refl {r : Addr} {H : Hp} : Off r H H := fun _ _ _ e => e
theorem Off.trans {r : Addr} {H H1 H2 : Hp} (a : Off r H H1) (b : Off r H1 H2) : Off r H H2 := fun x o hx e => b x o hx (a x o hx e)
theorem Off.upd {r : Addr} {H : Hp} {o : HO} : Off r H (upd H r o) := fun b u hb e => by rw [upd_ne hb]; exact e
theorem Off.of {r : Addr} {H H' : Hp} (h : Same H H') : Off r H H' := fun b u _ e => h b u e
theorem Off.eq {r : Addr} {H H' : Hp} (h : ∀ b, b ≠ r → H' b = H b) : Off r H H' := fun b u hb e => by rw [h b hb]; exact e
def Row (K : PySem.W.Frag) (H : Hp) (r : Addr) : Prop :=
  ∃ (a : Addr) (ns : List Int) (i s t : Int), H r = some (.lst [.ref a, .int i, .int s, .int t]) ∧ SqL K (hide H r) a (ns.map V.int) ∧ ns.length ≤ 63 ∧ 0 ≤ i
theorem Row.more {K : PySem.W.Frag} {H H' : Hp} {r : Addr} (h : Row K H r) (s : Same H H') : Row K H' r := by
  obtain ⟨a, ns, i, z, t, h1, h2, h3, h4⟩ := h
  exact ⟨a, ns, i, z, t, s _ _ h1, (Off.hide (Off.of s)).seq h2, h3, h4⟩
theorem Row.there {K : PySem.W.Frag} {H : Hp} {r : Addr} (h : Row K H r) : ∃ xs, H r = some (.lst xs) := by
  obtain ⟨a, ns, i, z, t, h1, _⟩ := h
  exact ⟨_, h1⟩
theorem Row.off {K : PySem.W.Frag} {H H' : Hp} {r d : Addr} {u : HO} (h : Row K H r) (o : Off d H H') (hd : H d = some u) (hu : (∀ xs, u ≠ .lst xs) ∧ ∀ x y, u ≠ .frz x y) : Row K H' r := by
  obtain ⟨a, ns, i, z, t, h1, h2, h3, h4⟩ := h
  have hrd : r ≠ d := fun e => by
    rw [e, hd] at h1
    exact hu.1 _ (Option.some.inj h1)
  refine ⟨a, ns, i, z, t, o _ _ hrd h1, ?_, h3, h4⟩
  have key : ∀ v, hide H r a = some v → ((∃ xs, v = HO.lst xs) ∨ ∃ x y, v = HO.frz x y) → hide H' r a = some v := fun v e c => by
    have e1 : H a = some v := hide_same a v e
    have had : a ≠ d := fun q => by
      rw [q, hd] at e1
      have e2 := Option.some.inj e1
      rcases c with ⟨xs, c⟩ | ⟨x, y, c⟩
      · exact hu.1 _ (e2.trans c)
      · exact hu.2 _ _ (e2.trans c)
    have har : a ≠ r := fun q => by
      unfold hide at e
      rw [if_pos q] at e
      cases e
    unfold hide
    rw [if_neg har]
    exact o a v had e1
  rcases h2 with (h2 | ⟨x, h2⟩) | h2
  · exact .inl (.inl (key _ h2 (.inl ⟨_, rfl⟩)))
  · exact .inl (.inr ⟨x, key _ h2 (.inr ⟨_, _, rfl⟩)⟩)
  · exact .inr h2
theorem mul_small {i : Int} : CMul i 48271 := .inr ⟨by decide, by decide⟩
theorem nodup_le {α : Type} [DecidableEq α] : ∀ {l m : List α}, l.Nodup → (∀ x ∈ l, x ∈ m) → l.length ≤ m.length
  | [], _, _, _ => Nat.zero_le _
  | x :: r, m, hn, hs => by
    have hx : x ∈ m := hs x List.mem_cons_self
    have hr := List.nodup_cons.mp hn
    have ih := nodup_le (l := r) (m := m.erase x) hr.2 fun y hy => by
      have hne : y ≠ x := fun e => hr.1 (e ▸ hy)
      exact (List.mem_erase_of_ne hne).mpr (hs y (List.mem_cons_of_mem _ hy))
    have hp : 0 < m.length := List.length_pos_of_mem hx
    rw [List.length_erase_of_mem hx] at ih
    rw [List.length_cons]
    omega
end TG


set_option Elab.async false
set_option linter.all false
set_option maxRecDepth 100000
set_option maxHeartbeats 4000000
namespace TG
open PySem PySem.Spec PyProof.Rows L2
open PySem.AutoSeq1 (wpAny_loadPart')
section
variable {prog : Program} {w : World} {A : Around} {E : Value → Shared → Prop} {s : Shared}
end
end TG


set_option Elab.async false
set_option linter.all false
set_option maxRecDepth 100000
set_option maxHeartbeats 4000000
namespace TG
open PySem L2
section
variable {σ : L2.St} {H : Hp} {D : Ends} {te : TE} {tt tu : TT} {Q : Bool → Hp → Prop}
end
section
variable {X : Cx} {K : PySem.W.Frag}
def TyN (K : PySem.W.Frag) (H : Hp) (x : V) (t : String) : Prop :=
  sTy x = some t ∨ (t = "tuple" ∧ ∃ a ys, x = .ref a ∧ SqT K H a ys) ∨ (t = "list" ∧ ∃ a ys, x = .ref a ∧ H a = some (.lst ys)) ∨ (t = "dict" ∧ ∃ a kvs, x = .ref a ∧ H a = some (.dK kvs))
theorem TyN.x {H : Hp} {x : V} {t : String} (h : TyN K H x t) : TyX K H x (.type t) := by
  rcases h with h | ⟨rfl, a, ys, rfl, (h | ⟨o, h⟩) | ⟨o, its, n, h, hc, _⟩⟩ | ⟨rfl, a, ys, rfl, h⟩ | ⟨rfl, a, kvs, rfl, h⟩
  · cases x with
    | non => cases h; exact .base .non
    | bl b => cases h; exact .base (.bl b)
    | int i => cases h; exact .base (.int i)
    | str z => cases h; exact .base (.str z)
    | _ => cases h
  · exact .base (.tup h)
  · exact .fTuple h
  · exact .kTuple h hc
  · exact .base (.lst h)
  · exact .base (.dK h)
end
theorem TyN.int {K : PySem.W.Frag} {H : Hp} {n : Int} : TyN K H (.int n) "int" := .inl rfl
theorem TyN.bl {K : PySem.W.Frag} {H : Hp} {b : Bool} : TyN K H (.bl b) "bool" := .inl rfl
theorem TyN.tup {K : PySem.W.Frag} {H : Hp} {a : Addr} {ys : List V} (h : SqT K H a ys) : TyN K H (.ref a) "tuple" := .inr (.inl ⟨rfl, a, ys, rfl, h⟩)
theorem sqT {K : PySem.W.Frag} {H H' : Hp} {a : Addr} {xs : List V} (e : Same H H') (h : SqT K H a xs) : SqT K H' a xs := Evl.ex_t e h
theorem sqL {K : PySem.W.Frag} {H H' : Hp} {a : Addr} {xs : List V} (e : Same H H') (h : SqL K H a xs) : SqL K H' a xs := Evl.ex_l e h
def RowA (K : PySem.W.Frag) (a : Addr) (ns : List Int) (H : Hp) (r : Addr) : Prop :=
  ∃ (i s t : Int), H r = some (.lst [.ref a, .int i, .int s, .int t]) ∧ SqL K (hide H r) a (ns.map V.int) ∧ ns.length ≤ 63 ∧ 0 ≤ i
section
variable {K : PySem.W.Frag} {a : Addr} {ns : List Int} {H H' : Hp} {r D : Addr}
theorem RowA.more (h : RowA K a ns H r) (s : Same H H') : RowA K a ns H' r := by
  obtain ⟨i, z, t, h1, h2, h3, h4⟩ := h
  exact ⟨i, z, t, s _ _ h1, (Off.hide (Off.of s)).seq h2, h3, h4⟩
theorem RowA.there (h : RowA K a ns H r) : ∃ xs, H r = some (.lst xs) := by
  obtain ⟨i, z, t, h1, _⟩ := h
  exact ⟨_, h1⟩
def Safe (K : PySem.W.Frag) (a : Addr) (ns : List Int) (D : Addr) : Prop := a ≠ D ∨ ∀ H, SqL K H a (ns.map V.int)
theorem RowA.off (h : RowA K a ns H r) (hr : r ≠ D) (hs : Safe K a ns D) (o : Off D H H') : RowA K a ns H' r := by
  obtain ⟨i, z, t, h1, h2, h3, h4⟩ := h
  refine ⟨i, z, t, o _ _ hr h1, ?_, h3, h4⟩
  rcases hs with hs | hs
  · have key : ∀ v, hide H r a = some v → hide H' r a = some v := fun v e => by
      unfold hide at e ⊢
      by_cases har : a = r
      · rw [if_pos har] at e
        cases e
      · rw [if_neg har] at e ⊢
        exact o a v hs e
    rcases h2 with (h2 | ⟨x, h2⟩) | h2
    · exact .inl (.inl (key _ h2))
    · exact .inl (.inr ⟨x, key _ h2⟩)
    · exact .inr h2
  · exact hs _
theorem RowA.upd {o : HO} (h : RowA K a ns H r) (hr : r ≠ D) (hs : Safe K a ns D) : RowA K a ns (upd H D o) r := h.off hr hs Off.upd
end
theorem val_none {κ : Type} [DecidableEq κ] {kvs : List (κ × V)} {k : κ} (h : valV kvs k = none) : k ∉ kvs.map (·.1) := by
  intro q
  obtain ⟨p, hp, e⟩ := List.mem_map.mp q
  unfold valV at h
  rw [Option.map_eq_none_iff, List.find?_eq_none] at h
  exact h p hp (decide_eq_true e)
theorem val_some {κ : Type} [DecidableEq κ] {kvs : List (κ × V)} {k : κ} : (valV kvs k).isSome = decide (k ∈ kvs.map (·.1)) := by
  cases e : valV kvs k with
  | none => rw [decide_eq_false (val_none e)]; rfl
  | some v =>
    have : k ∈ kvs.map (·.1) := by
      unfold valV at e
      cases e2 : kvs.find? (fun kv => decide (kv.1 = k)) with
      | none => rw [e2] at e; cases e
      | some p =>
        have h1 := List.mem_of_find?_eq_some e2
        have h2 : p.1 = k := by have := List.find?_some e2; simpa using this
        exact List.mem_map.mpr ⟨p, h1, h2⟩
    rw [decide_eq_true this]
    rfl
structure Keys (ks : List (Key × V)) (xs : List Int) : Prop where
  ex : ∃ ns : List Int, ks.map (·.1) = ns.map Sum.inl ∧ ns.Nodup ∧ ∀ t, t ∈ ns ↔ t ∈ xs
theorem Keys.nil : Keys [] [] := ⟨[], rfl, List.nodup_nil, fun t => Iff.rfl⟩
theorem Keys.has {ks : List (Key × V)} {xs : List Int} (h : Keys ks xs) (t : Int) : (valV ks (Sum.inl t)).isSome = decide (t ∈ xs) := by
  obtain ⟨ns, e, _, hm⟩ := h.ex
  rw [val_some, e]
  have : (Sum.inl t : Key) ∈ ns.map Sum.inl ↔ t ∈ xs := by
    rw [← hm t]
    constructor
    · intro q
      obtain ⟨y, hy, ey⟩ := List.mem_map.mp q
      rw [← Sum.inl.inj ey]
      exact hy
    · intro q
      exact List.mem_map.mpr ⟨t, q, rfl⟩
  exact decide_eq_decide.mpr this
theorem Keys.len {ks : List (Key × V)} {xs : List Int} (h : Keys ks xs) : ks.length ≤ xs.length := by
  obtain ⟨ns, e, nd, hm⟩ := h.ex
  have h1 := nodup_le (m := xs) nd fun x hx => (hm x).mp hx
  have h2 := congrArg List.length e
  rw [List.length_map, List.length_map] at h2
  omega
end TG


set_option Elab.async false
set_option linter.all false
set_option maxRecDepth 100000
set_option maxHeartbeats 4000000
namespace TG
open PySem PySem.Spec PyProof.Rows L2
abbrev s0 (w : World) : Obj := { cls := .type "set", dict := none, data := .set #[] 0 (.fresh 0 0 (!w.params.followText "set-order")) }
section
variable {P : Program} {w : World} {A : Around} {E : Value → Shared → Prop} {s : Shared}
end
end TG


set_option Elab.async false
set_option linter.all false
set_option maxRecDepth 100000
set_option maxHeartbeats 4000000
namespace TG
open PySem L2
abbrev N (n : Nat) : V := .int (n : Int)
def KpT (H H' : Hp) : Prop := ∀ (K : PySem.W.Frag) (a : Addr) (xs : List V), SqT K H a xs → SqT K H' a xs
theorem KpT.refl {H : Hp} : KpT H H := fun _ _ _ h => h
theorem KpT.trans {H H1 H2 : Hp} (a : KpT H H1) (b : KpT H1 H2) : KpT H H2 := fun K p xs h => b K p xs (a K p xs h)
theorem KpT.same {H H' : Hp} (s : Same H H') : KpT H H' := fun _ _ _ h => sqT s h
theorem KpT.new {H : Hp} {p : Addr} {o : HO} (h : H p = none) : KpT H (upd H p o) := .same (same_new h o)
theorem KpT.off {H H' : Hp} {r : Addr} {ys : List V} (hr : H r = some (.lst ys)) (o : Off r H H') : KpT H H' := fun K p xs h => by
  have key : ∀ u, H p = some u → (∀ zs, u ≠ .lst zs) → H' p = some u := fun u e hu => o p u (fun c => by rw [c, hr] at e; exact hu _ (Option.some.inj e).symm) e
  rcases h with (h | ⟨x, h⟩) | h
  · exact .inl (.inl (key _ h (fun _ z => by cases z)))
  · exact .inl (.inr ⟨x, key _ h (fun _ z => by cases z)⟩)
  · exact .inr h
theorem KpT.upd {H : Hp} {r : Addr} {ys : List V} {o : HO} (hr : H r = some (.lst ys)) : KpT H (upd H r o) := .off hr Off.upd
theorem KpT.row {K : PySem.W.Frag} {a : Addr} {ns : List Int} {H H' : Hp} {r : Addr} (hR : RowA K a ns H r) (ho : ∀ b, b ≠ r → H' b = H b) : KpT H H' := by
  obtain ⟨xs, hx⟩ := hR.there
  exact .off hx (.eq ho)
section
variable {K : PySem.W.Frag} {H H' : Hp}
theorem dp_tup {v : V} {ds : List PyData} (h : Dp K H v (.tuple ds)) : ∃ a xs, v = .ref a ∧ SqT K H a xs ∧ DpAll K H xs ds := by
  cases h with
  | tup hs ha => exact ⟨_, _, rfl, hs, ha⟩
theorem dps_len : ∀ {ds : List PyData} {xs : List V}, DpAll K H xs ds → xs.length = ds.length
  | [], _, h => by cases h; rfl
  | d :: ds, _, h => by
    cases h with
    | cons h1 h2 => simp [dps_len h2]
theorem dps_get : ∀ {ds : List PyData} {xs : List V}, DpAll K H xs ds → ∀ (i : Nat) (d : PyData), ds[i]? = some d → ∃ x, xs[i]? = some x ∧ Dp K H x d
  | [], _, _, i, d, h => by cases h
  | _ :: ds, _, .cons h1 h2, 0, d, h => by
    cases h
    exact ⟨_, rfl, h1⟩
  | _ :: ds, _, .cons h1 h2, i + 1, d, h => by
    obtain ⟨x, hx, h'⟩ := dps_get h2 i d (by simpa using h)
    exact ⟨x, by simpa using hx, h'⟩
theorem dps_set : ∀ {ds : List PyData} {xs : List V} {d : PyData} {x : V} (i : Nat), DpAll K H xs ds → Dp K H x d → DpAll K H (xs.set i x) (ds.set i d)
  | [], _, d, x, i, .nil, h => .nil
  | _ :: ds, _, d, x, 0, .cons h1 h2, h => .cons h h2
  | _ :: ds, _, d, x, i + 1, .cons h1 h2, h => .cons h1 (dps_set i h2 h)
theorem dps_app : ∀ {ds es : List PyData} {xs ys : List V}, DpAll K H xs ds → DpAll K H ys es → DpAll K H (xs ++ ys) (ds ++ es)
  | [], _, _, _, .nil, h => h
  | _ :: ds, _, _, _, .cons h1 h2, h => .cons h1 (dps_app h2 h)
theorem dps_take : ∀ {ds : List PyData} {xs : List V} (k : Nat), DpAll K H xs ds → DpAll K H (xs.take k) (ds.take k)
  | [], _, k, .nil => by simp; exact .nil
  | _ :: ds, _, 0, .cons h1 h2 => .nil
  | _ :: ds, _, k + 1, .cons h1 h2 => .cons h1 (dps_take k h2)
theorem dps_snoc : ∀ {ds : List PyData} {xs : List V} {d : PyData} {x : V}, DpAll K H xs ds → Dp K H x d → DpAll K H (xs ++ [x]) (ds ++ [d])
  | [], _, d, x, .nil, h => .cons h .nil
  | _ :: ds, _, d, x, .cons h1 h2, h => .cons h1 (dps_snoc h2 h)
end
section
variable {X : Cx} {K : PySem.W.Frag} {w : World}
end
section
variable {K : PySem.W.Frag} {H : Hp} {Q : VK}
end
section
variable {K : PySem.W.Frag} {H H' : Hp}
end
theorem lay_all : ∀ ds : List PyData, (∀ d ∈ ds, PyData.canLay0 d = true) → PyData.canLayAll0 ds = true
  | [], _ => by rw [PyData.canLayAll0]
  | d :: ds, h => by rw [PyData.canLayAll0, h d List.mem_cons_self, lay_all ds fun x hx => h x (List.mem_cons_of_mem _ hx)]; rfl
theorem depth_all {m : Nat} : ∀ ds : List PyData, (∀ d ∈ ds, PyData.depth d ≤ m) → PyData.depthAll ds ≤ m
  | [], _ => by rw [PyData.depthAll]; exact Nat.zero_le _
  | d :: ds, h => by
    rw [PyData.depthAll]
    exact Nat.max_le.mpr ⟨h d List.mem_cons_self, depth_all ds fun x hx => h x (List.mem_cons_of_mem _ hx)⟩
def Small (m : Nat) (d : PyData) : Prop := PyData.canLay0 d = true ∧ PyData.depth d ≤ m
theorem Small.tuple {m : Nat} {ds : List PyData} (h : ∀ d ∈ ds, Small m d) : Small (m + 1) (.tuple ds) := by
  refine ⟨?_, ?_⟩
  · rw [PyData.canLay0]
    exact lay_all ds fun d hd => (h d hd).1
  · rw [PyData.depth]
    have := depth_all (m := m) ds fun d hd => (h d hd).2
    omega
theorem Small.list {m : Nat} {ds : List PyData} (h : ∀ d ∈ ds, Small m d) : Small (m + 1) (.list ds) := by
  refine ⟨?_, ?_⟩
  · rw [PyData.canLay0]
    exact lay_all ds fun d hd => (h d hd).1
  · rw [PyData.depth]
    have := depth_all (m := m) ds fun d hd => (h d hd).2
    omega
theorem Small.int {m : Nat} (i : Int) : Small m (.int i) := ⟨by rw [PyData.canLay0], by rw [PyData.depth]; exact Nat.zero_le _⟩
theorem Small.ok {m : Nat} {d : PyData} (h : Small m d) (hm : m ≤ 64) : SeqAt.shaped d = true := by
  unfold SeqAt.shaped
  rw [h.1, decide_eq_true (Nat.le_trans h.2 hm)]
  rfl
end TG


set_option Elab.async false
set_option linter.all false
namespace TG
open PySem L2
theorem kt_tup {K : PySem.W.Frag} {H : Hp} {a : Addr} {od : Option Addr} {its : Array Value} {n : Nat} {sl : Array (Option Value)} {xs : List V} {ds : List PyData} (q : K.lookup a = some ⟨.type "tuple", od, .seq its n, sl⟩) (hv : Vals xs its.toList) (hd : DpAll K H xs ds) (hz : its.size ≤ 100000 := by simp) : Dp K H (.ref a) (.tuple ds) :=
  .tup (.inr ⟨_, its, n, q, rfl, rfl, Evl.sz_of hz, hv⟩) hd
end TG


set_option Elab.async false
set_option linter.all false
set_option maxRecDepth 100000
set_option maxHeartbeats 4000000
namespace LamY
open PySem PySem.Spec PyProof.Rows L2 LamX
def LamTo (P : Addr) (q : Str) (H H1 : Hp) : Prop := TabS H1 P q ∧ (H1 = H ∨ ∃ (ps qs : Array Value) (d : Addr), H P = some (.tbl ps) ∧ H d = none ∧ d ≠ P ∧ H1 = upd (upd H P (.tbl qs)) d (CodeO d q) ∧ TriplesOk qs.toList ∧ ∀ pos cv, codeAmong pos qs.toList = some cv → codeAmong pos ps.toList = some cv ∨ cv = .ref d)
abbrev lamOb (q : Str) (params : Arguments) (body : Expr) (scope : Scope) (cl : List (Str × Addr)) (dV doc pm : Value) (d : Addr) (ct : Value) : Obj := PySem.W.kdv_obj "<lambda>" q params (.expr body) scope cl dV doc pm d ct
section
variable {X : Cx} {pins : List (Addr × Obj)} {σ : L2.St} {H : Hp} {s : Shared}
theorem stk_new (J : Inv X pins σ H s) {f : Addr} (hf : s.heap.objs.size ≤ f) : f ∉ frs X.stack := fun z => by
  cases List.mem_cons.mp (J.stkSub _ z) with
  | inl e =>
    have h1 : X.env.locals < s.heap.objs.size := J.lt
    rw [← e] at h1
    exact Nat.not_lt.mpr hf h1
  | inr e => exact absurd e (J.nofs hf)
theorem lam_tail {c P : Addr} {params : Arguments} {body : Expr} {scope : Scope} {pos : Pos} {q : Str} {dV : Value} {E : Value → Shared → Prop} {Q : Value → Shared → Prop}
    (J : Inv X pins σ H s) (B : TabB X.base X.mg c P) (hcd : X.env.code = .ref c) (hT : TabS H P q) (hfr : ∀ y ∈ scope.names, y.2 = .free → ∃ a, X.env.cells.lookup y.1 = some a)
    (k : ∀ (f d : Addr) (doc pm ct : Value) (H1 : Hp) (z : Shared), Inv X pins σ H1 z → LamTo P q H H1 → (∀ b o, b ≠ P → s.heap.get? b = some o → z.heap.get? b = some o) → (∀ b, b < s.heap.objs.size → b ≠ P → H1 b = H b) →
      z.heap.get? f = some (lamOb q params body scope (cloFrom X.env.cells scope.names []) dV doc pm d ct) → H1 f = none → f ∉ frs X.stack → H1 d = some (CodeO d q) → Q (.ref f) z) :
    wpAny (model X.prog X.w) X.A (makeTail "<lambda>" q params (.expr body) scope X.env dV .none none pos pos.line) Q E s := by
  obtain ⟨qs, hP, htr, hall⟩ := hT
  have hb : s.heap.BuiltinsAt X.mg P := B.bm.keeps J.bk
  have hPo : s.heap.get? P = some { cls := .none, data := .fields qs } := J.hok P _ hP
  have hPs : P < s.heap.objs.size := Heap.lt_size hPo
  cases hc : codeAmong pos qs.toList with
  | some cv =>
    obtain ⟨d, rfl, hd⟩ := hall pos cv hc
    refine PySem.W.kdv_makeTailHit (mg := X.mg) (c := c) (P := P) (ps := qs) (closure_ok hfr) J.ok.glob (J.mod.glob.keeps J.bk) hcd (B.code.keeps J.bk) hPo htr hc hb fun ct doc h' tk old hsz => ?_
    have J1 : Inv X pins σ H { s with heap := h'.push (lamOb q params body scope (cloFrom X.env.cells scope.names []) dV doc ((X.mg "__name__").getD .none) d ct), toks := tk } := J.kept fun b o e => Heap.get?_push_of_some _ (old b o e)
    exact k _ d doc _ ct H _ J1 ⟨⟨qs, hP, htr, hall⟩, .inl rfl⟩ (fun b o _ e => Heap.get?_push_of_some _ (old b o e)) (fun _ _ _ => rfl) (Heap.get?_push_size _ rfl) (J.hok.fresh hsz) (stk_new J hsz) hd
  | none =>
    refine PySem.W.kdv_makeTail (mg := X.mg) (c := c) (P := P) (ps := qs) (closure_ok hfr) J.ok.glob (J.mod.glob.keeps J.bk) hcd (B.code.keeps J.bk) hPo htr hc B.gP hb fun d ct doc h' tk hx hge hlt hrec htb => ?_
    obtain ⟨d', oc, us, t, ed, hoc, hdat, hu⟩ := hrec
    cases ed
    have hd : H d = none := J.hok.fresh hge
    have hdP : d ≠ P := Nat.ne_of_gt (Nat.lt_of_lt_of_le hPs hge)
    have J1 := inv_table (t' := tk) (more := #[rawInt pos.line, rawInt pos.col, .ref d]) (h' := h'.push (lamOb q params body scope (cloFrom X.env.cells scope.names []) dV doc ((X.mg "__name__").getD .none) d ct)) J hP
      (fun b o hn e => Heap.get?_push_of_some _ (hx b o hn e)) (Heap.get?_push_of_some _ htb) hge ⟨oc, us, t, Heap.get?_push_of_some _ hoc, hdat, hu⟩
    have hsz : s.heap.objs.size ≤ h'.objs.size := by omega
    have eT : (qs ++ #[rawInt pos.line, rawInt pos.col, Value.ref d]).toList = qs.toList ++ [rawInt pos.line, rawInt pos.col, .ref d] := by simp
    have keep : ∀ b, b ≠ P → H b ≠ none → upd (upd H P (.tbl (qs ++ #[rawInt pos.line, rawInt pos.col, .ref d]))) d (CodeO d q) b = H b := fun b h1 h2 => by
      have h3 : b ≠ d := fun z => h2 (z ▸ hd)
      rw [upd_ne h3, upd_ne h1]
    have new : ∀ b, s.heap.objs.size ≤ b → b ≠ d → upd (upd H P (.tbl (qs ++ #[rawInt pos.line, rawInt pos.col, .ref d]))) d (CodeO d q) b = none := fun b h1 h2 => by
      have h3 : b ≠ P := Nat.ne_of_gt (Nat.lt_of_lt_of_le hPs h1)
      rw [upd_ne h2, upd_ne h3]
      exact J.hok.fresh h1
    have old : ∀ b, b < s.heap.objs.size → b ≠ P → upd (upd H P (.tbl (qs ++ #[rawInt pos.line, rawInt pos.col, .ref d]))) d (CodeO d q) b = H b := fun b h1 h2 => by
      have h3 : b ≠ d := Nat.ne_of_lt (Nat.lt_of_lt_of_le h1 hge)
      rw [upd_ne h3, upd_ne h2]
    refine k h'.objs.size d doc _ ct _ _ J1 ⟨⟨_, by rw [upd_ne (Ne.symm hdP), upd_same], by rw [eT]; exact PySem.TriplesOk_snoc _ _ _ _ htr, fun p' cv hcv => ?_⟩, .inr ⟨_, _, d, hP, hd, hdP, rfl, by rw [eT]; exact PySem.TriplesOk_snoc _ _ _ _ htr, fun p' cv hcv => among_app _ htr (by rw [← eT]; exact hcv)⟩⟩ (fun b o hn e => Heap.get?_push_of_some _ (hx b o hn e)) old
      (Heap.get?_push_size _ rfl) (new _ hsz (Nat.ne_of_gt hlt)) (stk_new J hsz) upd_same
    rw [eT] at hcv
    rcases among_app _ htr hcv with z | z
    · obtain ⟨a, e1, e2⟩ := hall p' cv z
      refine ⟨a, e1, ?_⟩
      have hn : a ≠ P := fun w => by
        rw [w, hP] at e2
        exact absurd (Option.some.inj e2).symm (codeO_ne qs)
      rw [keep a hn (by rw [e2]; exact Option.some_ne_none _)]
      exact e2
    · exact ⟨d, z, upd_same⟩
def DvAt (l : List Env) (H1 : Hp) (h : Heap) (dV : Value) (is : List Int) : Prop :=
  (is = [] ∧ dV = .none) ∨ is ≠ [] ∧ ∃ (t : Addr) (us : List Value), dV = .ref t ∧ h.get? t = some (PySem.W.kdv_tup us) ∧ Vals (is.map V.int) us ∧ H1 t = none ∧ t ∉ frs l
inductive DefW : Arguments → List Int → Prop
  | no {ps : Arguments} : ps.defaults = [] → ps.kw_defaults = [] → DefW ps []
  | one {ps : Arguments} {z : Int} {j : Nat} {p : Pos} : ps.defaults = [.Constant (.int z) j p] → ps.kw_defaults = [] → DefW ps [z]
theorem lam_make {c P : Addr} {params : Arguments} {body : Expr} {scope : Scope} {pos : Pos} {q : Str} {is : List Int} {E : Value → Shared → Prop} {Q : Value → Shared → Prop}
    (J : Inv X pins σ H s) (B : TabB X.base X.mg c P) (hcd : X.env.code = .ref c) (hq : q = X.env.qual ++ "<lambda>") (hT : TabS H P q) (hw : DefW params is) (hfr : ∀ y ∈ scope.names, y.2 = .free → ∃ a, X.env.cells.lookup y.1 = some a)
    (k : ∀ (f d : Addr) (dV doc pm ct : Value) (H1 : Hp) (z : Shared), Inv X pins σ H1 z → LamTo P q H H1 → DvAt X.stack H1 z.heap dV is →
      z.heap.get? f = some (lamOb q params body scope (cloFrom X.env.cells scope.names []) dV doc pm d ct) → H1 f = none → f ∉ frs X.stack → H1 d = some (CodeO d q) → Q (.ref f) z) :
    wpAny (model X.prog X.w) X.A (eval (.Lambda params body scope pos) X.env) Q E s := by
  subst hq
  cases hw with
  | no h1 h2 =>
    have hd : defaultsOf params X.env = ([], []) := by
      obtain ⟨a1, a2, a3, a4, a5, a6, a7⟩ := params
      cases h1
      cases h2
      rfl
    refine PySem.W.kla_eval hd ?_
    rw [makeFunction_eq]
    simp only [List.zip_nil_right, List.filterMap_nil, List.isEmpty_nil, if_true, pure_bind]
    exact lam_tail J B hcd hT hfr fun f d doc pm ct H1 z a1 a2 _ _ a4 a5 a6 a7 => k f d _ doc pm ct H1 z a1 a2 (.inl ⟨rfl, rfl⟩) a4 a5 a6 a7
  | @one z j p h1 h2 =>
    refine PySem.W.kdv_lam (by rw [h1]; rfl) h2 ?_
    rw [h1]
    refine PySem.W.kdv_all1 (wpAny_Constant_int (PySem.W.kdv_all0 ?_))
    rw [makeFunction_eq]
    simp only [List.zip_nil_right, List.filterMap_nil, List.isEmpty_nil, if_true, pure_bind, List.isEmpty_cons, Bool.false_eq_true, if_false]
    refine wpAny_bind (wpAny_newTextTuple ?_)
    have J1 : Inv X pins σ H { s with heap := s.heap.push (PySem.W.kdv_tup [.int z s.toks]), toks := s.toks + 1 } := J.kept fun b o e => Heap.get?_push_of_some _ e
    refine lam_tail J1 B hcd hT hfr fun f d doc pm ct H1 z1 a1 a2 a3 an a4 a5 a6 a7 => ?_
    obtain ⟨qs, hP, _, _⟩ := hT
    have hPs : P < s.heap.objs.size := Heap.lt_size (J.hok P _ hP)
    have tn : s.heap.objs.size ≠ P := Nat.ne_of_gt hPs
    have tH : H s.heap.objs.size = none := J.hok.fresh (Nat.le_refl _)
    have g0 : (s.heap.push (PySem.W.kdv_tup [.int z s.toks])).get? s.heap.objs.size = some (PySem.W.kdv_tup [.int z s.toks]) := Heap.get?_push_size _ rfl
    have tH1 : H1 s.heap.objs.size = none := (an _ (by rw [Heap.size_push]; exact Nat.lt_succ_self _) tn).trans tH
    exact k f d (.ref s.heap.objs.size) doc pm ct H1 z1 a1 a2 (.inr ⟨by simp, _, _, rfl, a3 _ _ tn g0, .cons ⟨_, rfl⟩ .nil, tH1, stk_new J (Nat.le_refl _)⟩) a4 a5 a6 a7
end
structure LamN (sc scope : Scope) (N : List Str) : Prop where
  kind : scope.kind = .function
  co : scope.isCoroutine = false
  gen : scope.isGenerator = false
  cell : ∀ y ∈ scope.names, y.2 ≠ .cell
  own : ∀ y ∈ scope.names, y.2 = .local → y.1 ∉ N
  free : ∀ y ∈ scope.names, y.2 = .free → sc.names.lookup y.1 = some .cell ∨ sc.names.lookup y.1 = some .free
def lamNB (sc scope : Scope) (N : List Str) : Bool :=
  decide (scope.kind = .function) && !scope.isCoroutine && !scope.isGenerator && scope.names.all fun y => !decide (y.2 = .cell) && (!decide (y.2 = .local) || !decide (y.1 ∈ N)) && (!decide (y.2 = .free) || (decide (sc.names.lookup y.1 = some .cell) || decide (sc.names.lookup y.1 = some .free)))
theorem lamN_by {sc scope : Scope} {N : List Str} (h : lamNB sc scope N = true) : LamN sc scope N := by
  unfold lamNB at h
  rw [Bool.and_eq_true, Bool.and_eq_true, Bool.and_eq_true] at h
  obtain ⟨⟨⟨h1, h2⟩, h3⟩, h4⟩ := h
  have ha : ∀ y ∈ scope.names, (y.2 ≠ .cell ∧ (y.2 ≠ .local ∨ y.1 ∉ N)) ∧ (y.2 ≠ .free ∨ (sc.names.lookup y.1 = some .cell ∨ sc.names.lookup y.1 = some .free)) := fun y hy => by
    have := List.all_eq_true.mp h4 y hy
    simpa using this
  exact { kind := of_decide_eq_true h1, co := by simpa using h2, gen := by simpa using h3, cell := fun y hy => (ha y hy).1.1, own := fun y hy e => (ha y hy).1.2.resolve_left fun n => n e, free := fun y hy e => (ha y hy).2.resolve_left fun n => n e }
section
variable {X : Cx} {pins : List (Addr × Obj)} {σ : L2.St} {H HZ : Hp} {s z : Shared}
theorem LamN.has {scope : Scope} {N : List Str} (L : LamN X.env.scope scope N) (ok : X.Ok) (y : Str × NameKind) (hy : y ∈ scope.names) (e : y.2 = .free) : ∃ c, X.env.cells.lookup y.1 = some c :=
  (L.free y hy e).elim (fun k => ok.has _ (.inl k)) fun k => ok.has _ (.inr k)
theorem lam_start {A : Around} {outer : List Env} {E : XK} {scope : Scope} {f d : Addr} {h₁ : Heap} {tk : Nat} {m : Str → Option Value} (J : Inv X pins σ H s) (L : LamN X.env.scope scope X.N) (e0 : Env0 X.prog X.w X.K X.mg X.base A outer z HZ) (hd : A.handled = none)
    (un : Un (frs X.stack) [] H HZ s.heap z.heap) (hns : h₁.Ns z.heap.objs.size m) (kp : ∀ b o, z.heap.get? b = some o → h₁.get? b = some o) : Inv (lamCx X A outer z HZ E scope f d) [] σ HZ { z with heap := h₁, toks := tk } := by
  have down : ∀ {y c}, (cloFrom X.env.cells scope.names []).lookup y = some c → X.env.cells.lookup y = some c := fun {y c} e => by
    cases cloFrom_mem (PySem.mem_of_lookup e) with
    | inl hm => cases hm
    | inr hm =>
      obtain ⟨h1, h2⟩ := hm
      obtain ⟨c1, hc⟩ := L.has J.ok _ h1 rfl
      have hc' : X.env.cells.lookup y = some c1 := hc
      rw [hc'] at h2
      rw [hc', h2]
      rfl
  have up : ∀ {y}, scope.names.lookup y = some .free → ∃ c, (cloFrom X.env.cells scope.names []).lookup y = some c := fun {y} hl =>
    mem_lookup (cloFrom_has (cells := X.env.cells) (acc := []) (PySem.mem_of_lookup hl))
  have cellK : ∀ {c : Addr} {v : Option Value}, H c = none → s.heap.IsCell c v → h₁.IsCell c v := fun {c v} n w => by
    obtain ⟨o, ho, hdt⟩ := w
    obtain ⟨sl, q⟩ := un.any ho n (fun y => nomatch y)
    exact ⟨_, kp _ _ q, hdt⟩
  have ok : (lamCx X A outer z HZ E scope f d).Ok :=
    { mod := e0.mod, kind := L.kind, glob := rfl, blt := rfl, above := Nat.le_refl _, inj := fun y w c e1 e2 => J.ok.inj y w c (down e1) (down e2)
      has := fun y hy => by
        have hy' : scope.names.lookup y = some .cell ∨ scope.names.lookup y = some .free := hy
        cases hy' with
        | inl k => exact absurd rfl (L.cell _ (PySem.mem_of_lookup k))
        | inr k => exact up k
      cab := fun y c w _ => absurd (show false = true from w) Bool.false_ne_true
      hd := fun _ => hd, frames := Around.frames_deeper e0.frames, stk := .inr ⟨rfl, rfl⟩, exf := fun b w => absurd (show b ∈ ([] : List Addr) from w) List.not_mem_nil, bs := e0.bs, bsz := e0.bsz
      noex := fun b _ _ w => absurd (show b ∈ ([] : List Addr) from w) List.not_mem_nil, exfs := fun b w => absurd (show b ∈ ([] : List Addr) from w) List.not_mem_nil, funs := e0.funs, frf := e0.frf }
  have notLocal : ∀ {i : Nat} {y : Str}, X.N[i]? = some y → scope.names.lookup y ≠ some .local := fun {i y} e1 k => L.own _ (PySem.mem_of_lookup k) rfl (List.mem_of_getElem? e1)
  exact
    { ok := ok, os := rfl, bare := e0.bare, base := Un.kept kp
      loc := ⟨m, hns, fun i y v e1 e2 e3 => by
        have e3' : Vis scope y := e3
        rcases e3' with k | k | k
        · exact absurd k (notLocal e1)
        · exact absurd rfl (L.cell _ (PySem.mem_of_lookup k))
        · obtain ⟨mm, _, hl⟩ := J.loc
          have capt := L.free _ (PySem.mem_of_lookup k) rfl
          obtain ⟨u, r, lk⟩ := hl i y v e1 e2 (capt.elim (fun w => .inr (.inl w)) fun w => .inr (.inr w))
          obtain ⟨c2, h2⟩ := up k
          refine ⟨u, r, .inr ⟨.inr k, c2, h2, ?_⟩⟩
          rcases lk with ⟨kk, _⟩ | ⟨_, c3, ec, isc⟩
          · have kk' : X.env.scope.names.lookup y = some .local := kk
            cases capt with
            | inl w => rw [show X.env.scope.names.lookup y = some .cell from w] at kk'; cases kk'
            | inr w => rw [show X.env.scope.names.lookup y = some .free from w] at kk'; cases kk'
          · have e4 := down h2
            rw [e4] at ec
            cases ec
            exact cellK (J.freeC y _ e4) isc⟩
      cell := fun y c e => (J.cell y c (down e)).elim fun v w => ⟨v, cellK (J.freeC y c (down e)) w⟩
      free := e0.hok.fresh (Nat.le_refl _)
      freeC := fun y c e => by
        obtain ⟨v, o, ho, _⟩ := J.cell y c (down e)
        exact un.free c o ho (J.freeC y c (down e)) (fun w => nomatch w)
      pin := fun q hq => absurd (show q ∈ ([] : List (Addr × Obj)) ++ [] from hq) List.not_mem_nil
      hok := e0.hok.kept kp, len := J.len }
def BindsD (params : Arguments) (body : Expr) (scope : Scope) (is : List Int) : Prop :=
  ∀ (q : Str) (cl : List (Str × Addr)) (doc pm ct dV : Value) (d : Addr) (z : Shared), ((is = [] ∧ dV = .none) ∨ is ≠ [] ∧ ∃ (t : Addr) (us : List Value), dV = .ref t ∧ z.heap.get? t = some (PySem.W.kdv_tup us) ∧ Vals (is.map V.int) us) →
    ∃ bs : List (Str × Value), BindsTo z (PySem.W.kdv_fn "<lambda>" q params (.expr body) scope cl dV doc pm (.ref d) ct) ⟨[], []⟩ bs ∧ ∀ y ∈ bs, scope.names.lookup y.1 = some .local
theorem lam_act {CXg : CXT} {Eg : XK} {Ng : List Str} {qg : Str} {sg : Scope} {g f d : Addr} {cdg dV doc pm ct : Value} {params : Arguments} {body : Expr} {scope : Scope} {k i : Nat} {a q : Str} {is : List Int} {pn : List (Addr × Obj)} {xe : Value → Shared → Prop} {W : WX} {tb : XK → TE} {p1 p2 : Pos}
    (J : Inv X pins σ H s) (L : LamN X.env.scope scope X.N) (hq : q = X.env.qual ++ "<lambda>") (hf : s.heap.get? f = some (lamOb q params body scope (cloFrom X.env.cells scope.names []) dV doc pm d ct)) (hfn : H f = none) (hfr : f ∉ frs X.stack) (hdv : DvAt X.stack H s.heap dV is) (hbind : BindsD params body scope is)
    (tk : Takes ((cxOf CXg X.prog X.w X.K X.mg X.base Ng qg sg g cdg X.A X.stack s H Eg).tr pn xe) W) (hr : Room (k + 1) (X.A.deeper (envOfC qg sg s.heap.objs.size g cdg)))
    (hbody : ∀ (A : Around) (outer : List Env) (s : Shared) (H : Hp) (E : XK), Room k (A.deeper (lamEnv X scope s.heap.objs.size f d)) → PE (lamCx X A outer s H E scope f d) body (tb E))
    (hN : Ng[i]? = some a) (hv : Vis sg a) (hd : (a == ("__debug__" : Str)) = false) (hcd : (a == ("__classdict__" : Str)) = false) :
    PE ((cxOf CXg X.prog X.w X.K X.mg X.base Ng qg sg g cdg X.A X.stack s H Eg).tr pn xe) (.Call (.Name a p1) [] [] p2) (fun σZ HZ Q => σZ[i]? = some (some (.ref f)) ∧ HZ d = some (CodeO d q) ∧ ∃ E : XK, (∀ cls x H', E cls x H' → W cls x σZ H') ∧ tb E σ HZ Q) := by
  subst hq
  refine ⟨fun pinsZ sZ σZ HZ Q IZ hall => ?_⟩
  have hs := hall.1
  have hco := hall.2.1
  obtain ⟨E, hW, htb⟩ := hall.2.2
  refine wpAny_Call_Name_kw (thn ((pe_var (pos := p1) (i := i) hN hv hd hcd).run pinsZ sZ σZ HZ (fun v H1 => v = .ref f ∧ H1 = HZ) IZ ⟨.ref f, hs, rfl, rfl⟩) fun u s1 hu => ?_)
  obtain ⟨v, H1, I1, r1, ev, eH⟩ := hu
  subst ev
  subst eH
  have eu : u = Value.ref f := r1
  subst eu
  have noX : ∀ b : Addr, b ∉ ((cxOf CXg X.prog X.w X.K X.mg X.base Ng qg sg g cdg X.A X.stack s H Eg).tr pn xe).ex := fun b w => absurd (show b ∈ ([] : List Addr) from w) List.not_mem_nil
  have of1 := I1.base.keep f _ hf hfn hfr (noX f)
  have dv1 : (is = [] ∧ dV = .none) ∨ is ≠ [] ∧ ∃ (t : Addr) (us : List Value), dV = .ref t ∧ s1.heap.get? t = some (PySem.W.kdv_tup us) ∧ Vals (is.map V.int) us := by
    rcases hdv with h1 | ⟨h0, t, us, h1, h2, h3, h4, h5⟩
    · exact .inl h1
    · exact .inr ⟨h0, t, us, h1, I1.base.keep t _ h2 h4 h5 (noX t), h3⟩
  obtain ⟨bs, hb1, hb2⟩ := hbind (X.env.qual ++ "<lambda>") (cloFrom X.env.cells scope.names []) doc pm ct dV d s1 dv1
  refine PySem.W.callWith_F0 ⟨_, _, _, _, of1⟩ ?_
  have un : Un (frs X.stack) [] H H1 s.heap s1.heap := I1.base
  obtain ⟨⟨oc, vs, t, hoc, hdc, hvc⟩, _, _⟩ := I1.hok d _ hco
  have rc : codeAny (model X.prog X.w) (X.A.deeper (envOfC qg sg s.heap.objs.size g cdg)) (.call (.ref f) ⟨[], []⟩) (CR (L2.CX X.prog X.w) (envOfC qg sg s.heap.objs.size g cdg :: X.stack) X.prog X.w H1 s1 Q E) s1 := by
    refine PySem.W.kla_callFunE hr.depth of1 rfl L.co L.gen rfl ⟨d, oc, vs, t, rfl, hoc, hdc, hvc⟩ (hb1 _ _ _ _ ?_)
    refine wpAny_newFunctionEnv L.cell hb2 (fun h₁ hns hsb => ⟨I1.nolimit.fresh _ hsb, ?_⟩) L.kind
    have kp : ∀ b o, s1.heap.get? b = some o → h₁.get? b = some o := fun b o e => hsb.extBut b o (Nat.ne_of_lt (Heap.lt_size e)) (Heap.get?_push_of_some _ e)
    have JB := lam_start (tk := s1.toks + bs.length) (E := E) (f := f) (d := d) J L I1.env0 hr.hd un hns kp
    refine PySem.W.kla_codeExpr (wpAny_mono ((hbody _ _ s1 H1 _ (hr.deeper _)).run [] _ _ H1 Q JB htb) (fun v s' hv' => ?_) fun e s' hv' => hv')
    obtain ⟨w', H', J', rv, qq⟩ := hv'
    exact ⟨w', H', J'.os, J'.bare, J'.base, J'.hok, rv, qq⟩
  refine wpAny_call (codeAny_mono rc fun r s' hr' => ?_)
  match r, hr' with
  | .error e, hr' => exact tk e s' (XE.of_call I1 hW hr')
  | .ok (.ret u), hr' => exact I1.after hr'
def GivesD (X : Cx) (Ng : List Str) (x : Str) (sg : Scope) (g : Addr) (cdg : Value) (bg : List Stmt) (a : Str) (q : Str) (TT : (XK → Hp → VK → Prop) → Hp → VK → Prop) : Prop :=
  ∀ (f d : Addr) (s : Shared) (H : Hp) (Q : VK) (tl : XK → Hp → VK → Prop),
    (∀ (W : WX) (pn : List (Addr × Obj)) (xe : Value → Shared → Prop) (p1 p2 : Pos), Takes ((cxOf C8.CX0 X.prog X.w X.K X.mg X.base Ng x sg g cdg X.A X.stack s H C8.E0).tr pn xe) W →
      PE ((cxOf C8.CX0 X.prog X.w X.K X.mg X.base Ng x sg g cdg X.A X.stack s H C8.E0).tr pn xe) (.Call (.Name a p1) [] [] p2) (fun σZ HZ Q => σZ[0]? = some (some (.ref f)) ∧ HZ d = some (CodeO d q) ∧ ∃ E : XK, (∀ cls x H', E cls x H' → W cls x σZ H') ∧ tl E HZ Q)) →
    H d = some (CodeO d q) → TT tl H Q → ∃ t, PSs (cxOf C8.CX0 X.prog X.w X.K X.mg X.base Ng x sg g cdg X.A X.stack s H C8.E0).nox bg t ∧ t { nx := fun _ H' => Q .non H', rt := Q } (L2.start Ng [.ref f]) H
def tLamD (P : Addr) (q : Str) (TT : (XK → Hp → VK → Prop) → Hp → VK → Prop) (t : XK → TE) : TE := fun σ H Q => TabS H P q ∧ ∀ H1, LamTo P q H H1 → TT (fun E H' Q' => t E σ H' Q') H1 Q
end
section
variable {X : Cx}
theorem pe_lamD {P c g : Addr} {q x a : Str} {TT : (XK → Hp → VK → Prop) → Hp → VK → Prop} {k : Nat} {pg : Arguments} {bg : List Stmt} {sg : Scope} {gV kV doc pm cdv ct oc : Value} {an od : Option Addr} {osl : Array (Option Value)} {Ng : List Str}
    {params : Arguments} {body : Expr} {scope : Scope} {is : List Int} {t : XK → TE} {p lpos pos : Pos} (hg : Gl X x) (hm : X.mg x = some (.ref g)) (hk : PySem.W.keepIn X.K (.ref g) = true)
    (lk : X.K.lookup g = some ⟨oc, od, .func (PySem.W.fnOf x x pg bg sg gV kV doc pm an cdv ct), osl⟩) (hcg : PySem.W.codeIn X.K cdv x = true) (hb : L2.Binds X.K (PySem.W.fnOf x x pg bg sg gV kV doc pm an cdv ct) [a] []) (Sg : FnScope Ng [a] sg) (hNg : Ng[0]? = some a) (hva : Vis sg a)
    (hG : GivesD X Ng x sg g cdv bg a q TT) (B : TabB X.base X.mg c P) (hcode : X.env.code = .ref c) (hq : q = X.env.qual ++ "<lambda>") (hr : Room (k + 2) X.A) (L : LamN X.env.scope scope X.N) (hw : DefW params is) (hbind : BindsD params body scope is)
    (hbody : ∀ (A : Around) (outer : List Env) (s : Shared) (H : Hp) (E : XK) (f d : Addr), Room k (A.deeper (lamEnv X scope s.heap.objs.size f d)) → PE (lamCx X A outer s H E scope f d) body (t E))
    (hdb : (x == ("__debug__" : Str)) = false := by decide) (hd : (a == ("__debug__" : Str)) = false := by decide) (hcd : (a == ("__classdict__" : Str)) = false := by decide) :
    PE X (.Call (.Name x p) [.Lambda params body scope lpos] [] pos) (tLamD P q TT t) := by
  refine ⟨fun pins s σ H Q J hall => ?_⟩
  have hT := hall.1
  have hrest := hall.2
  refine wpAny_Call_Name_kw (ld_glob J hg hm ?_ hdb)
  refine PySem.W.callWith_K (h₀ := X.base) J.ok.mod.kin hk ?_ (by rfl) (by rfl)
  refine Calls.spliced_cons (lam_make J B hcode hq hT hw (L.has J.ok) fun f d dV doc' pm' ct' H1 z J1 hto hdv hf hfn hfr hco => ?_)
  refine Calls.spliced_nil ⟨J1.kIn, ?_⟩
  have rc : codeAny (model X.prog X.w) X.A (.call (.ref g) ⟨[.ref f], []⟩) (CR C8.CX0 X.stack X.prog X.w H1 z Q C8.E0) z := by
    refine run_ofS (N := Ng) (ps := [a]) (us := [.ref f]) (vs := [.ref f]) lk hcg Sg hr J1.env0 (hb z [.ref f] J1.kIn rfl) (.cons rfl .nil) rfl fun hr1 => ?_
    obtain ⟨t', ht', hq'⟩ := hG f d z H1 Q (fun E H' Q' => t E σ H' Q') (fun W pn xe p1 p2 tk => lam_act (tb := t) (i := 0) J1 L hq hf hfn hfr hdv hbind tk hr1 (fun A outer s H E hr2 => hbody A outer s H E f d hr2) hNg hva hd hcd) hco (hrest H1 hto)
    exact ⟨t', ht'.nox, hq'⟩
  refine wpAny_call (codeAny_mono rc fun r s2 hr' => ?_)
  match r, hr' with
  | .error e, hr' => exact (show False from hr').elim
  | .ok (.ret u), hr' => exact J1.after hr'
theorem binds_none {body : Expr} {scope : Scope} : BindsD ⟨[], [], none, [], [], none, []⟩ body scope [] := fun q cl doc pm ct dV d z h => by
  rcases h with ⟨_, rfl⟩ | ⟨h0, _⟩
  · exact ⟨[], BindsTo.of_eq rfl, fun y hy => by cases hy⟩
  · exact absurd rfl h0
end
end LamY


set_option Elab.async false
set_option linter.all false
set_option maxRecDepth 100000
set_option maxHeartbeats 4000000
namespace LamY
open PySem PySem.Spec PyProof.Rows L2 LamX
section
variable {X : Cx} {C : Addr} {bmB : List Value} {B newId initId : String}
theorem pmk_ownN {x : Str} {p pos : Pos} (F : ExcBaseFacts B newId initId bmB) (q : PySem.W.excIn X.K C bmB newId = true) (gC : X.mg x = some (.ref C)) (kC : PySem.W.keepIn X.K (.ref C) = true) (r : Raises X (.ref C)) (hg : Gl X x)
    (hdb : (x == ("__debug__" : Str)) = false := by decide) : PMk X (.Call (.Name x p) [] [] pos) (fun _ H Q => Q (.ref C) none H) := fun pins s σ H Q J h => by
  refine wpAny_Call_Name_kw (ld_glob J hg gC (PySem.W.callWith_K0 J.kIn kC ?_) hdb)
  have hx := exc_obj J.kIn q
  obtain ⟨bm, N, nm, qn, bs, hdct, sn, sub, ab, col, dd, z0, z1, z2, z3, z5, mN, hC, hN, hni, T⟩ := hx
  exact wpAny_call_exc_subT F T hC hN hni (fun h' e hm => mk_of J hm r h (J.hok.gone hm.new)) (Nat.zero_le _)
end
section
variable {X : Cx}
def rCountF (K : PySem.W.Frag) : V → List V → Hp → VK → Prop := fun x xs H Q => ∃ (a : Addr) (ys : List V) (y : V), x = V.ref a ∧ xs = [y] ∧ SqL K H a ys ∧ flatV y = true ∧ ys.all flatV = true ∧ Q (.int ((ys.countP fun z => eqV z y : Nat) : Int)) H
theorem count_flat {y : V} : ∀ {ys : List V} {us : List Value}, Vals ys us → ys.all flatV = true → us.countP (eqU y) = ys.countP fun z => eqV z y
  | _, _, .nil, _ => rfl
  | z :: ys, u :: us, .cons r t, f => by
    rw [List.all_cons, Bool.and_eq_true] at f
    have ih := count_flat (y := y) t f.2
    rw [List.countP_cons, List.countP_cons, ih, eqU_of r f.1]
theorem mt_countF : MtR X "list.count" (rCountF X.K) := by
  intro pins s σ H x xs v us Q J rx rxs h
  obtain ⟨a, ys, y, rfl, rfl, hs, fy, fys, q⟩ := h
  cases rx
  match us, rxs with
  | [uy], .cons ry .nil =>
    obtain ⟨its, rv, ⟨⟨cls, dd, data, sl⟩, n, ho, hc, hdn, hd⟩, hlen⟩ := J.list hs
    dsimp only at hc hd
    subst hc hd
    refine call_meets PySem.F.slot_list_count ⟨_, ho, rfl⟩ PySem.F.entry_list_count (PySem.F.args_list_count_2 _ _) (SeqAt.list_countAt a its.toArray n dd sl uy (eqU y)) ⟨ho, fun u hu => mem_eqAt ry fy rv fys u (by simpa using hu), ?_⟩
    have ec : its.toArray.toList.countP (eqU y) = ys.countP fun z => eqV z y := count_flat rv fys
    exact ⟨.int ((ys.countP fun z => eqV z y : Nat) : Int), H, J.tok _, ⟨s.toks, congrArg (fun m : Nat => Value.int (m : Int) s.toks) ec⟩, q⟩
end
theorem mt_countK {X : Cx} {K : PySem.W.Frag} (h : X.K = K) : MtR X "list.count" (rCountF K) := by
  subst h
  exact mt_countF
theorem mt_indexK {X : Cx} {K : PySem.W.Frag} (h : X.K = K) : MtR X "list.index" (rIndex K) := by
  subst h
  exact mt_index
section
variable {X : Cx}
end
inductive NewLs (H : Hp) : Hp → Prop
  | refl : NewLs H H
  | step {H1 : Hp} {p : Addr} {xs : List V} : NewLs H H1 → H1 p = none → NewLs H (upd H1 p (.lst xs))
section
variable {X : Cx} {CX : CXT} {k : Nat} {Cs : List (Addr × Sp)} {E : XK} {x : Str} {i : Nat} {p pos : Pos} {e : Expr} {es : List Expr} {t : TA}
end
theorem pe_lamF {X : Cx} {P c g : Addr} {q x a : Str} {TT : (XK → Hp → VK → Prop) → Hp → VK → Prop} {k : Nat} {st : Stmt} {fd : FuncData} {Ng : List Str} {params : Arguments} {body : Expr} {scope : Scope} {is : List Int} {t : XK → TE} {p lpos pos : Pos}
    (hg : Gl X x) (hm : X.mg x = some (.ref g)) (F : Fun X.K x x st g fd) (b : Binds X.K fd [a] []) (Sg : FnScope Ng [a] (defScope st)) (hNg : Ng[0]? = some a) (hva : Vis (defScope st) a) (hG : ∀ cdv, GivesD X Ng x (defScope st) g cdv (defBody st) a q TT)
    (B : TabB X.base X.mg c P) (hcode : X.env.code = .ref c) (hq : q = X.env.qual ++ "<lambda>") (hr : Room (k + 2) X.A) (L : LamN X.env.scope scope X.N) (hw : DefW params is) (hbind : BindsD params body scope is)
    (hbody : ∀ (A : Around) (outer : List Env) (s : Shared) (H : Hp) (E : XK) (f d : Addr), Room k (A.deeper (lamEnv X scope s.heap.objs.size f d)) → PE (lamCx X A outer s H E scope f d) body (t E))
    (hdb : (x == ("__debug__" : Str)) = false := by decide) (hd : (a == ("__debug__" : Str)) = false := by decide) (hcd : (a == ("__classdict__" : Str)) = false := by decide) :
    PE X (.Call (.Name x p) [.Lambda params body scope lpos] [] pos) (tLamD P q TT t) := by
  obtain ⟨oc, od, kV, doc, pm, an, cdv, ct, osl, rfl, lk, hcd'⟩ := F.ex
  exact pe_lamD hg hm F.kp lk hcd' b Sg hNg hva (hG cdv) B hcode hq hr L hw hbind hbody hdb hd hcd
theorem tab_mem {K : PySem.W.Frag} {h : Heap} {ts : List Addr} (e : ((PySem.W.tabIn K "law").any fun p => ts.contains p.2) = true) (ht : ∀ P ∈ ts, h.get? P = some (PySem.W.tabObj #[])) (c P : Addr) (ep : PySem.W.tabIn K "law" = some (c, P)) : h.get? P = some { cls := .none, data := .fields #[] } := by
  rw [ep] at e
  have hm : ts.contains P = true := e
  exact ht P (by simpa using hm)
end LamY
namespace TG
open PySem PySem.Spec PyProof.Rows L2
structure FunC (K : PySem.W.Frag) (x qual : Str) (st : Stmt) (f : Addr) (fd : FuncData) (c : Addr) : Prop where
  ex : ∃ (oc : Value) (od : Option Addr) (kV doc pm : Value) (an : Option Addr) (ct : Value) (osl : Array (Option Value)),
    fd = PySem.W.fnOf x qual (defArgs st) (defBody st) (defScope st) .none kV doc pm an (.ref c) ct ∧ K.lookup f = some ⟨oc, od, .func fd, osl⟩ ∧ PySem.W.codeIn K (.ref c) qual = true
theorem FunC.ok {K : PySem.W.Frag} {mg : Str → Option Value} {base : Heap} {P : Program} {w : World} {x qual : Str} {st : Stmt} {f c : Addr} {fd : FuncData} {N ps : List Str} {k : Nat} {sp : Sp} (F : FunC K x qual st f fd c) (S : FnScope N ps (defScope st)) (len : ∀ vs H Q E, sp vs H Q E → vs.length = ps.length)
    (hbody : ∀ (A : Around) (outer : List Env) (s : Shared) (H : Hp) (vs : List V) (Q : VK) (E : XK), Room k (A.deeper (envOfC qual (defScope st) s.heap.objs.size f (.ref c))) → sp vs H Q E →
      ∃ t, PSs (cxOf CX0 P w K mg base N qual (defScope st) f (.ref c) A outer s H E).nox (defBody st) t ∧ t { nx := fun _ H' => Q .non H', rt := Q } (start N vs) H) : FnOk P w K mg base CX0 (k + 1) f fd ps sp := by
  obtain ⟨oc, od, kV, doc, pm, an, ct, osl, rfl, lk, hcd⟩ := F.ex
  refine fn_of lk hcd S len fun A outer s H vs Q E hr hsp => ?_
  obtain ⟨t, h, q⟩ := hbody A outer s H vs Q E hr hsp
  exact ⟨t, h.nox, q⟩
end TG
namespace L2
open PySem PySem.Spec PyProof.Rows
theorem Fun.okE {P : Program} {w : World} {K : PySem.W.Frag} {mg : Str → Option Value} {base : Heap} {x qual : Str} {st : Stmt} {f : Addr} {fd : FuncData} {N ps : List Str} {k : Nat} {sp : Sp} (F : Fun K x qual st f fd) (S : FnScope N ps (defScope st)) (hl : ∀ vs H Q E, sp vs H Q E → vs.length = ps.length)
    (body : ∀ (cdv : Value) (A : Around) (outer : List Env) (s : Shared) (H : Hp) (vs : List V) (Q : VK) (E : XK), Room k (A.deeper (envOfC qual (defScope st) s.heap.objs.size f cdv)) → sp vs H Q E → ∃ t, PSs (cxOf (L2.CX P w) P w K mg base N qual (defScope st) f cdv A outer s H E) (defBody st) t ∧ t { nx := fun _ H' => Q .non H', rt := Q } (start N vs) H) :
    FnOk P w K mg base (L2.CX P w) (k + 1) f fd ps sp := by
  have h := F.ex
  obtain ⟨oc, od, kV, doc, pm, an, cdv, ct, osl, rfl, lk, hcd⟩ := h
  exact fn_of lk hcd S hl fun A outer s H vs Q E hr => body cdv A outer s H vs Q E hr
end L2


set_option Elab.async false
set_option linter.all false
set_option maxRecDepth 100000
set_option maxHeartbeats 4000000
namespace LamY
open PySem PySem.Spec PyProof.Rows L2 LamX
def oexB (K : PySem.W.Frag) (C : Addr) : Bool := match K.lookup C with
  | some ⟨.type "type", _, .cls cd, sl⟩ => match cd.mro, sl.toList with
    | .ref C' :: bm, [_, _, _, _, some (.builtin n), _] => C' == C && n == "ValueError.__new__" && !cd.hasDel && cd.hasDict && PySem.HandSPX.refsVE bm
    | _, _ => false
  | _ => false
structure OexF (K : PySem.W.Frag) (C : Addr) : Prop where
  b : oexB K C = true
  sa : PySem.W.findIn K (.ref C) "__setattr__" = some (some (.builtin "object.__setattr__"))
  exC : PySem.W.subIn K (.ref C) (.type "BaseException") = some true
  tyC : PySem.W.typeIn K (.ref C) = some (.type "type")
  kC : PySem.W.keepIn K (.ref C) = true
theorem OexF.ok {K : PySem.W.Frag} {C : Addr} (h : OexF K C) : OexC K C := by
  refine ⟨?_, h.sa, h.exC, h.tyC, h.kC⟩
  have hb := h.b
  unfold oexB at hb
  split at hb
  · next dd cd sl ho =>
    split at hb
    · next C' bm a0 a1 a2 a3 n a5 hmr hsl =>
      simp only [Bool.and_eq_true, beq_iff_eq, Bool.not_eq_true'] at hb
      obtain ⟨⟨⟨⟨e1, e2⟩, e3⟩, e4⟩, e5⟩ := hb
      subst e1 e2
      obtain ⟨nm, bs, mro, ns, qn, hd, sn, sub, ab, col, del⟩ := cd
      obtain ⟨sl⟩ := sl
      dsimp only at hmr hsl e3 e4
      subst hmr hsl e3 e4
      exact ⟨nm, qn, ns, bs, bm, sn, sub, ab, col, dd, a0, a1, a2, a3, a5, ho, e5⟩
    · cases hb
  · cases hb
def ErrAt (H : Hp) (d : Option Addr) : Prop := d = none ∨ ∃ dd fs, d = some dd ∧ H dd = some (.xd fs)
def rIsEG (K : PySem.W.Frag) (a : Addr) (cls : Value) (d : Option Addr) : List V → Hp → VK → Prop := fun xs H Q => ∃ D : Addr, cls = .ref D ∧ ErrAt H d ∧ ExcC K D ∧ rIsE K D a xs H Q
theorem call_isEG {X : Cx} {a : Addr} {oe : Obj} {cls : Value} {d : Option Addr} {pn : List (Addr × Obj)} (hz : Zc cls d oe) (hf : ∃ vs, oe.data = .fields vs) : CallR (X.suite a ((a, oe) :: pn)) (.builtin "isinstance") (rIsEG X.K a cls d) := by
  rintro pins s σ H xs us Q J r ⟨D, rfl, hd, hE, c, cv, b, rfl, hcv, hk, q⟩
  match us, r with
  | [_, u], .cons r1 (.cons r2 .nil) =>
    cases r1
    obtain rfl := hcv u r2
    have hget := (J.pin (a, oe) (List.mem_append_left _ List.mem_cons_self)).1
    obtain ⟨flds, hflds⟩ := hf
    have hcl : (PySem.W.clsIn X.K D).isSome = true := by
      obtain ⟨cd, hc, _⟩ := PySem.W.any_some hE.hd
      rw [hc]
      rfl
    have inst : ∃ od, PySem.W.InstAt s.heap a oe D od := by
      have hnc : PySem.W.notCls oe := by unfold PySem.W.notCls; rw [hflds]
      rcases hd with rfl | ⟨dd, fs, rfl, hdd⟩
      · exact ⟨none, hget, hz.1, hnc, by rw [hz.2]; trivial⟩
      · obtain ⟨mA, hns, _⟩ := (show ObjOk X.prog X.w H s.heap dd (.xd fs) from J.hok dd _ hdd)
        obtain ⟨od, hod, _⟩ := lookIn_ns hns
        exact ⟨some od, hget, hz.1, hnc, by rw [hz.2]; exact hod⟩
    obtain ⟨od, I⟩ := inst
    exact PySem.W.kia_one (PySem.W.kitx_exc hcl hE.hg hE.hk hE.hs hE.ha hE.hn hE.ht hE.hm) J.kIn I hk (fun z => nomatch z) fun t' => ⟨.bl b, H, J.kept (t' := t') fun _ _ w => w, rfl, q⟩
theorem call_isEGK {X : Cx} {K : PySem.W.Frag} (h : X.K = K) {a : Addr} {oe : Obj} {cls : Value} {d : Option Addr} {pn : List (Addr × Obj)} (hz : Zc cls d oe) (hf : ∃ vs, oe.data = .fields vs) : CallR (X.suite a ((a, oe) :: pn)) (.builtin "isinstance") (rIsEG K a cls d) := by
  subst h
  exact call_isEG hz hf
def spKeep (K : PySem.W.Frag) (x : Str) : Sp := fun vs H Q _ => ∃ (a C : Addr) (v : V), vs = [.ref a, v] ∧ OexC K C ∧ PySem.W.findIn K (.ref C) x = some none ∧ H a = some (exo a C none) ∧ ∀ dx, H dx = none → dx ≠ a → Q .non (upd (upd H dx (exd dx [(x, v)])) a (exo a C (some dx)))
theorem keep_use {K : PySem.W.Frag} {C : Addr} {x : Str} {v : V} {H1 : Hp} {Q : XK} {a : Addr} (T : OexC K C) (hno : PySem.W.findIn K (.ref C) x = some none) (ha : H1 a = none) (q : ∀ dx, H1 dx = none → Q (.ref C) (some dx) (upd H1 dx (.xd [(x, v)]))) :
    spKeep K x (.ref a :: ([v] ++ [])) (upd H1 a (exo a C none)) (fun v H2 => v = .non ∧ ∃ (d : Addr) (fs : List (Str × V)), H2 a = some (exo a C (some d)) ∧ H2 d = some (exd d fs) ∧ H1 d = none ∧ Q (.ref C) (some d) (upd (del H2 a) d (.xd fs))) (fun _ _ _ => False) := by
  refine ⟨a, C, v, rfl, T, hno, upd_same, fun dx hdx hne => ⟨rfl, dx, [(x, v)], upd_same, ?_, ?_, ?_⟩⟩
  · rw [upd_ne hne, upd_same]
  · rw [upd_ne hne] at hdx
    exact hdx
  · have hd1 : H1 dx = none := by rw [upd_ne hne] at hdx; exact hdx
    have e : upd (del (upd (upd (upd H1 a (exo a C none)) dx (exd dx [(x, v)])) a (exo a C (some dx))) a) dx (.xd [(x, v)]) = upd H1 dx (.xd [(x, v)]) := by
      funext b
      by_cases c : b = dx
      · rw [c, upd_same, upd_same]
      · rw [upd_ne c, upd_ne c]
        by_cases c2 : b = a
        · rw [c2, del_same, ha]
        · rw [del_ne c2, upd_ne c2, upd_ne c, upd_ne c2]
    rw [e]
    exact q dx hd1
end LamY


set_option Elab.async false
set_option linter.all false
set_option maxRecDepth 100000
set_option maxHeartbeats 4000000
namespace K07
open PySem L2 TG
def top (i : Nat) : Stmt := PySem.Challenge.pw_thermogames_k07_texts_refused.main.body.getD i (.Pass ⟨0, 0, 0, 0⟩)
abbrev s_TooLarge___init__ : Stmt := inClass (top 3) 0
abbrev s_InvalidText___init__ : Stmt := inClass (top 5) 0
abbrev s_is_game : Stmt := top 9
abbrev s_need_game : Stmt := top 10
abbrev s_integer_form : Stmt := top 22
abbrev s_number_form : Stmt := top 23
abbrev s_nimber_form : Stmt := top 24
abbrev s_integer_of : Stmt := top 25
abbrev s_named : Stmt := top 26
abbrev s_fraction_of : Stmt := top 27
abbrev s_fraction_name : Stmt := top 28
abbrev s_text_of : Stmt := top 29
abbrev s_write : Stmt := top 30
abbrev s_digits_from : Stmt := top 31
abbrev s_read_whole : Stmt := top 32
abbrev s_read_number : Stmt := top 33
abbrev s_read_star : Stmt := top 34
abbrev s_read_side : Stmt := top 35
abbrev s_read_from : Stmt := top 36
abbrev s_too_deep : Stmt := top 37
abbrev s_read : Stmt := top 38
abbrev s_law_taken : Stmt := top 40
abbrev s_law_pick : Stmt := top 41
abbrev s_law_word : Stmt := top 42
abbrev s_law_head : Stmt := top 43
abbrev s_law : Stmt := top 44
theorem sc_TooLarge___init__ : FnScope ["self", "most"] ["self", "most"] (defScope s_TooLarge___init__) := ⟨rfl, rfl, rfl, by decide +kernel, rfl, by decide +kernel, by decide +kernel⟩
theorem sc_InvalidText___init__ : FnScope ["self", "place"] ["self", "place"] (defScope s_InvalidText___init__) := ⟨rfl, rfl, rfl, by decide +kernel, rfl, by decide +kernel, by decide +kernel⟩
theorem sc_is_game : FnScope ["value", "pending", "many", "told", "depth", "side", "option"] ["value"] (defScope s_is_game) := ⟨rfl, rfl, rfl, by decide +kernel, rfl, by decide +kernel, by decide +kernel⟩
theorem sc_need_game : FnScope ["value"] ["value"] (defScope s_need_game) := ⟨rfl, rfl, rfl, by decide +kernel, rfl, by decide +kernel, by decide +kernel⟩
theorem sc_integer_form : FnScope ["number", "found", "at"] ["number"] (defScope s_integer_form) := ⟨rfl, rfl, rfl, by decide +kernel, rfl, by decide +kernel, by decide +kernel⟩
theorem sc_number_form : FnScope ["top", "bottom", "sides", "near", "parts"] ["top", "bottom"] (defScope s_number_form) := ⟨rfl, rfl, rfl, by decide +kernel, rfl, by decide +kernel, by decide +kernel⟩
theorem sc_nimber_form : FnScope ["size", "rows", "at"] ["size"] (defScope s_nimber_form) := ⟨rfl, rfl, rfl, by decide +kernel, rfl, by decide +kernel, by decide +kernel⟩
theorem sc_write : FnScope ["game"] ["game"] (defScope s_write) := ⟨rfl, rfl, rfl, by decide +kernel, rfl, by decide +kernel, by decide +kernel⟩
theorem sc_digits_from : FnScope ["text", "at"] ["text", "at"] (defScope s_digits_from) := ⟨rfl, rfl, rfl, by decide +kernel, rfl, by decide +kernel, by decide +kernel⟩
theorem sc_read_whole : FnScope ["text", "at", "start", "end"] ["text", "at", "start"] (defScope s_read_whole) := ⟨rfl, rfl, rfl, by decide +kernel, rfl, by decide +kernel, by decide +kernel⟩
theorem sc_read_number : FnScope ["text", "start", "minus", "top", "at", "bottom"] ["text", "start"] (defScope s_read_number) := ⟨rfl, rfl, rfl, by decide +kernel, rfl, by decide +kernel, by decide +kernel⟩
theorem sc_read_star : FnScope ["text", "start", "end"] ["text", "start"] (defScope s_read_star) := ⟨rfl, rfl, rfl, by decide +kernel, rfl, by decide +kernel, by decide +kernel⟩
theorem sc_read_side : FnScope ["text", "at", "last", "found", "game"] ["text", "at", "last"] (defScope s_read_side) := ⟨rfl, rfl, rfl, by decide +kernel, rfl, by decide +kernel, by decide +kernel⟩
theorem sc_read_from : FnScope ["text", "at", "sign", "lefts", "rights"] ["text", "at"] (defScope s_read_from) := ⟨rfl, rfl, rfl, by decide +kernel, rfl, by decide +kernel, by decide +kernel⟩
theorem sc_too_deep : FnScope ["text", "depth", "at", "sign"] ["text"] (defScope s_too_deep) := ⟨rfl, rfl, rfl, by decide +kernel, rfl, by decide +kernel, by decide +kernel⟩
theorem sc_read : FnScope ["text", "deep", "game", "at"] ["text"] (defScope s_read) := ⟨rfl, rfl, rfl, by decide +kernel, rfl, by decide +kernel, by decide +kernel⟩
theorem sc_law_taken : FnScope ["_law_row", "_law_many", "_law_found", "_law_cell"] ["_law_row", "_law_many"] (defScope s_law_taken) := ⟨rfl, rfl, rfl, by decide +kernel, rfl, by decide +kernel, by decide +kernel⟩
theorem sc_law_pick : FnScope ["_law_row", "_law_things"] ["_law_row", "_law_things"] (defScope s_law_pick) := ⟨rfl, rfl, rfl, by decide +kernel, rfl, by decide +kernel, by decide +kernel⟩
theorem sc_law_word : FnScope ["_law_work", "_law_found", "e", "_law_known", "_law_words"] ["_law_work"] (defScope s_law_word) := ⟨rfl, rfl, rfl, by decide +kernel, rfl, by decide +kernel, by decide +kernel⟩
theorem sc_law_head : FnScope ["_law_row", "_law_found", "_law_turn"] ["_law_row"] (defScope s_law_head) := ⟨rfl, rfl, rfl, by decide +kernel, rfl, by decide +kernel, by decide +kernel⟩
theorem sc_law : FnScope ["_law_script", "_law_row", "_law_head_here", "_law_way", "_law_wrong", "_law_place", "_law_some", "_law_good", "_law_more", "_law_short", "_law_deep", "_law_text", "_law_many", "_law_due"] ["_law_script"] (defScope s_law) := ⟨rfl, rfl, rfl, by decide +kernel, rfl, by decide +kernel, by decide +kernel⟩
set_option genInjectivity false in
set_option genSizeOf false in
structure Txt (K : PySem.W.Frag) (mg : Str → Option Value) where
  a_is_game : Addr
  d_is_game : FuncData
  F_is_game : Fun K "is_game" "is_game" s_is_game a_is_game d_is_game
  b_is_game : Binds K d_is_game ["value"] []
  g_is_game : mg "is_game" = some (.ref a_is_game)
  a_need_game : Addr
  d_need_game : FuncData
  F_need_game : Fun K "need_game" "need_game" s_need_game a_need_game d_need_game
  b_need_game : Binds K d_need_game ["value"] []
  g_need_game : mg "need_game" = some (.ref a_need_game)
  a_integer_form : Addr
  d_integer_form : FuncData
  F_integer_form : Fun K "integer_form" "integer_form" s_integer_form a_integer_form d_integer_form
  b_integer_form : Binds K d_integer_form ["number"] []
  g_integer_form : mg "integer_form" = some (.ref a_integer_form)
  a_number_form : Addr
  d_number_form : FuncData
  F_number_form : Fun K "number_form" "number_form" s_number_form a_number_form d_number_form
  b_number_form : Binds K d_number_form ["top", "bottom"] []
  g_number_form : mg "number_form" = some (.ref a_number_form)
  a_nimber_form : Addr
  d_nimber_form : FuncData
  F_nimber_form : Fun K "nimber_form" "nimber_form" s_nimber_form a_nimber_form d_nimber_form
  b_nimber_form : Binds K d_nimber_form ["size"] []
  g_nimber_form : mg "nimber_form" = some (.ref a_nimber_form)
  a_integer_of : Addr
  d_integer_of : FuncData
  F_integer_of : Fun K "integer_of" "integer_of" s_integer_of a_integer_of d_integer_of
  b_integer_of : Binds K d_integer_of ["game"] []
  g_integer_of : mg "integer_of" = some (.ref a_integer_of)
  a_named : Addr
  d_named : FuncData
  F_named : Fun K "named" "named" s_named a_named d_named
  b_named : Binds K d_named ["game"] []
  g_named : mg "named" = some (.ref a_named)
  a_fraction_of : Addr
  d_fraction_of : FuncData
  F_fraction_of : Fun K "fraction_of" "fraction_of" s_fraction_of a_fraction_of d_fraction_of
  b_fraction_of : Binds K d_fraction_of ["game"] []
  g_fraction_of : mg "fraction_of" = some (.ref a_fraction_of)
  a_fraction_name : Addr
  d_fraction_name : FuncData
  F_fraction_name : Fun K "fraction_name" "fraction_name" s_fraction_name a_fraction_name d_fraction_name
  b_fraction_name : Binds K d_fraction_name ["game"] []
  g_fraction_name : mg "fraction_name" = some (.ref a_fraction_name)
  a_text_of : Addr
  d_text_of : FuncData
  F_text_of : Fun K "text_of" "text_of" s_text_of a_text_of d_text_of
  b_text_of : Binds K d_text_of ["game"] []
  g_text_of : mg "text_of" = some (.ref a_text_of)
  a_write : Addr
  d_write : FuncData
  F_write : Fun K "write" "write" s_write a_write d_write
  b_write : Binds K d_write ["game"] []
  g_write : mg "write" = some (.ref a_write)
  a_digits_from : Addr
  d_digits_from : FuncData
  F_digits_from : Fun K "digits_from" "digits_from" s_digits_from a_digits_from d_digits_from
  b_digits_from : Binds K d_digits_from ["text", "at"] []
  g_digits_from : mg "digits_from" = some (.ref a_digits_from)
  a_read_whole : Addr
  d_read_whole : FuncData
  F_read_whole : Fun K "read_whole" "read_whole" s_read_whole a_read_whole d_read_whole
  b_read_whole : Binds K d_read_whole ["text", "at", "start"] []
  g_read_whole : mg "read_whole" = some (.ref a_read_whole)
  a_read_number : Addr
  d_read_number : FuncData
  F_read_number : Fun K "read_number" "read_number" s_read_number a_read_number d_read_number
  b_read_number : Binds K d_read_number ["text", "start"] []
  g_read_number : mg "read_number" = some (.ref a_read_number)
  a_read_star : Addr
  d_read_star : FuncData
  F_read_star : Fun K "read_star" "read_star" s_read_star a_read_star d_read_star
  b_read_star : Binds K d_read_star ["text", "start"] []
  g_read_star : mg "read_star" = some (.ref a_read_star)
  a_read_side : Addr
  d_read_side : FuncData
  F_read_side : Fun K "read_side" "read_side" s_read_side a_read_side d_read_side
  b_read_side : Binds K d_read_side ["text", "at", "last"] []
  g_read_side : mg "read_side" = some (.ref a_read_side)
  a_read_from : Addr
  d_read_from : FuncData
  F_read_from : Fun K "read_from" "read_from" s_read_from a_read_from d_read_from
  b_read_from : Binds K d_read_from ["text", "at"] []
  g_read_from : mg "read_from" = some (.ref a_read_from)
  a_too_deep : Addr
  d_too_deep : FuncData
  F_too_deep : Fun K "too_deep" "too_deep" s_too_deep a_too_deep d_too_deep
  b_too_deep : Binds K d_too_deep ["text"] []
  g_too_deep : mg "too_deep" = some (.ref a_too_deep)
  a_read : Addr
  d_read : FuncData
  F_read : Fun K "read" "read" s_read a_read d_read
  b_read : Binds K d_read ["text"] []
  g_read : mg "read" = some (.ref a_read)
  a_law_taken : Addr
  d_law_taken : FuncData
  F_law_taken : Fun K "_law_taken" "_law_taken" s_law_taken a_law_taken d_law_taken
  b_law_taken : Binds K d_law_taken ["_law_row", "_law_many"] []
  g_law_taken : mg "_law_taken" = some (.ref a_law_taken)
  a_law_pick : Addr
  d_law_pick : FuncData
  F_law_pick : Fun K "_law_pick" "_law_pick" s_law_pick a_law_pick d_law_pick
  b_law_pick : Binds K d_law_pick ["_law_row", "_law_things"] []
  g_law_pick : mg "_law_pick" = some (.ref a_law_pick)
  a_law_word : Addr
  d_law_word : FuncData
  F_law_word : Fun K "_law_word" "_law_word" s_law_word a_law_word d_law_word
  b_law_word : Binds K d_law_word ["_law_work"] []
  g_law_word : mg "_law_word" = some (.ref a_law_word)
  a_law_head : Addr
  d_law_head : FuncData
  F_law_head : Fun K "_law_head" "_law_head" s_law_head a_law_head d_law_head
  b_law_head : Binds K d_law_head ["_law_row"] []
  g_law_head : mg "_law_head" = some (.ref a_law_head)
  a_law : Addr
  d_law : FuncData
  F_law : Fun K "law" "law" s_law a_law d_law
  b_law : Binds K d_law ["_law_script"] []
  g_law : mg "law" = some (.ref a_law)
  C_PlayError : Addr
  gx_PlayError : mg "PlayError" = some (.ref C_PlayError)
  xi_PlayError : PySem.W.excIn K C_PlayError [.type "ValueError", .type "Exception", .type "BaseException", .type "object"] "ValueError.__new__" = true
  kx_PlayError : PySem.W.keepIn K (.ref C_PlayError) = true
  bx_PlayError : PySem.W.subIn K (.ref C_PlayError) (.type "BaseException") = some true
  tx_PlayError : PySem.W.typeIn K (.ref C_PlayError) = some (.type "type")
  ec_PlayError : L2.ExcC K C_PlayError
  C_BadGame : Addr
  gx_BadGame : mg "BadGame" = some (.ref C_BadGame)
  xi_BadGame : PySem.W.excIn K C_BadGame [.type "ValueError", .type "Exception", .type "BaseException", .type "object"] "ValueError.__new__" = true
  kx_BadGame : PySem.W.keepIn K (.ref C_BadGame) = true
  bx_BadGame : PySem.W.subIn K (.ref C_BadGame) (.type "BaseException") = some true
  tx_BadGame : PySem.W.typeIn K (.ref C_BadGame) = some (.type "type")
  ec_BadGame : L2.ExcC K C_BadGame
  C_NotText : Addr
  gx_NotText : mg "NotText" = some (.ref C_NotText)
  xi_NotText : PySem.W.excIn K C_NotText [.type "ValueError", .type "Exception", .type "BaseException", .type "object"] "ValueError.__new__" = true
  kx_NotText : PySem.W.keepIn K (.ref C_NotText) = true
  bx_NotText : PySem.W.subIn K (.ref C_NotText) (.type "BaseException") = some true
  tx_NotText : PySem.W.typeIn K (.ref C_NotText) = some (.type "type")
  ec_NotText : L2.ExcC K C_NotText
  C_TooLarge : Addr
  gx_TooLarge : mg "TooLarge" = some (.ref C_TooLarge)
  ox_TooLarge : LamY.OexF K C_TooLarge
  ec_TooLarge : L2.ExcC K C_TooLarge
  no_TooLarge : PySem.W.findIn K (.ref C_TooLarge) "most" = some none
  a_TooLarge___init__ : Addr
  d_TooLarge___init__ : FuncData
  F_TooLarge___init__ : Fun K "__init__" "TooLarge.__init__" s_TooLarge___init__ a_TooLarge___init__ d_TooLarge___init__
  b_TooLarge___init__ : Binds K d_TooLarge___init__ ["self", "most"] []
  ic_TooLarge : PySem.W.findIn K (.ref C_TooLarge) "__init__" = some (some (.ref a_TooLarge___init__))
  ti_TooLarge : PySem.W.typeIn K (.ref a_TooLarge___init__) = some (.type "function")
  C_InvalidText : Addr
  gx_InvalidText : mg "InvalidText" = some (.ref C_InvalidText)
  ox_InvalidText : LamY.OexF K C_InvalidText
  ec_InvalidText : L2.ExcC K C_InvalidText
  no_InvalidText : PySem.W.findIn K (.ref C_InvalidText) "place" = some none
  a_InvalidText___init__ : Addr
  d_InvalidText___init__ : FuncData
  F_InvalidText___init__ : Fun K "__init__" "InvalidText.__init__" s_InvalidText___init__ a_InvalidText___init__ d_InvalidText___init__
  b_InvalidText___init__ : Binds K d_InvalidText___init__ ["self", "place"] []
  ic_InvalidText : PySem.W.findIn K (.ref C_InvalidText) "__init__" = some (some (.ref a_InvalidText___init__))
  ti_InvalidText : PySem.W.typeIn K (.ref a_InvalidText___init__) = some (.type "function")
  ki_PlayError_PlayError : PySem.W.kitOne K (.ref C_PlayError) (.ref C_PlayError) = some true
  ki_PlayError_BadGame : PySem.W.kitOne K (.ref C_PlayError) (.ref C_BadGame) = some false
  ki_PlayError_NotText : PySem.W.kitOne K (.ref C_PlayError) (.ref C_NotText) = some false
  ki_PlayError_TooLarge : PySem.W.kitOne K (.ref C_PlayError) (.ref C_TooLarge) = some false
  ki_PlayError_InvalidText : PySem.W.kitOne K (.ref C_PlayError) (.ref C_InvalidText) = some false
  em_PlayError : PySem.W.exmOne K (.ref C_PlayError) (.ref C_PlayError) = some true
  ki_BadGame_PlayError : PySem.W.kitOne K (.ref C_BadGame) (.ref C_PlayError) = some true
  ki_BadGame_BadGame : PySem.W.kitOne K (.ref C_BadGame) (.ref C_BadGame) = some true
  ki_BadGame_NotText : PySem.W.kitOne K (.ref C_BadGame) (.ref C_NotText) = some false
  ki_BadGame_TooLarge : PySem.W.kitOne K (.ref C_BadGame) (.ref C_TooLarge) = some false
  ki_BadGame_InvalidText : PySem.W.kitOne K (.ref C_BadGame) (.ref C_InvalidText) = some false
  em_BadGame : PySem.W.exmOne K (.ref C_BadGame) (.ref C_PlayError) = some true
  ki_NotText_PlayError : PySem.W.kitOne K (.ref C_NotText) (.ref C_PlayError) = some true
  ki_NotText_BadGame : PySem.W.kitOne K (.ref C_NotText) (.ref C_BadGame) = some false
  ki_NotText_NotText : PySem.W.kitOne K (.ref C_NotText) (.ref C_NotText) = some true
  ki_NotText_TooLarge : PySem.W.kitOne K (.ref C_NotText) (.ref C_TooLarge) = some false
  ki_NotText_InvalidText : PySem.W.kitOne K (.ref C_NotText) (.ref C_InvalidText) = some false
  em_NotText : PySem.W.exmOne K (.ref C_NotText) (.ref C_PlayError) = some true
  ki_TooLarge_PlayError : PySem.W.kitOne K (.ref C_TooLarge) (.ref C_PlayError) = some true
  ki_TooLarge_BadGame : PySem.W.kitOne K (.ref C_TooLarge) (.ref C_BadGame) = some false
  ki_TooLarge_NotText : PySem.W.kitOne K (.ref C_TooLarge) (.ref C_NotText) = some false
  ki_TooLarge_TooLarge : PySem.W.kitOne K (.ref C_TooLarge) (.ref C_TooLarge) = some true
  ki_TooLarge_InvalidText : PySem.W.kitOne K (.ref C_TooLarge) (.ref C_InvalidText) = some false
  em_TooLarge : PySem.W.exmOne K (.ref C_TooLarge) (.ref C_PlayError) = some true
  ki_InvalidText_PlayError : PySem.W.kitOne K (.ref C_InvalidText) (.ref C_PlayError) = some true
  ki_InvalidText_BadGame : PySem.W.kitOne K (.ref C_InvalidText) (.ref C_BadGame) = some false
  ki_InvalidText_NotText : PySem.W.kitOne K (.ref C_InvalidText) (.ref C_NotText) = some false
  ki_InvalidText_TooLarge : PySem.W.kitOne K (.ref C_InvalidText) (.ref C_TooLarge) = some false
  ki_InvalidText_InvalidText : PySem.W.kitOne K (.ref C_InvalidText) (.ref C_InvalidText) = some true
  em_InvalidText : PySem.W.exmOne K (.ref C_InvalidText) (.ref C_PlayError) = some true
  cc_law : Addr
  cP_law : Addr
  fc_law : TG.FunC K "law" "law" s_law a_law d_law cc_law
  tb_law : PySem.W.tabIn K "law" = some (cc_law, cP_law)
  ch_law : PySem.W.codeHdIn K cc_law cP_law = true
  nP_law : K.lookup cP_law = none
  B_law : ∀ (s : Shared) (v : Value), BindsTo s d_law ⟨[v], []⟩ [("_law_script", v)]
  t_MOST_GAME_NODES : Tok
  c_MOST_GAME_NODES : mg "MOST_GAME_NODES" = some (Value.int 2000 t_MOST_GAME_NODES)
  t_MOST_HEIGHT : Tok
  c_MOST_HEIGHT : mg "MOST_HEIGHT" = some (Value.int 40 t_MOST_HEIGHT)
  t_MOST_NIMBER : Tok
  c_MOST_NIMBER : mg "MOST_NIMBER" = some (Value.int 5 t_MOST_NIMBER)
  t_MOST_PARTS : Tok
  c_MOST_PARTS : mg "MOST_PARTS" = some (Value.int 16 t_MOST_PARTS)
  t_MOST_INTEGER : Tok
  c_MOST_INTEGER : mg "MOST_INTEGER" = some (Value.int 16 t_MOST_INTEGER)
  t_DIGITS : Tok
  c_DIGITS : mg "DIGITS" = some (Value.str "0123456789" t_DIGITS)
  v_ZERO : V
  u_ZERO : Value
  c_ZERO : mg "ZERO" = some u_ZERO
  r_ZERO : RelV v_ZERO u_ZERO
  q_ZERO : ∀ H, Dp K H v_ZERO (.tuple [.tuple [], .tuple []])
  v_STAR : V
  u_STAR : Value
  c_STAR : mg "STAR" = some u_STAR
  r_STAR : RelV v_STAR u_STAR
  q_STAR : ∀ H, Dp K H v_STAR (.tuple [.tuple [.tuple [.tuple [], .tuple []]], .tuple [.tuple [.tuple [], .tuple []]]])
  v_UP : V
  u_UP : Value
  c_UP : mg "UP" = some u_UP
  r_UP : RelV v_UP u_UP
  q_UP : ∀ H, Dp K H v_UP (.tuple [.tuple [.tuple [.tuple [], .tuple []]], .tuple [.tuple [.tuple [.tuple [.tuple [], .tuple []]], .tuple [.tuple [.tuple [], .tuple []]]]]])
  v_DOWN : V
  u_DOWN : Value
  c_DOWN : mg "DOWN" = some u_DOWN
  r_DOWN : RelV v_DOWN u_DOWN
  q_DOWN : ∀ H, Dp K H v_DOWN (.tuple [.tuple [.tuple [.tuple [.tuple [.tuple [], .tuple []]], .tuple [.tuple [.tuple [], .tuple []]]]], .tuple [.tuple [.tuple [], .tuple []]]])
  v_UP_STAR : V
  u_UP_STAR : Value
  c_UP_STAR : mg "UP_STAR" = some u_UP_STAR
  r_UP_STAR : RelV v_UP_STAR u_UP_STAR
  q_UP_STAR : ∀ H, Dp K H v_UP_STAR (.tuple [.tuple [.tuple [.tuple [], .tuple []], .tuple [.tuple [.tuple [.tuple [], .tuple []]], .tuple [.tuple [.tuple [], .tuple []]]]], .tuple [.tuple [.tuple [], .tuple []]]])
  v_DOWN_STAR : V
  u_DOWN_STAR : Value
  c_DOWN_STAR : mg "DOWN_STAR" = some u_DOWN_STAR
  r_DOWN_STAR : RelV v_DOWN_STAR u_DOWN_STAR
  q_DOWN_STAR : ∀ H, Dp K H v_DOWN_STAR (.tuple [.tuple [.tuple [.tuple [], .tuple []]], .tuple [.tuple [.tuple [], .tuple []], .tuple [.tuple [.tuple [.tuple [], .tuple []]], .tuple [.tuple [.tuple [], .tuple []]]]]])
  m_len : mg "len" = none
  m_range : mg "range" = none
  m_int : mg "int" = none
  m_str : mg "str" = none
  m_tuple : mg "tuple" = none
  m_isinstance : mg "isinstance" = none
  m_enumerate : mg "enumerate" = none
  m_max : mg "max" = none
  m_abs : mg "abs" = none
theorem len_1 {us : List Value} (h : us.length = 1) : ∃ a0, us = [a0] := by match us, h with | [a0], _ => exact ⟨a0, rfl⟩
theorem len_2 {us : List Value} (h : us.length = 2) : ∃ a0 a1, us = [a0, a1] := by match us, h with | [a0, a1], _ => exact ⟨a0, a1, rfl⟩
theorem len_3 {us : List Value} (h : us.length = 3) : ∃ a0 a1 a2, us = [a0, a1, a2] := by match us, h with | [a0, a1, a2], _ => exact ⟨a0, a1, a2, rfl⟩
theorem txt_mk {K : PySem.W.Frag} {h : Heap} {mg : Str → Option Value} (X : K.In h) (G : h.Ns mainGlobals mg)
    {f0 : Addr} {od0 an0 : Option Addr} {sl0 : Array (Option Value)} {oc0 kV0 dc0 pm0 cd0 ct0 : Value}
    {f1 : Addr} {od1 an1 : Option Addr} {sl1 : Array (Option Value)} {oc1 kV1 dc1 pm1 cd1 ct1 : Value}
    {f2 : Addr} {od2 an2 : Option Addr} {sl2 : Array (Option Value)} {oc2 kV2 dc2 pm2 cd2 ct2 : Value}
    {f3 : Addr} {od3 an3 : Option Addr} {sl3 : Array (Option Value)} {oc3 kV3 dc3 pm3 cd3 ct3 : Value}
    {f4 : Addr} {od4 an4 : Option Addr} {sl4 : Array (Option Value)} {oc4 kV4 dc4 pm4 cd4 ct4 : Value}
    {f5 : Addr} {od5 an5 : Option Addr} {sl5 : Array (Option Value)} {oc5 kV5 dc5 pm5 cd5 ct5 : Value}
    {f6 : Addr} {od6 an6 : Option Addr} {sl6 : Array (Option Value)} {oc6 kV6 dc6 pm6 cd6 ct6 : Value}
    {f7 : Addr} {od7 an7 : Option Addr} {sl7 : Array (Option Value)} {oc7 kV7 dc7 pm7 cd7 ct7 : Value}
    {f8 : Addr} {od8 an8 : Option Addr} {sl8 : Array (Option Value)} {oc8 kV8 dc8 pm8 cd8 ct8 : Value}
    {f9 : Addr} {od9 an9 : Option Addr} {sl9 : Array (Option Value)} {oc9 kV9 dc9 pm9 cd9 ct9 : Value}
    {f10 : Addr} {od10 an10 : Option Addr} {sl10 : Array (Option Value)} {oc10 kV10 dc10 pm10 cd10 ct10 : Value}
    {f11 : Addr} {od11 an11 : Option Addr} {sl11 : Array (Option Value)} {oc11 kV11 dc11 pm11 cd11 ct11 : Value}
    {f12 : Addr} {od12 an12 : Option Addr} {sl12 : Array (Option Value)} {oc12 kV12 dc12 pm12 cd12 ct12 : Value}
    {f13 : Addr} {od13 an13 : Option Addr} {sl13 : Array (Option Value)} {oc13 kV13 dc13 pm13 cd13 ct13 : Value}
    {f14 : Addr} {od14 an14 : Option Addr} {sl14 : Array (Option Value)} {oc14 kV14 dc14 pm14 cd14 ct14 : Value}
    {f15 : Addr} {od15 an15 : Option Addr} {sl15 : Array (Option Value)} {oc15 kV15 dc15 pm15 cd15 ct15 : Value}
    {f16 : Addr} {od16 an16 : Option Addr} {sl16 : Array (Option Value)} {oc16 kV16 dc16 pm16 cd16 ct16 : Value}
    {f17 : Addr} {od17 an17 : Option Addr} {sl17 : Array (Option Value)} {oc17 kV17 dc17 pm17 cd17 ct17 : Value}
    {f18 : Addr} {od18 an18 : Option Addr} {sl18 : Array (Option Value)} {oc18 kV18 dc18 pm18 cd18 ct18 : Value}
    {f19 : Addr} {od19 an19 : Option Addr} {sl19 : Array (Option Value)} {oc19 kV19 dc19 pm19 cd19 ct19 : Value}
    {f20 : Addr} {od20 an20 : Option Addr} {sl20 : Array (Option Value)} {oc20 kV20 dc20 pm20 cd20 ct20 : Value}
    {f21 : Addr} {od21 an21 : Option Addr} {sl21 : Array (Option Value)} {oc21 kV21 dc21 pm21 cd21 ct21 : Value}
    {f22 : Addr} {od22 an22 : Option Addr} {sl22 : Array (Option Value)} {oc22 kV22 dc22 pm22 cd22 ct22 : Value}
    {ccL cPL : Addr}
    {f23 : Addr} {od23 an23 : Option Addr} {sl23 : Array (Option Value)} {oc23 kV23 dc23 pm23 ct23 : Value}
    {E0 : Addr}
    {E1 : Addr}
    {E2 : Addr}
    {E3 : Addr}
    {fx0 : Addr} {odx0 anx0 : Option Addr} {slx0 : Array (Option Value)} {ocx0 kVx0 dcx0 pmx0 cdx0 ctx0 : Value}
    {E4 : Addr}
    {fx1 : Addr} {odx1 anx1 : Option Addr} {slx1 : Array (Option Value)} {ocx1 kVx1 dcx1 pmx1 cdx1 ctx1 : Value}
    {tk0 : Tok}
    {tk1 : Tok}
    {tk2 : Tok}
    {tk3 : Tok}
    {tk4 : Tok}
    {tk5 : Tok}
    {bt1 : Addr} {ot1 : Option Addr} {nt1 : Nat} {st1 : Array (Option Value)}
    {bt2 : Addr} {ot2 : Option Addr} {nt2 : Nat} {st2 : Array (Option Value)}
    {bt3 : Addr} {ot3 : Option Addr} {nt3 : Nat} {st3 : Array (Option Value)}
    {bt4 : Addr} {ot4 : Option Addr} {nt4 : Nat} {st4 : Array (Option Value)}
    {bt5 : Addr} {ot5 : Option Addr} {nt5 : Nat} {st5 : Array (Option Value)}
    {bt6 : Addr} {ot6 : Option Addr} {nt6 : Nat} {st6 : Array (Option Value)}
    {bt7 : Addr} {ot7 : Option Addr} {nt7 : Nat} {st7 : Array (Option Value)}
    {bt8 : Addr} {ot8 : Option Addr} {nt8 : Nat} {st8 : Array (Option Value)}
    {bt9 : Addr} {ot9 : Option Addr} {nt9 : Nat} {st9 : Array (Option Value)}
    {bt10 : Addr} {ot10 : Option Addr} {nt10 : Nat} {st10 : Array (Option Value)}
    {bt11 : Addr} {ot11 : Option Addr} {nt11 : Nat} {st11 : Array (Option Value)}
    {bt12 : Addr} {ot12 : Option Addr} {nt12 : Nat} {st12 : Array (Option Value)}
    {bt13 : Addr} {ot13 : Option Addr} {nt13 : Nat} {st13 : Array (Option Value)}
    {bt14 : Addr} {ot14 : Option Addr} {nt14 : Nat} {st14 : Array (Option Value)}
    {bt15 : Addr} {ot15 : Option Addr} {nt15 : Nat} {st15 : Array (Option Value)}
    {bt16 : Addr} {ot16 : Option Addr} {nt16 : Nat} {st16 : Array (Option Value)}
    {bt17 : Addr} {ot17 : Option Addr} {nt17 : Nat} {st17 : Array (Option Value)}
    {bt18 : Addr} {ot18 : Option Addr} {nt18 : Nat} {st18 : Array (Option Value)}
    {bt19 : Addr} {ot19 : Option Addr} {nt19 : Nat} {st19 : Array (Option Value)}
    {bt20 : Addr} {ot20 : Option Addr} {nt20 : Nat} {st20 : Array (Option Value)}
    {bt21 : Addr} {ot21 : Option Addr} {nt21 : Nat} {st21 : Array (Option Value)}
    {bt22 : Addr} {ot22 : Option Addr} {nt22 : Nat} {st22 : Array (Option Value)}
    {bt23 : Addr} {ot23 : Option Addr} {nt23 : Nat} {st23 : Array (Option Value)}
    {bt24 : Addr} {ot24 : Option Addr} {nt24 : Nat} {st24 : Array (Option Value)}
    {bt25 : Addr} {ot25 : Option Addr} {nt25 : Nat} {st25 : Array (Option Value)}
    {bt26 : Addr} {ot26 : Option Addr} {nt26 : Nat} {st26 : Array (Option Value)}
    {bt27 : Addr} {ot27 : Option Addr} {nt27 : Nat} {st27 : Array (Option Value)}
    {bt28 : Addr} {ot28 : Option Addr} {nt28 : Nat} {st28 : Array (Option Value)}
    {bt29 : Addr} {ot29 : Option Addr} {nt29 : Nat} {st29 : Array (Option Value)}
    {bt30 : Addr} {ot30 : Option Addr} {nt30 : Nat} {st30 : Array (Option Value)}
    {bt31 : Addr} {ot31 : Option Addr} {nt31 : Nat} {st31 : Array (Option Value)}
    {bt32 : Addr} {ot32 : Option Addr} {nt32 : Nat} {st32 : Array (Option Value)}
    {bt33 : Addr} {ot33 : Option Addr} {nt33 : Nat} {st33 : Array (Option Value)}
    {bt34 : Addr} {ot34 : Option Addr} {nt34 : Nat} {st34 : Array (Option Value)}
    {bt35 : Addr} {ot35 : Option Addr} {nt35 : Nat} {st35 : Array (Option Value)}
    {bt36 : Addr} {ot36 : Option Addr} {nt36 : Nat} {st36 : Array (Option Value)}
    {bt37 : Addr} {ot37 : Option Addr} {nt37 : Nat} {st37 : Array (Option Value)}
    {bt38 : Addr} {ot38 : Option Addr} {nt38 : Nat} {st38 : Array (Option Value)}
    {bt39 : Addr} {ot39 : Option Addr} {nt39 : Nat} {st39 : Array (Option Value)}
    {bt40 : Addr} {ot40 : Option Addr} {nt40 : Nat} {st40 : Array (Option Value)}
    {bt41 : Addr} {ot41 : Option Addr} {nt41 : Nat} {st41 : Array (Option Value)}
    {bt42 : Addr} {ot42 : Option Addr} {nt42 : Nat} {st42 : Array (Option Value)}
    {bt43 : Addr} {ot43 : Option Addr} {nt43 : Nat} {st43 : Array (Option Value)}
    {bt44 : Addr} {ot44 : Option Addr} {nt44 : Nat} {st44 : Array (Option Value)}
    {bt45 : Addr} {ot45 : Option Addr} {nt45 : Nat} {st45 : Array (Option Value)}
    {bt46 : Addr} {ot46 : Option Addr} {nt46 : Nat} {st46 : Array (Option Value)}
    {bt47 : Addr} {ot47 : Option Addr} {nt47 : Nat} {st47 : Array (Option Value)}
    {bt48 : Addr} {ot48 : Option Addr} {nt48 : Nat} {st48 : Array (Option Value)}
    {bt49 : Addr} {ot49 : Option Addr} {nt49 : Nat} {st49 : Array (Option Value)}
    {bt50 : Addr} {ot50 : Option Addr} {nt50 : Nat} {st50 : Array (Option Value)}
    {bt51 : Addr} {ot51 : Option Addr} {nt51 : Nat} {st51 : Array (Option Value)}
    {bt52 : Addr} {ot52 : Option Addr} {nt52 : Nat} {st52 : Array (Option Value)}
    {bt53 : Addr} {ot53 : Option Addr} {nt53 : Nat} {st53 : Array (Option Value)}
    {bt54 : Addr} {ot54 : Option Addr} {nt54 : Nat} {st54 : Array (Option Value)}
    {bt55 : Addr} {ot55 : Option Addr} {nt55 : Nat} {st55 : Array (Option Value)}
    {bt56 : Addr} {ot56 : Option Addr} {nt56 : Nat} {st56 : Array (Option Value)}
    {bt57 : Addr} {ot57 : Option Addr} {nt57 : Nat} {st57 : Array (Option Value)}
    {bt58 : Addr} {ot58 : Option Addr} {nt58 : Nat} {st58 : Array (Option Value)}
    {bt59 : Addr} {ot59 : Option Addr} {nt59 : Nat} {st59 : Array (Option Value)}
    {bt60 : Addr} {ot60 : Option Addr} {nt60 : Nat} {st60 : Array (Option Value)}
    {bt61 : Addr} {ot61 : Option Addr} {nt61 : Nat} {st61 : Array (Option Value)}
    {bt62 : Addr} {ot62 : Option Addr} {nt62 : Nat} {st62 : Array (Option Value)}
    {bt63 : Addr} {ot63 : Option Addr} {nt63 : Nat} {st63 : Array (Option Value)}
    {bt64 : Addr} {ot64 : Option Addr} {nt64 : Nat} {st64 : Array (Option Value)}
    {bt65 : Addr} {ot65 : Option Addr} {nt65 : Nat} {st65 : Array (Option Value)}
    {bt66 : Addr} {ot66 : Option Addr} {nt66 : Nat} {st66 : Array (Option Value)}
    {bt67 : Addr} {ot67 : Option Addr} {nt67 : Nat} {st67 : Array (Option Value)}
    {bt68 : Addr} {ot68 : Option Addr} {nt68 : Nat} {st68 : Array (Option Value)}
    {bt69 : Addr} {ot69 : Option Addr} {nt69 : Nat} {st69 : Array (Option Value)}
    {bt70 : Addr} {ot70 : Option Addr} {nt70 : Nat} {st70 : Array (Option Value)}
    {bt71 : Addr} {ot71 : Option Addr} {nt71 : Nat} {st71 : Array (Option Value)}
    {bt72 : Addr} {ot72 : Option Addr} {nt72 : Nat} {st72 : Array (Option Value)}
    {bt73 : Addr} {ot73 : Option Addr} {nt73 : Nat} {st73 : Array (Option Value)}
    {bt74 : Addr} {ot74 : Option Addr} {nt74 : Nat} {st74 : Array (Option Value)}
    {bt75 : Addr} {ot75 : Option Addr} {nt75 : Nat} {st75 : Array (Option Value)}
    {bt76 : Addr} {ot76 : Option Addr} {nt76 : Nat} {st76 : Array (Option Value)}
    {bt77 : Addr} {ot77 : Option Addr} {nt77 : Nat} {st77 : Array (Option Value)}
    {bt78 : Addr} {ot78 : Option Addr} {nt78 : Nat} {st78 : Array (Option Value)}
    (a0 : PySem.W.nsIn K mainGlobals "is_game" = some (some (.ref f0))) (l0 : K.lookup f0 = some ⟨oc0, od0, .func (PySem.W.fnOf "is_game" "is_game" (defArgs s_is_game) (defBody s_is_game) (defScope s_is_game) .none kV0 dc0 pm0 an0 cd0 ct0), sl0⟩) (c0 : PySem.W.codeIn K cd0 "is_game" = true) (k0 : PySem.W.keepIn K (.ref f0) = true)
    (a1 : PySem.W.nsIn K mainGlobals "need_game" = some (some (.ref f1))) (l1 : K.lookup f1 = some ⟨oc1, od1, .func (PySem.W.fnOf "need_game" "need_game" (defArgs s_need_game) (defBody s_need_game) (defScope s_need_game) .none kV1 dc1 pm1 an1 cd1 ct1), sl1⟩) (c1 : PySem.W.codeIn K cd1 "need_game" = true) (k1 : PySem.W.keepIn K (.ref f1) = true)
    (a2 : PySem.W.nsIn K mainGlobals "integer_form" = some (some (.ref f2))) (l2 : K.lookup f2 = some ⟨oc2, od2, .func (PySem.W.fnOf "integer_form" "integer_form" (defArgs s_integer_form) (defBody s_integer_form) (defScope s_integer_form) .none kV2 dc2 pm2 an2 cd2 ct2), sl2⟩) (c2 : PySem.W.codeIn K cd2 "integer_form" = true) (k2 : PySem.W.keepIn K (.ref f2) = true)
    (a3 : PySem.W.nsIn K mainGlobals "number_form" = some (some (.ref f3))) (l3 : K.lookup f3 = some ⟨oc3, od3, .func (PySem.W.fnOf "number_form" "number_form" (defArgs s_number_form) (defBody s_number_form) (defScope s_number_form) .none kV3 dc3 pm3 an3 cd3 ct3), sl3⟩) (c3 : PySem.W.codeIn K cd3 "number_form" = true) (k3 : PySem.W.keepIn K (.ref f3) = true)
    (a4 : PySem.W.nsIn K mainGlobals "nimber_form" = some (some (.ref f4))) (l4 : K.lookup f4 = some ⟨oc4, od4, .func (PySem.W.fnOf "nimber_form" "nimber_form" (defArgs s_nimber_form) (defBody s_nimber_form) (defScope s_nimber_form) .none kV4 dc4 pm4 an4 cd4 ct4), sl4⟩) (c4 : PySem.W.codeIn K cd4 "nimber_form" = true) (k4 : PySem.W.keepIn K (.ref f4) = true)
    (a5 : PySem.W.nsIn K mainGlobals "integer_of" = some (some (.ref f5))) (l5 : K.lookup f5 = some ⟨oc5, od5, .func (PySem.W.fnOf "integer_of" "integer_of" (defArgs s_integer_of) (defBody s_integer_of) (defScope s_integer_of) .none kV5 dc5 pm5 an5 cd5 ct5), sl5⟩) (c5 : PySem.W.codeIn K cd5 "integer_of" = true) (k5 : PySem.W.keepIn K (.ref f5) = true)
    (a6 : PySem.W.nsIn K mainGlobals "named" = some (some (.ref f6))) (l6 : K.lookup f6 = some ⟨oc6, od6, .func (PySem.W.fnOf "named" "named" (defArgs s_named) (defBody s_named) (defScope s_named) .none kV6 dc6 pm6 an6 cd6 ct6), sl6⟩) (c6 : PySem.W.codeIn K cd6 "named" = true) (k6 : PySem.W.keepIn K (.ref f6) = true)
    (a7 : PySem.W.nsIn K mainGlobals "fraction_of" = some (some (.ref f7))) (l7 : K.lookup f7 = some ⟨oc7, od7, .func (PySem.W.fnOf "fraction_of" "fraction_of" (defArgs s_fraction_of) (defBody s_fraction_of) (defScope s_fraction_of) .none kV7 dc7 pm7 an7 cd7 ct7), sl7⟩) (c7 : PySem.W.codeIn K cd7 "fraction_of" = true) (k7 : PySem.W.keepIn K (.ref f7) = true)
    (a8 : PySem.W.nsIn K mainGlobals "fraction_name" = some (some (.ref f8))) (l8 : K.lookup f8 = some ⟨oc8, od8, .func (PySem.W.fnOf "fraction_name" "fraction_name" (defArgs s_fraction_name) (defBody s_fraction_name) (defScope s_fraction_name) .none kV8 dc8 pm8 an8 cd8 ct8), sl8⟩) (c8 : PySem.W.codeIn K cd8 "fraction_name" = true) (k8 : PySem.W.keepIn K (.ref f8) = true)
    (a9 : PySem.W.nsIn K mainGlobals "text_of" = some (some (.ref f9))) (l9 : K.lookup f9 = some ⟨oc9, od9, .func (PySem.W.fnOf "text_of" "text_of" (defArgs s_text_of) (defBody s_text_of) (defScope s_text_of) .none kV9 dc9 pm9 an9 cd9 ct9), sl9⟩) (c9 : PySem.W.codeIn K cd9 "text_of" = true) (k9 : PySem.W.keepIn K (.ref f9) = true)
    (a10 : PySem.W.nsIn K mainGlobals "write" = some (some (.ref f10))) (l10 : K.lookup f10 = some ⟨oc10, od10, .func (PySem.W.fnOf "write" "write" (defArgs s_write) (defBody s_write) (defScope s_write) .none kV10 dc10 pm10 an10 cd10 ct10), sl10⟩) (c10 : PySem.W.codeIn K cd10 "write" = true) (k10 : PySem.W.keepIn K (.ref f10) = true)
    (a11 : PySem.W.nsIn K mainGlobals "digits_from" = some (some (.ref f11))) (l11 : K.lookup f11 = some ⟨oc11, od11, .func (PySem.W.fnOf "digits_from" "digits_from" (defArgs s_digits_from) (defBody s_digits_from) (defScope s_digits_from) .none kV11 dc11 pm11 an11 cd11 ct11), sl11⟩) (c11 : PySem.W.codeIn K cd11 "digits_from" = true) (k11 : PySem.W.keepIn K (.ref f11) = true)
    (a12 : PySem.W.nsIn K mainGlobals "read_whole" = some (some (.ref f12))) (l12 : K.lookup f12 = some ⟨oc12, od12, .func (PySem.W.fnOf "read_whole" "read_whole" (defArgs s_read_whole) (defBody s_read_whole) (defScope s_read_whole) .none kV12 dc12 pm12 an12 cd12 ct12), sl12⟩) (c12 : PySem.W.codeIn K cd12 "read_whole" = true) (k12 : PySem.W.keepIn K (.ref f12) = true)
    (a13 : PySem.W.nsIn K mainGlobals "read_number" = some (some (.ref f13))) (l13 : K.lookup f13 = some ⟨oc13, od13, .func (PySem.W.fnOf "read_number" "read_number" (defArgs s_read_number) (defBody s_read_number) (defScope s_read_number) .none kV13 dc13 pm13 an13 cd13 ct13), sl13⟩) (c13 : PySem.W.codeIn K cd13 "read_number" = true) (k13 : PySem.W.keepIn K (.ref f13) = true)
    (a14 : PySem.W.nsIn K mainGlobals "read_star" = some (some (.ref f14))) (l14 : K.lookup f14 = some ⟨oc14, od14, .func (PySem.W.fnOf "read_star" "read_star" (defArgs s_read_star) (defBody s_read_star) (defScope s_read_star) .none kV14 dc14 pm14 an14 cd14 ct14), sl14⟩) (c14 : PySem.W.codeIn K cd14 "read_star" = true) (k14 : PySem.W.keepIn K (.ref f14) = true)
    (a15 : PySem.W.nsIn K mainGlobals "read_side" = some (some (.ref f15))) (l15 : K.lookup f15 = some ⟨oc15, od15, .func (PySem.W.fnOf "read_side" "read_side" (defArgs s_read_side) (defBody s_read_side) (defScope s_read_side) .none kV15 dc15 pm15 an15 cd15 ct15), sl15⟩) (c15 : PySem.W.codeIn K cd15 "read_side" = true) (k15 : PySem.W.keepIn K (.ref f15) = true)
    (a16 : PySem.W.nsIn K mainGlobals "read_from" = some (some (.ref f16))) (l16 : K.lookup f16 = some ⟨oc16, od16, .func (PySem.W.fnOf "read_from" "read_from" (defArgs s_read_from) (defBody s_read_from) (defScope s_read_from) .none kV16 dc16 pm16 an16 cd16 ct16), sl16⟩) (c16 : PySem.W.codeIn K cd16 "read_from" = true) (k16 : PySem.W.keepIn K (.ref f16) = true)
    (a17 : PySem.W.nsIn K mainGlobals "too_deep" = some (some (.ref f17))) (l17 : K.lookup f17 = some ⟨oc17, od17, .func (PySem.W.fnOf "too_deep" "too_deep" (defArgs s_too_deep) (defBody s_too_deep) (defScope s_too_deep) .none kV17 dc17 pm17 an17 cd17 ct17), sl17⟩) (c17 : PySem.W.codeIn K cd17 "too_deep" = true) (k17 : PySem.W.keepIn K (.ref f17) = true)
    (a18 : PySem.W.nsIn K mainGlobals "read" = some (some (.ref f18))) (l18 : K.lookup f18 = some ⟨oc18, od18, .func (PySem.W.fnOf "read" "read" (defArgs s_read) (defBody s_read) (defScope s_read) .none kV18 dc18 pm18 an18 cd18 ct18), sl18⟩) (c18 : PySem.W.codeIn K cd18 "read" = true) (k18 : PySem.W.keepIn K (.ref f18) = true)
    (a19 : PySem.W.nsIn K mainGlobals "_law_taken" = some (some (.ref f19))) (l19 : K.lookup f19 = some ⟨oc19, od19, .func (PySem.W.fnOf "_law_taken" "_law_taken" (defArgs s_law_taken) (defBody s_law_taken) (defScope s_law_taken) .none kV19 dc19 pm19 an19 cd19 ct19), sl19⟩) (c19 : PySem.W.codeIn K cd19 "_law_taken" = true) (k19 : PySem.W.keepIn K (.ref f19) = true)
    (a20 : PySem.W.nsIn K mainGlobals "_law_pick" = some (some (.ref f20))) (l20 : K.lookup f20 = some ⟨oc20, od20, .func (PySem.W.fnOf "_law_pick" "_law_pick" (defArgs s_law_pick) (defBody s_law_pick) (defScope s_law_pick) .none kV20 dc20 pm20 an20 cd20 ct20), sl20⟩) (c20 : PySem.W.codeIn K cd20 "_law_pick" = true) (k20 : PySem.W.keepIn K (.ref f20) = true)
    (a21 : PySem.W.nsIn K mainGlobals "_law_word" = some (some (.ref f21))) (l21 : K.lookup f21 = some ⟨oc21, od21, .func (PySem.W.fnOf "_law_word" "_law_word" (defArgs s_law_word) (defBody s_law_word) (defScope s_law_word) .none kV21 dc21 pm21 an21 cd21 ct21), sl21⟩) (c21 : PySem.W.codeIn K cd21 "_law_word" = true) (k21 : PySem.W.keepIn K (.ref f21) = true)
    (a22 : PySem.W.nsIn K mainGlobals "_law_head" = some (some (.ref f22))) (l22 : K.lookup f22 = some ⟨oc22, od22, .func (PySem.W.fnOf "_law_head" "_law_head" (defArgs s_law_head) (defBody s_law_head) (defScope s_law_head) .none kV22 dc22 pm22 an22 cd22 ct22), sl22⟩) (c22 : PySem.W.codeIn K cd22 "_law_head" = true) (k22 : PySem.W.keepIn K (.ref f22) = true)
    (a23 : PySem.W.nsIn K mainGlobals "law" = some (some (.ref f23))) (l23 : K.lookup f23 = some ⟨oc23, od23, .func (PySem.W.fnOf "law" "law" (defArgs s_law) (defBody s_law) (defScope s_law) .none kV23 dc23 pm23 an23 (Value.ref ccL) ct23), sl23⟩) (c23 : PySem.W.codeIn K (Value.ref ccL) "law" = true) (k23 : PySem.W.keepIn K (.ref f23) = true)
    (xe0a : PySem.W.nsIn K mainGlobals "PlayError" = some (some (.ref E0)))
    (xe0b : PySem.W.excIn K E0 [.type "ValueError", .type "Exception", .type "BaseException", .type "object"] "ValueError.__new__" = true)
    (xe0c : PySem.W.keepIn K (.ref E0) = true)
    (xe0d : PySem.W.subIn K (.ref E0) (.type "BaseException") = some true)
    (xe0e : PySem.W.typeIn K (.ref E0) = some (.type "type"))
    (xe0f : PySem.W.findIn K (.ref E0) "__getattribute__" = some (some (.builtin "BaseException.__getattribute__")))
    (xe0g : PySem.W.findIn K (.ref E0) "__getattr__" = some none)
    (xe0h : PySem.W.hasDictIn K E0 = true)
    (xe0i : PySem.W.findIn K (.ref E0) "__class__" = some (some (.builtin "object.__class__")))
    (xe0j : PySem.W.specialIn K (.builtin "object.__class__") "__get__" = some (some (.builtin "getset_descriptor.__get__")))
    (xe0k : PySem.W.takesIn K (.builtin "object.__class__") = some true)
    (xe0l : PySem.W.mroIn K E0 (.type "object") = some true)
    (xe1a : PySem.W.nsIn K mainGlobals "BadGame" = some (some (.ref E1)))
    (xe1b : PySem.W.excIn K E1 [.type "ValueError", .type "Exception", .type "BaseException", .type "object"] "ValueError.__new__" = true)
    (xe1c : PySem.W.keepIn K (.ref E1) = true)
    (xe1d : PySem.W.subIn K (.ref E1) (.type "BaseException") = some true)
    (xe1e : PySem.W.typeIn K (.ref E1) = some (.type "type"))
    (xe1f : PySem.W.findIn K (.ref E1) "__getattribute__" = some (some (.builtin "BaseException.__getattribute__")))
    (xe1g : PySem.W.findIn K (.ref E1) "__getattr__" = some none)
    (xe1h : PySem.W.hasDictIn K E1 = true)
    (xe1i : PySem.W.findIn K (.ref E1) "__class__" = some (some (.builtin "object.__class__")))
    (xe1j : PySem.W.specialIn K (.builtin "object.__class__") "__get__" = some (some (.builtin "getset_descriptor.__get__")))
    (xe1k : PySem.W.takesIn K (.builtin "object.__class__") = some true)
    (xe1l : PySem.W.mroIn K E1 (.type "object") = some true)
    (xe2a : PySem.W.nsIn K mainGlobals "NotText" = some (some (.ref E2)))
    (xe2b : PySem.W.excIn K E2 [.type "ValueError", .type "Exception", .type "BaseException", .type "object"] "ValueError.__new__" = true)
    (xe2c : PySem.W.keepIn K (.ref E2) = true)
    (xe2d : PySem.W.subIn K (.ref E2) (.type "BaseException") = some true)
    (xe2e : PySem.W.typeIn K (.ref E2) = some (.type "type"))
    (xe2f : PySem.W.findIn K (.ref E2) "__getattribute__" = some (some (.builtin "BaseException.__getattribute__")))
    (xe2g : PySem.W.findIn K (.ref E2) "__getattr__" = some none)
    (xe2h : PySem.W.hasDictIn K E2 = true)
    (xe2i : PySem.W.findIn K (.ref E2) "__class__" = some (some (.builtin "object.__class__")))
    (xe2j : PySem.W.specialIn K (.builtin "object.__class__") "__get__" = some (some (.builtin "getset_descriptor.__get__")))
    (xe2k : PySem.W.takesIn K (.builtin "object.__class__") = some true)
    (xe2l : PySem.W.mroIn K E2 (.type "object") = some true)
    (xi0a : PySem.W.nsIn K mainGlobals "TooLarge" = some (some (.ref E3)))
    (xi0b : PySem.W.keepIn K (.ref E3) = true)
    (xi0c : PySem.W.subIn K (.ref E3) (.type "BaseException") = some true)
    (xi0d : PySem.W.typeIn K (.ref E3) = some (.type "type"))
    (xi0e : PySem.W.findIn K (.ref E3) "__getattribute__" = some (some (.builtin "BaseException.__getattribute__")))
    (xi0f : PySem.W.findIn K (.ref E3) "__getattr__" = some none)
    (xi0g : PySem.W.hasDictIn K E3 = true)
    (xi0h : PySem.W.findIn K (.ref E3) "__class__" = some (some (.builtin "object.__class__")))
    (xi0i : PySem.W.specialIn K (.builtin "object.__class__") "__get__" = some (some (.builtin "getset_descriptor.__get__")))
    (xi0j : PySem.W.takesIn K (.builtin "object.__class__") = some true)
    (xi0k : PySem.W.mroIn K E3 (.type "object") = some true)
    (xi0l : PySem.W.findIn K (.ref E3) "__setattr__" = some (some (.builtin "object.__setattr__")))
    (xi0m : PySem.W.findIn K (.ref E3) "most" = some none)
    (xi0n : PySem.W.findIn K (.ref E3) "__init__" = some (some (.ref fx0)))
    (xi0o : PySem.W.typeIn K (.ref fx0) = some (.type "function"))
    (xb0 : LamY.oexB K E3 = true)
    (lx0 : K.lookup fx0 = some ⟨ocx0, odx0, .func (PySem.W.fnOf "__init__" "TooLarge.__init__" (defArgs s_TooLarge___init__) (defBody s_TooLarge___init__) (defScope s_TooLarge___init__) .none kVx0 dcx0 pmx0 anx0 cdx0 ctx0), slx0⟩) (cx0 : PySem.W.codeIn K cdx0 "TooLarge.__init__" = true) (kx0 : PySem.W.keepIn K (.ref fx0) = true)
    (xi1a : PySem.W.nsIn K mainGlobals "InvalidText" = some (some (.ref E4)))
    (xi1b : PySem.W.keepIn K (.ref E4) = true)
    (xi1c : PySem.W.subIn K (.ref E4) (.type "BaseException") = some true)
    (xi1d : PySem.W.typeIn K (.ref E4) = some (.type "type"))
    (xi1e : PySem.W.findIn K (.ref E4) "__getattribute__" = some (some (.builtin "BaseException.__getattribute__")))
    (xi1f : PySem.W.findIn K (.ref E4) "__getattr__" = some none)
    (xi1g : PySem.W.hasDictIn K E4 = true)
    (xi1h : PySem.W.findIn K (.ref E4) "__class__" = some (some (.builtin "object.__class__")))
    (xi1i : PySem.W.specialIn K (.builtin "object.__class__") "__get__" = some (some (.builtin "getset_descriptor.__get__")))
    (xi1j : PySem.W.takesIn K (.builtin "object.__class__") = some true)
    (xi1k : PySem.W.mroIn K E4 (.type "object") = some true)
    (xi1l : PySem.W.findIn K (.ref E4) "__setattr__" = some (some (.builtin "object.__setattr__")))
    (xi1m : PySem.W.findIn K (.ref E4) "place" = some none)
    (xi1n : PySem.W.findIn K (.ref E4) "__init__" = some (some (.ref fx1)))
    (xi1o : PySem.W.typeIn K (.ref fx1) = some (.type "function"))
    (xb1 : LamY.oexB K E4 = true)
    (lx1 : K.lookup fx1 = some ⟨ocx1, odx1, .func (PySem.W.fnOf "__init__" "InvalidText.__init__" (defArgs s_InvalidText___init__) (defBody s_InvalidText___init__) (defScope s_InvalidText___init__) .none kVx1 dcx1 pmx1 anx1 cdx1 ctx1), slx1⟩) (cx1 : PySem.W.codeIn K cdx1 "InvalidText.__init__" = true) (kx1 : PySem.W.keepIn K (.ref fx1) = true)
    (xk0_0 : PySem.W.kitOne K (.ref E0) (.ref E0) = some true)
    (xk0_1 : PySem.W.kitOne K (.ref E0) (.ref E1) = some false)
    (xk0_2 : PySem.W.kitOne K (.ref E0) (.ref E2) = some false)
    (xk0_3 : PySem.W.kitOne K (.ref E0) (.ref E3) = some false)
    (xk0_4 : PySem.W.kitOne K (.ref E0) (.ref E4) = some false)
    (xm0 : PySem.W.exmOne K (.ref E0) (.ref E0) = some true)
    (xk1_0 : PySem.W.kitOne K (.ref E1) (.ref E0) = some true)
    (xk1_1 : PySem.W.kitOne K (.ref E1) (.ref E1) = some true)
    (xk1_2 : PySem.W.kitOne K (.ref E1) (.ref E2) = some false)
    (xk1_3 : PySem.W.kitOne K (.ref E1) (.ref E3) = some false)
    (xk1_4 : PySem.W.kitOne K (.ref E1) (.ref E4) = some false)
    (xm1 : PySem.W.exmOne K (.ref E1) (.ref E0) = some true)
    (xk2_0 : PySem.W.kitOne K (.ref E2) (.ref E0) = some true)
    (xk2_1 : PySem.W.kitOne K (.ref E2) (.ref E1) = some false)
    (xk2_2 : PySem.W.kitOne K (.ref E2) (.ref E2) = some true)
    (xk2_3 : PySem.W.kitOne K (.ref E2) (.ref E3) = some false)
    (xk2_4 : PySem.W.kitOne K (.ref E2) (.ref E4) = some false)
    (xm2 : PySem.W.exmOne K (.ref E2) (.ref E0) = some true)
    (xk3_0 : PySem.W.kitOne K (.ref E3) (.ref E0) = some true)
    (xk3_1 : PySem.W.kitOne K (.ref E3) (.ref E1) = some false)
    (xk3_2 : PySem.W.kitOne K (.ref E3) (.ref E2) = some false)
    (xk3_3 : PySem.W.kitOne K (.ref E3) (.ref E3) = some true)
    (xk3_4 : PySem.W.kitOne K (.ref E3) (.ref E4) = some false)
    (xm3 : PySem.W.exmOne K (.ref E3) (.ref E0) = some true)
    (xk4_0 : PySem.W.kitOne K (.ref E4) (.ref E0) = some true)
    (xk4_1 : PySem.W.kitOne K (.ref E4) (.ref E1) = some false)
    (xk4_2 : PySem.W.kitOne K (.ref E4) (.ref E2) = some false)
    (xk4_3 : PySem.W.kitOne K (.ref E4) (.ref E3) = some false)
    (xk4_4 : PySem.W.kitOne K (.ref E4) (.ref E4) = some true)
    (xm4 : PySem.W.exmOne K (.ref E4) (.ref E0) = some true)
    (tbL : PySem.W.tabIn K "law" = some (ccL, cPL)) (chL : PySem.W.codeHdIn K ccL cPL = true) (nPL : K.lookup cPL = none)
    (v0 : PySem.W.nsIn K mainGlobals "MOST_GAME_NODES" = some (some (Value.int 2000 tk0)))
    (v1 : PySem.W.nsIn K mainGlobals "MOST_HEIGHT" = some (some (Value.int 40 tk1)))
    (v2 : PySem.W.nsIn K mainGlobals "MOST_NIMBER" = some (some (Value.int 5 tk2)))
    (v3 : PySem.W.nsIn K mainGlobals "MOST_PARTS" = some (some (Value.int 16 tk3)))
    (v4 : PySem.W.nsIn K mainGlobals "MOST_INTEGER" = some (some (Value.int 16 tk4)))
    (v5 : PySem.W.nsIn K mainGlobals "DIGITS" = some (some (Value.str "0123456789" tk5)))
    (w_ZERO : PySem.W.nsIn K mainGlobals "ZERO" = some (some (.ref bt1)))
    (qt1 : K.lookup bt1 = some ⟨.type "tuple", ot1, .seq #[.ref bt2, .ref bt3] nt1, st1⟩)
    (qt3 : K.lookup bt3 = some ⟨.type "tuple", ot3, .seq #[] nt3, st3⟩)
    (qt2 : K.lookup bt2 = some ⟨.type "tuple", ot2, .seq #[] nt2, st2⟩)
    (w_STAR : PySem.W.nsIn K mainGlobals "STAR" = some (some (.ref bt4)))
    (qt4 : K.lookup bt4 = some ⟨.type "tuple", ot4, .seq #[.ref bt5, .ref bt9] nt4, st4⟩)
    (qt9 : K.lookup bt9 = some ⟨.type "tuple", ot9, .seq #[.ref bt10] nt9, st9⟩)
    (qt10 : K.lookup bt10 = some ⟨.type "tuple", ot10, .seq #[.ref bt11, .ref bt12] nt10, st10⟩)
    (qt12 : K.lookup bt12 = some ⟨.type "tuple", ot12, .seq #[] nt12, st12⟩)
    (qt11 : K.lookup bt11 = some ⟨.type "tuple", ot11, .seq #[] nt11, st11⟩)
    (qt5 : K.lookup bt5 = some ⟨.type "tuple", ot5, .seq #[.ref bt6] nt5, st5⟩)
    (qt6 : K.lookup bt6 = some ⟨.type "tuple", ot6, .seq #[.ref bt7, .ref bt8] nt6, st6⟩)
    (qt8 : K.lookup bt8 = some ⟨.type "tuple", ot8, .seq #[] nt8, st8⟩)
    (qt7 : K.lookup bt7 = some ⟨.type "tuple", ot7, .seq #[] nt7, st7⟩)
    (w_UP : PySem.W.nsIn K mainGlobals "UP" = some (some (.ref bt13)))
    (qt13 : K.lookup bt13 = some ⟨.type "tuple", ot13, .seq #[.ref bt14, .ref bt18] nt13, st13⟩)
    (qt18 : K.lookup bt18 = some ⟨.type "tuple", ot18, .seq #[.ref bt19] nt18, st18⟩)
    (qt19 : K.lookup bt19 = some ⟨.type "tuple", ot19, .seq #[.ref bt20, .ref bt24] nt19, st19⟩)
    (qt24 : K.lookup bt24 = some ⟨.type "tuple", ot24, .seq #[.ref bt25] nt24, st24⟩)
    (qt25 : K.lookup bt25 = some ⟨.type "tuple", ot25, .seq #[.ref bt26, .ref bt27] nt25, st25⟩)
    (qt27 : K.lookup bt27 = some ⟨.type "tuple", ot27, .seq #[] nt27, st27⟩)
    (qt26 : K.lookup bt26 = some ⟨.type "tuple", ot26, .seq #[] nt26, st26⟩)
    (qt20 : K.lookup bt20 = some ⟨.type "tuple", ot20, .seq #[.ref bt21] nt20, st20⟩)
    (qt21 : K.lookup bt21 = some ⟨.type "tuple", ot21, .seq #[.ref bt22, .ref bt23] nt21, st21⟩)
    (qt23 : K.lookup bt23 = some ⟨.type "tuple", ot23, .seq #[] nt23, st23⟩)
    (qt22 : K.lookup bt22 = some ⟨.type "tuple", ot22, .seq #[] nt22, st22⟩)
    (qt14 : K.lookup bt14 = some ⟨.type "tuple", ot14, .seq #[.ref bt15] nt14, st14⟩)
    (qt15 : K.lookup bt15 = some ⟨.type "tuple", ot15, .seq #[.ref bt16, .ref bt17] nt15, st15⟩)
    (qt17 : K.lookup bt17 = some ⟨.type "tuple", ot17, .seq #[] nt17, st17⟩)
    (qt16 : K.lookup bt16 = some ⟨.type "tuple", ot16, .seq #[] nt16, st16⟩)
    (w_DOWN : PySem.W.nsIn K mainGlobals "DOWN" = some (some (.ref bt28)))
    (qt28 : K.lookup bt28 = some ⟨.type "tuple", ot28, .seq #[.ref bt29, .ref bt39] nt28, st28⟩)
    (qt39 : K.lookup bt39 = some ⟨.type "tuple", ot39, .seq #[.ref bt40] nt39, st39⟩)
    (qt40 : K.lookup bt40 = some ⟨.type "tuple", ot40, .seq #[.ref bt41, .ref bt42] nt40, st40⟩)
    (qt42 : K.lookup bt42 = some ⟨.type "tuple", ot42, .seq #[] nt42, st42⟩)
    (qt41 : K.lookup bt41 = some ⟨.type "tuple", ot41, .seq #[] nt41, st41⟩)
    (qt29 : K.lookup bt29 = some ⟨.type "tuple", ot29, .seq #[.ref bt30] nt29, st29⟩)
    (qt30 : K.lookup bt30 = some ⟨.type "tuple", ot30, .seq #[.ref bt31, .ref bt35] nt30, st30⟩)
    (qt35 : K.lookup bt35 = some ⟨.type "tuple", ot35, .seq #[.ref bt36] nt35, st35⟩)
    (qt36 : K.lookup bt36 = some ⟨.type "tuple", ot36, .seq #[.ref bt37, .ref bt38] nt36, st36⟩)
    (qt38 : K.lookup bt38 = some ⟨.type "tuple", ot38, .seq #[] nt38, st38⟩)
    (qt37 : K.lookup bt37 = some ⟨.type "tuple", ot37, .seq #[] nt37, st37⟩)
    (qt31 : K.lookup bt31 = some ⟨.type "tuple", ot31, .seq #[.ref bt32] nt31, st31⟩)
    (qt32 : K.lookup bt32 = some ⟨.type "tuple", ot32, .seq #[.ref bt33, .ref bt34] nt32, st32⟩)
    (qt34 : K.lookup bt34 = some ⟨.type "tuple", ot34, .seq #[] nt34, st34⟩)
    (qt33 : K.lookup bt33 = some ⟨.type "tuple", ot33, .seq #[] nt33, st33⟩)
    (w_UP_STAR : PySem.W.nsIn K mainGlobals "UP_STAR" = some (some (.ref bt43)))
    (qt43 : K.lookup bt43 = some ⟨.type "tuple", ot43, .seq #[.ref bt44, .ref bt57] nt43, st43⟩)
    (qt57 : K.lookup bt57 = some ⟨.type "tuple", ot57, .seq #[.ref bt58] nt57, st57⟩)
    (qt58 : K.lookup bt58 = some ⟨.type "tuple", ot58, .seq #[.ref bt59, .ref bt60] nt58, st58⟩)
    (qt60 : K.lookup bt60 = some ⟨.type "tuple", ot60, .seq #[] nt60, st60⟩)
    (qt59 : K.lookup bt59 = some ⟨.type "tuple", ot59, .seq #[] nt59, st59⟩)
    (qt44 : K.lookup bt44 = some ⟨.type "tuple", ot44, .seq #[.ref bt45, .ref bt48] nt44, st44⟩)
    (qt48 : K.lookup bt48 = some ⟨.type "tuple", ot48, .seq #[.ref bt49, .ref bt53] nt48, st48⟩)
    (qt53 : K.lookup bt53 = some ⟨.type "tuple", ot53, .seq #[.ref bt54] nt53, st53⟩)
    (qt54 : K.lookup bt54 = some ⟨.type "tuple", ot54, .seq #[.ref bt55, .ref bt56] nt54, st54⟩)
    (qt56 : K.lookup bt56 = some ⟨.type "tuple", ot56, .seq #[] nt56, st56⟩)
    (qt55 : K.lookup bt55 = some ⟨.type "tuple", ot55, .seq #[] nt55, st55⟩)
    (qt49 : K.lookup bt49 = some ⟨.type "tuple", ot49, .seq #[.ref bt50] nt49, st49⟩)
    (qt50 : K.lookup bt50 = some ⟨.type "tuple", ot50, .seq #[.ref bt51, .ref bt52] nt50, st50⟩)
    (qt52 : K.lookup bt52 = some ⟨.type "tuple", ot52, .seq #[] nt52, st52⟩)
    (qt51 : K.lookup bt51 = some ⟨.type "tuple", ot51, .seq #[] nt51, st51⟩)
    (qt45 : K.lookup bt45 = some ⟨.type "tuple", ot45, .seq #[.ref bt46, .ref bt47] nt45, st45⟩)
    (qt47 : K.lookup bt47 = some ⟨.type "tuple", ot47, .seq #[] nt47, st47⟩)
    (qt46 : K.lookup bt46 = some ⟨.type "tuple", ot46, .seq #[] nt46, st46⟩)
    (w_DOWN_STAR : PySem.W.nsIn K mainGlobals "DOWN_STAR" = some (some (.ref bt61)))
    (qt61 : K.lookup bt61 = some ⟨.type "tuple", ot61, .seq #[.ref bt62, .ref bt66] nt61, st61⟩)
    (qt66 : K.lookup bt66 = some ⟨.type "tuple", ot66, .seq #[.ref bt67, .ref bt70] nt66, st66⟩)
    (qt70 : K.lookup bt70 = some ⟨.type "tuple", ot70, .seq #[.ref bt71, .ref bt75] nt70, st70⟩)
    (qt75 : K.lookup bt75 = some ⟨.type "tuple", ot75, .seq #[.ref bt76] nt75, st75⟩)
    (qt76 : K.lookup bt76 = some ⟨.type "tuple", ot76, .seq #[.ref bt77, .ref bt78] nt76, st76⟩)
    (qt78 : K.lookup bt78 = some ⟨.type "tuple", ot78, .seq #[] nt78, st78⟩)
    (qt77 : K.lookup bt77 = some ⟨.type "tuple", ot77, .seq #[] nt77, st77⟩)
    (qt71 : K.lookup bt71 = some ⟨.type "tuple", ot71, .seq #[.ref bt72] nt71, st71⟩)
    (qt72 : K.lookup bt72 = some ⟨.type "tuple", ot72, .seq #[.ref bt73, .ref bt74] nt72, st72⟩)
    (qt74 : K.lookup bt74 = some ⟨.type "tuple", ot74, .seq #[] nt74, st74⟩)
    (qt73 : K.lookup bt73 = some ⟨.type "tuple", ot73, .seq #[] nt73, st73⟩)
    (qt67 : K.lookup bt67 = some ⟨.type "tuple", ot67, .seq #[.ref bt68, .ref bt69] nt67, st67⟩)
    (qt69 : K.lookup bt69 = some ⟨.type "tuple", ot69, .seq #[] nt69, st69⟩)
    (qt68 : K.lookup bt68 = some ⟨.type "tuple", ot68, .seq #[] nt68, st68⟩)
    (qt62 : K.lookup bt62 = some ⟨.type "tuple", ot62, .seq #[.ref bt63] nt62, st62⟩)
    (qt63 : K.lookup bt63 = some ⟨.type "tuple", ot63, .seq #[.ref bt64, .ref bt65] nt63, st63⟩)
    (qt65 : K.lookup bt65 = some ⟨.type "tuple", ot65, .seq #[] nt65, st65⟩)
    (qt64 : K.lookup bt64 = some ⟨.type "tuple", ot64, .seq #[] nt64, st64⟩)
    (z0 : PySem.W.nsIn K mainGlobals "len" = some none)
    (z1 : PySem.W.nsIn K mainGlobals "range" = some none)
    (z2 : PySem.W.nsIn K mainGlobals "int" = some none)
    (z3 : PySem.W.nsIn K mainGlobals "str" = some none)
    (z4 : PySem.W.nsIn K mainGlobals "tuple" = some none)
    (z5 : PySem.W.nsIn K mainGlobals "isinstance" = some none)
    (z6 : PySem.W.nsIn K mainGlobals "enumerate" = some none)
    (z7 : PySem.W.nsIn K mainGlobals "max" = some none)
    (z8 : PySem.W.nsIn K mainGlobals "abs" = some none) :
     Nonempty (Txt K mg) :=
  ⟨{ a_is_game := f0, d_is_game := _, F_is_game := fun_mk (st := s_is_game) l0 c0 k0, b_is_game := (fun_mk (st := s_is_game) l0 c0 k0).binds (ps := ["value"]) (fun _ _ _ _ _ _ us hl => by obtain ⟨a0, rfl⟩ := len_1 hl; rfl), g_is_game := PySem.W.mg_of X G a0,
     a_need_game := f1, d_need_game := _, F_need_game := fun_mk (st := s_need_game) l1 c1 k1, b_need_game := (fun_mk (st := s_need_game) l1 c1 k1).binds (ps := ["value"]) (fun _ _ _ _ _ _ us hl => by obtain ⟨a0, rfl⟩ := len_1 hl; rfl), g_need_game := PySem.W.mg_of X G a1,
     a_integer_form := f2, d_integer_form := _, F_integer_form := fun_mk (st := s_integer_form) l2 c2 k2, b_integer_form := (fun_mk (st := s_integer_form) l2 c2 k2).binds (ps := ["number"]) (fun _ _ _ _ _ _ us hl => by obtain ⟨a0, rfl⟩ := len_1 hl; rfl), g_integer_form := PySem.W.mg_of X G a2,
     a_number_form := f3, d_number_form := _, F_number_form := fun_mk (st := s_number_form) l3 c3 k3, b_number_form := (fun_mk (st := s_number_form) l3 c3 k3).binds (ps := ["top", "bottom"]) (fun _ _ _ _ _ _ us hl => by obtain ⟨a0, a1, rfl⟩ := len_2 hl; rfl), g_number_form := PySem.W.mg_of X G a3,
     a_nimber_form := f4, d_nimber_form := _, F_nimber_form := fun_mk (st := s_nimber_form) l4 c4 k4, b_nimber_form := (fun_mk (st := s_nimber_form) l4 c4 k4).binds (ps := ["size"]) (fun _ _ _ _ _ _ us hl => by obtain ⟨a0, rfl⟩ := len_1 hl; rfl), g_nimber_form := PySem.W.mg_of X G a4,
     a_integer_of := f5, d_integer_of := _, F_integer_of := fun_mk (st := s_integer_of) l5 c5 k5, b_integer_of := (fun_mk (st := s_integer_of) l5 c5 k5).binds (ps := ["game"]) (fun _ _ _ _ _ _ us hl => by obtain ⟨a0, rfl⟩ := len_1 hl; rfl), g_integer_of := PySem.W.mg_of X G a5,
     a_named := f6, d_named := _, F_named := fun_mk (st := s_named) l6 c6 k6, b_named := (fun_mk (st := s_named) l6 c6 k6).binds (ps := ["game"]) (fun _ _ _ _ _ _ us hl => by obtain ⟨a0, rfl⟩ := len_1 hl; rfl), g_named := PySem.W.mg_of X G a6,
     a_fraction_of := f7, d_fraction_of := _, F_fraction_of := fun_mk (st := s_fraction_of) l7 c7 k7, b_fraction_of := (fun_mk (st := s_fraction_of) l7 c7 k7).binds (ps := ["game"]) (fun _ _ _ _ _ _ us hl => by obtain ⟨a0, rfl⟩ := len_1 hl; rfl), g_fraction_of := PySem.W.mg_of X G a7,
     a_fraction_name := f8, d_fraction_name := _, F_fraction_name := fun_mk (st := s_fraction_name) l8 c8 k8, b_fraction_name := (fun_mk (st := s_fraction_name) l8 c8 k8).binds (ps := ["game"]) (fun _ _ _ _ _ _ us hl => by obtain ⟨a0, rfl⟩ := len_1 hl; rfl), g_fraction_name := PySem.W.mg_of X G a8,
     a_text_of := f9, d_text_of := _, F_text_of := fun_mk (st := s_text_of) l9 c9 k9, b_text_of := (fun_mk (st := s_text_of) l9 c9 k9).binds (ps := ["game"]) (fun _ _ _ _ _ _ us hl => by obtain ⟨a0, rfl⟩ := len_1 hl; rfl), g_text_of := PySem.W.mg_of X G a9,
     a_write := f10, d_write := _, F_write := fun_mk (st := s_write) l10 c10 k10, b_write := (fun_mk (st := s_write) l10 c10 k10).binds (ps := ["game"]) (fun _ _ _ _ _ _ us hl => by obtain ⟨a0, rfl⟩ := len_1 hl; rfl), g_write := PySem.W.mg_of X G a10,
     a_digits_from := f11, d_digits_from := _, F_digits_from := fun_mk (st := s_digits_from) l11 c11 k11, b_digits_from := (fun_mk (st := s_digits_from) l11 c11 k11).binds (ps := ["text", "at"]) (fun _ _ _ _ _ _ us hl => by obtain ⟨a0, a1, rfl⟩ := len_2 hl; rfl), g_digits_from := PySem.W.mg_of X G a11,
     a_read_whole := f12, d_read_whole := _, F_read_whole := fun_mk (st := s_read_whole) l12 c12 k12, b_read_whole := (fun_mk (st := s_read_whole) l12 c12 k12).binds (ps := ["text", "at", "start"]) (fun _ _ _ _ _ _ us hl => by obtain ⟨a0, a1, a2, rfl⟩ := len_3 hl; rfl), g_read_whole := PySem.W.mg_of X G a12,
     a_read_number := f13, d_read_number := _, F_read_number := fun_mk (st := s_read_number) l13 c13 k13, b_read_number := (fun_mk (st := s_read_number) l13 c13 k13).binds (ps := ["text", "start"]) (fun _ _ _ _ _ _ us hl => by obtain ⟨a0, a1, rfl⟩ := len_2 hl; rfl), g_read_number := PySem.W.mg_of X G a13,
     a_read_star := f14, d_read_star := _, F_read_star := fun_mk (st := s_read_star) l14 c14 k14, b_read_star := (fun_mk (st := s_read_star) l14 c14 k14).binds (ps := ["text", "start"]) (fun _ _ _ _ _ _ us hl => by obtain ⟨a0, a1, rfl⟩ := len_2 hl; rfl), g_read_star := PySem.W.mg_of X G a14,
     a_read_side := f15, d_read_side := _, F_read_side := fun_mk (st := s_read_side) l15 c15 k15, b_read_side := (fun_mk (st := s_read_side) l15 c15 k15).binds (ps := ["text", "at", "last"]) (fun _ _ _ _ _ _ us hl => by obtain ⟨a0, a1, a2, rfl⟩ := len_3 hl; rfl), g_read_side := PySem.W.mg_of X G a15,
     a_read_from := f16, d_read_from := _, F_read_from := fun_mk (st := s_read_from) l16 c16 k16, b_read_from := (fun_mk (st := s_read_from) l16 c16 k16).binds (ps := ["text", "at"]) (fun _ _ _ _ _ _ us hl => by obtain ⟨a0, a1, rfl⟩ := len_2 hl; rfl), g_read_from := PySem.W.mg_of X G a16,
     a_too_deep := f17, d_too_deep := _, F_too_deep := fun_mk (st := s_too_deep) l17 c17 k17, b_too_deep := (fun_mk (st := s_too_deep) l17 c17 k17).binds (ps := ["text"]) (fun _ _ _ _ _ _ us hl => by obtain ⟨a0, rfl⟩ := len_1 hl; rfl), g_too_deep := PySem.W.mg_of X G a17,
     a_read := f18, d_read := _, F_read := fun_mk (st := s_read) l18 c18 k18, b_read := (fun_mk (st := s_read) l18 c18 k18).binds (ps := ["text"]) (fun _ _ _ _ _ _ us hl => by obtain ⟨a0, rfl⟩ := len_1 hl; rfl), g_read := PySem.W.mg_of X G a18,
     a_law_taken := f19, d_law_taken := _, F_law_taken := fun_mk (st := s_law_taken) l19 c19 k19, b_law_taken := (fun_mk (st := s_law_taken) l19 c19 k19).binds (ps := ["_law_row", "_law_many"]) (fun _ _ _ _ _ _ us hl => by obtain ⟨a0, a1, rfl⟩ := len_2 hl; rfl), g_law_taken := PySem.W.mg_of X G a19,
     a_law_pick := f20, d_law_pick := _, F_law_pick := fun_mk (st := s_law_pick) l20 c20 k20, b_law_pick := (fun_mk (st := s_law_pick) l20 c20 k20).binds (ps := ["_law_row", "_law_things"]) (fun _ _ _ _ _ _ us hl => by obtain ⟨a0, a1, rfl⟩ := len_2 hl; rfl), g_law_pick := PySem.W.mg_of X G a20,
     a_law_word := f21, d_law_word := _, F_law_word := fun_mk (st := s_law_word) l21 c21 k21, b_law_word := (fun_mk (st := s_law_word) l21 c21 k21).binds (ps := ["_law_work"]) (fun _ _ _ _ _ _ us hl => by obtain ⟨a0, rfl⟩ := len_1 hl; rfl), g_law_word := PySem.W.mg_of X G a21,
     a_law_head := f22, d_law_head := _, F_law_head := fun_mk (st := s_law_head) l22 c22 k22, b_law_head := (fun_mk (st := s_law_head) l22 c22 k22).binds (ps := ["_law_row"]) (fun _ _ _ _ _ _ us hl => by obtain ⟨a0, rfl⟩ := len_1 hl; rfl), g_law_head := PySem.W.mg_of X G a22,
     a_law := f23, d_law := _, F_law := fun_mk (st := s_law) l23 c23 k23, b_law := (fun_mk (st := s_law) l23 c23 k23).binds (ps := ["_law_script"]) (fun _ _ _ _ _ _ us hl => by obtain ⟨a0, rfl⟩ := len_1 hl; rfl), g_law := PySem.W.mg_of X G a23,
     B_law := fun s v => .of_eq rfl,
     C_PlayError := E0, gx_PlayError := PySem.W.mg_of X G xe0a, xi_PlayError := xe0b, kx_PlayError := xe0c, bx_PlayError := xe0d, tx_PlayError := xe0e, ec_PlayError := ⟨xe0f, xe0g, xe0d, xe0h, xe0i, xe0j, xe0k, xe0l⟩,
     C_BadGame := E1, gx_BadGame := PySem.W.mg_of X G xe1a, xi_BadGame := xe1b, kx_BadGame := xe1c, bx_BadGame := xe1d, tx_BadGame := xe1e, ec_BadGame := ⟨xe1f, xe1g, xe1d, xe1h, xe1i, xe1j, xe1k, xe1l⟩,
     C_NotText := E2, gx_NotText := PySem.W.mg_of X G xe2a, xi_NotText := xe2b, kx_NotText := xe2c, bx_NotText := xe2d, tx_NotText := xe2e, ec_NotText := ⟨xe2f, xe2g, xe2d, xe2h, xe2i, xe2j, xe2k, xe2l⟩,
     C_TooLarge := E3, gx_TooLarge := PySem.W.mg_of X G xi0a, ox_TooLarge := ⟨xb0, xi0l, xi0c, xi0d, xi0b⟩, ec_TooLarge := ⟨xi0e, xi0f, xi0c, xi0g, xi0h, xi0i, xi0j, xi0k⟩, no_TooLarge := xi0m,
     a_TooLarge___init__ := fx0, d_TooLarge___init__ := _, F_TooLarge___init__ := fun_mk (st := s_TooLarge___init__) lx0 cx0 kx0, b_TooLarge___init__ := (fun_mk (st := s_TooLarge___init__) lx0 cx0 kx0).binds (ps := ["self", "most"]) (fun _ _ _ _ _ _ us hl => match us, hl with | [_, _], _ => rfl), ic_TooLarge := xi0n, ti_TooLarge := xi0o,
     C_InvalidText := E4, gx_InvalidText := PySem.W.mg_of X G xi1a, ox_InvalidText := ⟨xb1, xi1l, xi1c, xi1d, xi1b⟩, ec_InvalidText := ⟨xi1e, xi1f, xi1c, xi1g, xi1h, xi1i, xi1j, xi1k⟩, no_InvalidText := xi1m,
     a_InvalidText___init__ := fx1, d_InvalidText___init__ := _, F_InvalidText___init__ := fun_mk (st := s_InvalidText___init__) lx1 cx1 kx1, b_InvalidText___init__ := (fun_mk (st := s_InvalidText___init__) lx1 cx1 kx1).binds (ps := ["self", "place"]) (fun _ _ _ _ _ _ us hl => match us, hl with | [_, _], _ => rfl), ic_InvalidText := xi1n, ti_InvalidText := xi1o,
     ki_PlayError_PlayError := xk0_0,
     ki_PlayError_BadGame := xk0_1,
     ki_PlayError_NotText := xk0_2,
     ki_PlayError_TooLarge := xk0_3,
     ki_PlayError_InvalidText := xk0_4,
     em_PlayError := xm0,
     ki_BadGame_PlayError := xk1_0,
     ki_BadGame_BadGame := xk1_1,
     ki_BadGame_NotText := xk1_2,
     ki_BadGame_TooLarge := xk1_3,
     ki_BadGame_InvalidText := xk1_4,
     em_BadGame := xm1,
     ki_NotText_PlayError := xk2_0,
     ki_NotText_BadGame := xk2_1,
     ki_NotText_NotText := xk2_2,
     ki_NotText_TooLarge := xk2_3,
     ki_NotText_InvalidText := xk2_4,
     em_NotText := xm2,
     ki_TooLarge_PlayError := xk3_0,
     ki_TooLarge_BadGame := xk3_1,
     ki_TooLarge_NotText := xk3_2,
     ki_TooLarge_TooLarge := xk3_3,
     ki_TooLarge_InvalidText := xk3_4,
     em_TooLarge := xm3,
     ki_InvalidText_PlayError := xk4_0,
     ki_InvalidText_BadGame := xk4_1,
     ki_InvalidText_NotText := xk4_2,
     ki_InvalidText_TooLarge := xk4_3,
     ki_InvalidText_InvalidText := xk4_4,
     em_InvalidText := xm4,
     cc_law := ccL, cP_law := cPL, fc_law := ⟨⟨_, _, _, _, _, _, _, _, rfl, l23, c23⟩⟩, tb_law := tbL, ch_law := chL, nP_law := nPL,
     t_MOST_GAME_NODES := tk0, c_MOST_GAME_NODES := PySem.W.mg_of X G v0,
     t_MOST_HEIGHT := tk1, c_MOST_HEIGHT := PySem.W.mg_of X G v1,
     t_MOST_NIMBER := tk2, c_MOST_NIMBER := PySem.W.mg_of X G v2,
     t_MOST_PARTS := tk3, c_MOST_PARTS := PySem.W.mg_of X G v3,
     t_MOST_INTEGER := tk4, c_MOST_INTEGER := PySem.W.mg_of X G v4,
     t_DIGITS := tk5, c_DIGITS := PySem.W.mg_of X G v5,
     v_ZERO := .ref bt1, u_ZERO := _, c_ZERO := PySem.W.mg_of X G w_ZERO, r_ZERO := rfl, q_ZERO := fun H => kt_tup (xs := [.ref bt2, .ref bt3]) qt1 (.cons rfl (.cons rfl .nil)) (.cons (kt_tup (xs := []) qt2 .nil .nil) (.cons (kt_tup (xs := []) qt3 .nil .nil) .nil)),
     v_STAR := .ref bt4, u_STAR := _, c_STAR := PySem.W.mg_of X G w_STAR, r_STAR := rfl, q_STAR := fun H => kt_tup (xs := [.ref bt5, .ref bt9]) qt4 (.cons rfl (.cons rfl .nil)) (.cons (kt_tup (xs := [.ref bt6]) qt5 (.cons rfl .nil) (.cons (kt_tup (xs := [.ref bt7, .ref bt8]) qt6 (.cons rfl (.cons rfl .nil)) (.cons (kt_tup (xs := []) qt7 .nil .nil) (.cons (kt_tup (xs := []) qt8 .nil .nil) .nil))) .nil)) (.cons (kt_tup (xs := [.ref bt10]) qt9 (.cons rfl .nil) (.cons (kt_tup (xs := [.ref bt11, .ref bt12]) qt10 (.cons rfl (.cons rfl .nil)) (.cons (kt_tup (xs := []) qt11 .nil .nil) (.cons (kt_tup (xs := []) qt12 .nil .nil) .nil))) .nil)) .nil)),
     v_UP := .ref bt13, u_UP := _, c_UP := PySem.W.mg_of X G w_UP, r_UP := rfl, q_UP := fun H => kt_tup (xs := [.ref bt14, .ref bt18]) qt13 (.cons rfl (.cons rfl .nil)) (.cons (kt_tup (xs := [.ref bt15]) qt14 (.cons rfl .nil) (.cons (kt_tup (xs := [.ref bt16, .ref bt17]) qt15 (.cons rfl (.cons rfl .nil)) (.cons (kt_tup (xs := []) qt16 .nil .nil) (.cons (kt_tup (xs := []) qt17 .nil .nil) .nil))) .nil)) (.cons (kt_tup (xs := [.ref bt19]) qt18 (.cons rfl .nil) (.cons (kt_tup (xs := [.ref bt20, .ref bt24]) qt19 (.cons rfl (.cons rfl .nil)) (.cons (kt_tup (xs := [.ref bt21]) qt20 (.cons rfl .nil) (.cons (kt_tup (xs := [.ref bt22, .ref bt23]) qt21 (.cons rfl (.cons rfl .nil)) (.cons (kt_tup (xs := []) qt22 .nil .nil) (.cons (kt_tup (xs := []) qt23 .nil .nil) .nil))) .nil)) (.cons (kt_tup (xs := [.ref bt25]) qt24 (.cons rfl .nil) (.cons (kt_tup (xs := [.ref bt26, .ref bt27]) qt25 (.cons rfl (.cons rfl .nil)) (.cons (kt_tup (xs := []) qt26 .nil .nil) (.cons (kt_tup (xs := []) qt27 .nil .nil) .nil))) .nil)) .nil))) .nil)) .nil)),
     v_DOWN := .ref bt28, u_DOWN := _, c_DOWN := PySem.W.mg_of X G w_DOWN, r_DOWN := rfl, q_DOWN := fun H => kt_tup (xs := [.ref bt29, .ref bt39]) qt28 (.cons rfl (.cons rfl .nil)) (.cons (kt_tup (xs := [.ref bt30]) qt29 (.cons rfl .nil) (.cons (kt_tup (xs := [.ref bt31, .ref bt35]) qt30 (.cons rfl (.cons rfl .nil)) (.cons (kt_tup (xs := [.ref bt32]) qt31 (.cons rfl .nil) (.cons (kt_tup (xs := [.ref bt33, .ref bt34]) qt32 (.cons rfl (.cons rfl .nil)) (.cons (kt_tup (xs := []) qt33 .nil .nil) (.cons (kt_tup (xs := []) qt34 .nil .nil) .nil))) .nil)) (.cons (kt_tup (xs := [.ref bt36]) qt35 (.cons rfl .nil) (.cons (kt_tup (xs := [.ref bt37, .ref bt38]) qt36 (.cons rfl (.cons rfl .nil)) (.cons (kt_tup (xs := []) qt37 .nil .nil) (.cons (kt_tup (xs := []) qt38 .nil .nil) .nil))) .nil)) .nil))) .nil)) (.cons (kt_tup (xs := [.ref bt40]) qt39 (.cons rfl .nil) (.cons (kt_tup (xs := [.ref bt41, .ref bt42]) qt40 (.cons rfl (.cons rfl .nil)) (.cons (kt_tup (xs := []) qt41 .nil .nil) (.cons (kt_tup (xs := []) qt42 .nil .nil) .nil))) .nil)) .nil)),
     v_UP_STAR := .ref bt43, u_UP_STAR := _, c_UP_STAR := PySem.W.mg_of X G w_UP_STAR, r_UP_STAR := rfl, q_UP_STAR := fun H => kt_tup (xs := [.ref bt44, .ref bt57]) qt43 (.cons rfl (.cons rfl .nil)) (.cons (kt_tup (xs := [.ref bt45, .ref bt48]) qt44 (.cons rfl (.cons rfl .nil)) (.cons (kt_tup (xs := [.ref bt46, .ref bt47]) qt45 (.cons rfl (.cons rfl .nil)) (.cons (kt_tup (xs := []) qt46 .nil .nil) (.cons (kt_tup (xs := []) qt47 .nil .nil) .nil))) (.cons (kt_tup (xs := [.ref bt49, .ref bt53]) qt48 (.cons rfl (.cons rfl .nil)) (.cons (kt_tup (xs := [.ref bt50]) qt49 (.cons rfl .nil) (.cons (kt_tup (xs := [.ref bt51, .ref bt52]) qt50 (.cons rfl (.cons rfl .nil)) (.cons (kt_tup (xs := []) qt51 .nil .nil) (.cons (kt_tup (xs := []) qt52 .nil .nil) .nil))) .nil)) (.cons (kt_tup (xs := [.ref bt54]) qt53 (.cons rfl .nil) (.cons (kt_tup (xs := [.ref bt55, .ref bt56]) qt54 (.cons rfl (.cons rfl .nil)) (.cons (kt_tup (xs := []) qt55 .nil .nil) (.cons (kt_tup (xs := []) qt56 .nil .nil) .nil))) .nil)) .nil))) .nil))) (.cons (kt_tup (xs := [.ref bt58]) qt57 (.cons rfl .nil) (.cons (kt_tup (xs := [.ref bt59, .ref bt60]) qt58 (.cons rfl (.cons rfl .nil)) (.cons (kt_tup (xs := []) qt59 .nil .nil) (.cons (kt_tup (xs := []) qt60 .nil .nil) .nil))) .nil)) .nil)),
     v_DOWN_STAR := .ref bt61, u_DOWN_STAR := _, c_DOWN_STAR := PySem.W.mg_of X G w_DOWN_STAR, r_DOWN_STAR := rfl, q_DOWN_STAR := fun H => kt_tup (xs := [.ref bt62, .ref bt66]) qt61 (.cons rfl (.cons rfl .nil)) (.cons (kt_tup (xs := [.ref bt63]) qt62 (.cons rfl .nil) (.cons (kt_tup (xs := [.ref bt64, .ref bt65]) qt63 (.cons rfl (.cons rfl .nil)) (.cons (kt_tup (xs := []) qt64 .nil .nil) (.cons (kt_tup (xs := []) qt65 .nil .nil) .nil))) .nil)) (.cons (kt_tup (xs := [.ref bt67, .ref bt70]) qt66 (.cons rfl (.cons rfl .nil)) (.cons (kt_tup (xs := [.ref bt68, .ref bt69]) qt67 (.cons rfl (.cons rfl .nil)) (.cons (kt_tup (xs := []) qt68 .nil .nil) (.cons (kt_tup (xs := []) qt69 .nil .nil) .nil))) (.cons (kt_tup (xs := [.ref bt71, .ref bt75]) qt70 (.cons rfl (.cons rfl .nil)) (.cons (kt_tup (xs := [.ref bt72]) qt71 (.cons rfl .nil) (.cons (kt_tup (xs := [.ref bt73, .ref bt74]) qt72 (.cons rfl (.cons rfl .nil)) (.cons (kt_tup (xs := []) qt73 .nil .nil) (.cons (kt_tup (xs := []) qt74 .nil .nil) .nil))) .nil)) (.cons (kt_tup (xs := [.ref bt76]) qt75 (.cons rfl .nil) (.cons (kt_tup (xs := [.ref bt77, .ref bt78]) qt76 (.cons rfl (.cons rfl .nil)) (.cons (kt_tup (xs := []) qt77 .nil .nil) (.cons (kt_tup (xs := []) qt78 .nil .nil) .nil))) .nil)) .nil))) .nil))) .nil)),
     m_len := PySem.W.mg_none_of X G z0,
     m_range := PySem.W.mg_none_of X G z1,
     m_int := PySem.W.mg_none_of X G z2,
     m_str := PySem.W.mg_none_of X G z3,
     m_tuple := PySem.W.mg_none_of X G z4,
     m_isinstance := PySem.W.mg_none_of X G z5,
     m_enumerate := PySem.W.mg_none_of X G z6,
     m_max := PySem.W.mg_none_of X G z7,
     m_abs := PySem.W.mg_none_of X G z8 }⟩
end K07


set_option Elab.async false
set_option linter.all false
set_option maxRecDepth 100000
set_option maxHeartbeats 4000000
namespace DL
open PySem L2 TG
def ptr (a : Addr) : PyData := .dict [(.none, .int (a : Int))]
mutual
inductive Dp (K : PySem.W.Frag) (H : Hp) : V → PyData → Prop
  | non : Dp K H .non .none
  | bl (b : Bool) : Dp K H (.bl b) (.bool b)
  | int (i : Int) : Dp K H (.int i) (.int i)
  | str (x : Str) : Dp K H (.str x) (.str x)
  | lst {a : Addr} {xs : List V} {ds : List PyData} : SqL K H a xs → DpAll K H xs ds → Dp K H (.ref a) (.list ds)
  | tup {a : Addr} {xs : List V} {ds : List PyData} : SqT K H a xs → DpAll K H xs ds → Dp K H (.ref a) (.tuple ds)
  | ptr (a : Addr) : Dp K H (.ref a) (ptr a)
  | dic {a : Addr} {kvs : List (Key × V)} : H a = some (.dK kvs) → Dp K H (.ref a) (.dict [])
inductive DpAll (K : PySem.W.Frag) (H : Hp) : List V → List PyData → Prop
  | nil : DpAll K H [] []
  | cons {v : V} {vs : List V} {d : PyData} {ds : List PyData} : Dp K H v d → DpAll K H vs ds → DpAll K H (v :: vs) (d :: ds)
end
section
variable {K : PySem.W.Frag} {H H' : Hp}
mutual
theorem dp_mono (k : Same H H') : ∀ (d : PyData) (v : V), Dp K H v d → Dp K H' v d
  | .none, _, h => by cases h; exact .non
  | .bool b, _, h => by cases h; exact .bl b
  | .int i, _, h => by cases h; exact .int i
  | .str x, _, h => by cases h; exact .str x
  | .list ds, _, h => by
    cases h with
    | lst hs ha => exact .lst (sqL k hs) (dps_mono k ds _ ha)
  | .dict kvs, _, h => by
    generalize e : PyData.dict kvs = d at h
    cases h with
    | ptr a => exact .ptr a
    | dic q => exact .dic (k _ _ q)
    | _ => cases e
  | .tuple ds, _, h => by
    cases h with
    | tup hs ha => exact .tup (sqT k hs) (dps_mono k ds _ ha)
theorem dps_mono (k : Same H H') : ∀ (ds : List PyData) (vs : List V), DpAll K H vs ds → DpAll K H' vs ds
  | [], _, h => by cases h; exact .nil
  | d :: ds, _, h => by
    cases h with
    | cons h1 h2 => exact .cons (dp_mono k d _ h1) (dps_mono k ds _ h2)
end
mutual
theorem dp_of : ∀ (d : PyData) (v : V), L2.Dp K H v d → Dp K H v d
  | .none, _, h => by cases h; exact .non
  | .bool b, _, h => by cases h; exact .bl b
  | .int i, _, h => by cases h; exact .int i
  | .str x, _, h => by cases h; exact .str x
  | .list ds, _, h => by
    cases h with
    | lst hs ha => exact .lst hs (dps_of ds _ ha)
  | .dict kvs, _, h => by cases h
  | .tuple ds, _, h => by
    cases h with
    | tup hs ha => exact .tup hs (dps_of ds _ ha)
theorem dps_of : ∀ (ds : List PyData) (vs : List V), L2.DpAll K H vs ds → DpAll K H vs ds
  | [], _, h => by cases h; exact .nil
  | d :: ds, _, h => by
    cases h with
    | cons h1 h2 => exact .cons (dp_of d _ h1) (dps_of ds _ h2)
end
mutual
theorem dp_to : ∀ (d : PyData) (v : V), d.canLay0 = true → Dp K H v d → L2.Dp K H v d
  | .none, _, _, h => by cases h; exact .non
  | .bool b, _, _, h => by cases h; exact .bl b
  | .int i, _, _, h => by cases h; exact .int i
  | .str x, _, _, h => by cases h; exact .str x
  | .list ds, _, p, h => by
    cases h with
    | lst hs ha => exact .lst hs (dps_to ds _ (by rw [PyData.canLay0] at p; exact p) ha)
  | .dict kvs, _, p, h => by rw [PyData.canLay0] at p; cases p
  | .tuple ds, _, p, h => by
    cases h with
    | tup hs ha => exact .tup hs (dps_to ds _ (by rw [PyData.canLay0] at p; exact p) ha)
theorem dps_to : ∀ (ds : List PyData) (vs : List V), PyData.canLayAll0 ds = true → DpAll K H vs ds → L2.DpAll K H vs ds
  | [], _, _, h => by cases h; exact .nil
  | d :: ds, _, p, h => by
    rw [PyData.canLayAll0, Bool.and_eq_true] at p
    cases h with
    | cons h1 h2 => exact .cons (dp_to d _ p.1 h1) (dps_to ds _ p.2 h2)
end
theorem dp_shaped {d : PyData} {v : V} (h : Dp K H v d) (s : SeqAt.shaped d = true) : L2.Dp K H v d := dp_to d v (SeqAt.canLay_of_shaped s) h
theorem dp_tup {v : V} {ds : List PyData} (h : Dp K H v (.tuple ds)) : ∃ a xs, v = .ref a ∧ SqT K H a xs ∧ DpAll K H xs ds := by
  cases h with
  | tup hs ha => exact ⟨_, _, rfl, hs, ha⟩
theorem dps_len : ∀ {ds : List PyData} {xs : List V}, DpAll K H xs ds → xs.length = ds.length
  | [], _, h => by cases h; rfl
  | d :: ds, _, h => by
    cases h with
    | cons h1 h2 => simp [dps_len h2]
theorem dps_get : ∀ {ds : List PyData} {xs : List V}, DpAll K H xs ds → ∀ (i : Nat) (d : PyData), ds[i]? = some d → ∃ x, xs[i]? = some x ∧ Dp K H x d
  | [], _, _, i, d, h => by cases h
  | _ :: ds, _, .cons h1 h2, 0, d, h => by
    cases h
    exact ⟨_, rfl, h1⟩
  | _ :: ds, _, .cons h1 h2, i + 1, d, h => by
    obtain ⟨x, hx, h'⟩ := dps_get h2 i d (by simpa using h)
    exact ⟨x, by simpa using hx, h'⟩
theorem dps_set : ∀ {ds : List PyData} {xs : List V} {d : PyData} {x : V} (i : Nat), DpAll K H xs ds → Dp K H x d → DpAll K H (xs.set i x) (ds.set i d)
  | [], _, d, x, i, .nil, h => .nil
  | _ :: ds, _, d, x, 0, .cons h1 h2, h => .cons h h2
  | _ :: ds, _, d, x, i + 1, .cons h1 h2, h => .cons h1 (dps_set i h2 h)
theorem dps_app : ∀ {ds es : List PyData} {xs ys : List V}, DpAll K H xs ds → DpAll K H ys es → DpAll K H (xs ++ ys) (ds ++ es)
  | [], _, _, _, .nil, h => h
  | _ :: ds, _, _, _, .cons h1 h2, h => .cons h1 (dps_app h2 h)
theorem dps_take : ∀ {ds : List PyData} {xs : List V} (k : Nat), DpAll K H xs ds → DpAll K H (xs.take k) (ds.take k)
  | [], _, k, .nil => by simp; exact .nil
  | _ :: ds, _, 0, .cons h1 h2 => .nil
  | _ :: ds, _, k + 1, .cons h1 h2 => .cons h1 (dps_take k h2)
theorem dps_snoc : ∀ {ds : List PyData} {xs : List V} {d : PyData} {x : V}, DpAll K H xs ds → Dp K H x d → DpAll K H (xs ++ [x]) (ds ++ [d])
  | [], _, d, x, .nil, h => .cons h .nil
  | _ :: ds, _, d, x, .cons h1 h2, h => .cons h1 (dps_snoc h2 h)
end
end DL


set_option Elab.async false
set_option linter.all false
set_option maxRecDepth 100000
set_option maxHeartbeats 4000000
namespace DL
open PySem PySem.Spec PyProof.Rows L2 TG
abbrev NEs := List (NestedKey × Addr × V)
def NR (ks : NEs) (xs : List (NestedKey × Addr × Value)) : Prop := Paired (fun (p : NestedKey × Addr × V) (q : NestedKey × Addr × Value) => p.1 = q.1 ∧ p.2.1 = q.2.1 ∧ RelV p.2.2 q.2.2) ks xs
def dnφ (P : Program) (w : World) (a : Addr) (ks : NEs) : Heap → Prop := fun h => ks.length ≤ sizeLine ∧ (a == sysModules) = false ∧ ∃ xs, NR ks xs ∧
  ∃ o es ep, h.get? a = some o ∧ o.ExactDict ∧ o.data = .dict es ep ∧ es.toList = xs.map (entryOfKey (nestedKind P w)) ∧ (xs.map (·.1)).Nodup
def dnO (P : Program) (w : World) (a : Addr) (ks : NEs) : HO := .ext (dnφ P w a ks)
mutual
def keyN : PyData → Option NestedKey
  | .none => some .none
  | .bool _ => none
  | .int i => some (.num i)
  | .str x => some (.text x)
  | .tuple ds => (keysN ds).map NestedKey.tup
  | .list _ => none
  | .dict _ => none
def keysN : List PyData → Option (List NestedKey)
  | [] => some []
  | d :: ds => match keyN d, keysN ds with
    | some k, some ks => some (k :: ks)
    | _, _ => none
end
section
variable {X : Cx} {pins : List (Addr × Obj)} {σ : L2.St} {H : Hp} {s : Shared}
mutual
theorem dp_nested (I : Inv X pins σ H s) : ∀ (d : PyData) (k : NestedKey) (v : V) (u : Value), keyN d = some k → Dp X.K H v d → RelV v u → NestedIs s.heap k u
  | .none, _, _, _, e, h, r => by
    unfold keyN at e
    cases e
    cases h
    cases r
    exact .none
  | .bool _, _, _, _, e, _, _ => by unfold keyN at e; cases e
  | .int i, _, _, _, e, h, r => by
    unfold keyN at e
    cases e
    cases h
    obtain ⟨t, rfl⟩ := r
    exact .int i t
  | .str x, _, _, _, e, h, r => by
    unfold keyN at e
    cases e
    cases h
    obtain ⟨t, rfl⟩ := r
    exact .text x t
  | .tuple ds, k, _, _, e, h, r => by
    unfold keyN at e
    cases c : keysN ds with
    | none => rw [c] at e; cases e
    | some ks =>
      rw [c] at e
      cases e
      cases h with
      | tup hs ha =>
        cases r
        obtain ⟨its, rv, ⟨o, ho, hc, n, hd⟩, _⟩ := I.tuple hs
        exact .tup ho hc hd (by simpa using dps_nested I ds ks _ its c ha rv)
  | .list _, _, _, _, e, _, _ => by unfold keyN at e; cases e
  | .dict _, _, _, _, e, _, _ => by unfold keyN at e; cases e
theorem dps_nested (I : Inv X pins σ H s) : ∀ (ds : List PyData) (ks : List NestedKey) (vs : List V) (us : List Value), keysN ds = some ks → DpAll X.K H vs ds → Vals vs us → NestedAll s.heap ks us
  | [], _, _, _, e, h, r => by
    unfold keysN at e
    cases e
    cases h
    cases r
    exact .nil
  | d :: ds, ks, _, _, e, h, r => by
    unfold keysN at e
    cases c : keyN d with
    | none => rw [c] at e; simp at e
    | some k =>
      cases c2 : keysN ds with
      | none => rw [c, c2] at e; simp at e
      | some ks' =>
        rw [c, c2] at e
        cases e
        cases h with
        | cons h1 h2 =>
          cases r with
          | cons r1 r2 => exact .cons (dp_nested I d k _ _ c h1 r1) (dps_nested I ds ks' _ _ c2 h2 r2)
end
def KeyAt (K : PySem.W.Frag) (H : Hp) (b : Addr) (k : NestedKey) : Prop := ∃ d, keyN d = some k ∧ Dp K H (.ref b) d ∧ k.depth ≤ 8
def KeysAt (K : PySem.W.Frag) (H : Hp) (ks : NEs) : Prop := ∀ e ∈ ks, KeyAt K H e.2.1 e.1
theorem KeyAt.is {b : Addr} {k : NestedKey} (I : Inv X pins σ H s) (h : KeyAt X.K H b k) : (nestedKind X.prog X.w).is s.heap k b := by
  obtain ⟨d, h1, h2, h3⟩ := h
  exact ⟨dp_nested I d k _ _ h1 h2 rfl, h3⟩
theorem KeyAt.mono {K : PySem.W.Frag} {H H' : Hp} {b : Addr} {k : NestedKey} (h : KeyAt K H b k) (s : Same H H') : KeyAt K H' b k := by
  obtain ⟨d, h1, h2, h3⟩ := h
  exact ⟨d, h1, dp_mono s _ _ h2, h3⟩
end
section
variable {X : Cx} {K : PySem.W.Frag} {P : Program} {w : World} {o i e f value : Expr} {pos pos' tpos apos cpos : Pos} {td ty tv tx : TE}
end
end DL


set_option Elab.async false
set_option linter.all false
set_option maxRecDepth 100000
set_option maxHeartbeats 4000000
namespace DL
open PySem L2 TG
def tupO : HO → Bool
  | .tup _ => true
  | .frz _ (.tup _) => true
  | _ => false
inductive Ob where
  | lst (ds : List PyData)
  | dT (kvs : List (List Key × PyData))
  | dK (kvs : List (Key × PyData))
  | dN (P : Program) (w : World) (kvs : List (NestedKey × PyData))
  | ext (φ : PySem.W.Frag → Hp → Option HO → Prop)
inductive Cell where
  | ob (o : Ob)
  | ins (C : Addr) (fs : List (String × PyData))
abbrev Gh := Addr → Option Cell
def upG (G : Gh) (a : Addr) (c : Cell) : Gh := fun b => if b = a then some c else G b
theorem upG_same {G : Gh} {a : Addr} {c : Cell} : upG G a c a = some c := if_pos rfl
theorem upG_ne {G : Gh} {a b : Addr} {c : Cell} (h : b ≠ a) : upG G a c b = G b := if_neg h
theorem upG_upG {G : Gh} {a : Addr} {c c' : Cell} : upG (upG G a c) a c' = upG G a c' := by
  funext b
  unfold upG
  split <;> rfl
inductive B where
  | dat (d : PyData)
  | ob (t : Option Nat) (o : Ob)
  | gs (G : Gh)
inductive Vl where
  | dat (d : PyData)
  | ob (o : Ob)
  | own (i : Nat)
  | gob (n : Nat) (a : Addr)
abbrev En := List (Option B)
def KvR {κ : Type} (K : PySem.W.Frag) (Hz : Hp) (ks : List (κ × V)) (kvs : List (κ × PyData)) : Prop := ks.map (·.1) = kvs.map (·.1) ∧ DpAll K Hz (ks.map (·.2)) (kvs.map (·.2))
def OkOb (K : PySem.W.Frag) (Hz H : Hp) (a : Addr) : Ob → Prop
  | .lst ds => ∃ xs, H a = some (.lst xs) ∧ DpAll K Hz xs ds
  | .dT kvs => ∃ ks, H a = some (.dT ks) ∧ KvR K Hz ks kvs
  | .dK kvs => ∃ ks, H a = some (.dK ks) ∧ KvR K Hz ks kvs
  | .dN P w kvs => ∃ ks : NEs, H a = some (dnO P w a ks) ∧ KeysAt K Hz ks ∧ KvR K Hz (ks.map fun e => (e.1, e.2.2)) kvs
  | .ext φ => H a ≠ none ∧ (∀ u, H a = some u → tupO u = false) ∧ φ K Hz (H a) ∧ ∀ Hz', Same Hz Hz' → φ K Hz' (H a)
theorem OkOb.there {K : PySem.W.Frag} {Hz H : Hp} {a : Addr} {o : Ob} (h : OkOb K Hz H a o) : H a ≠ none := by
  cases o with
  | lst ds => obtain ⟨xs, e, _⟩ := h; rw [e]; exact Option.some_ne_none _
  | dT ds => obtain ⟨xs, e, _⟩ := h; rw [e]; exact Option.some_ne_none _
  | dK ds => obtain ⟨xs, e, _⟩ := h; rw [e]; exact Option.some_ne_none _
  | dN P w ds => obtain ⟨xs, e, _⟩ := h; rw [e]; exact Option.some_ne_none _
  | ext φ => exact h.1
theorem OkOb.ntup {K : PySem.W.Frag} {Hz H : Hp} {a : Addr} {o : Ob} (h : OkOb K Hz H a o) : ∀ u, H a = some u → tupO u = false := by
  cases o with
  | lst ds => obtain ⟨xs, e, _⟩ := h; intro u q; rw [e] at q; cases q; rfl
  | dT ds => obtain ⟨xs, e, _⟩ := h; intro u q; rw [e] at q; cases q; rfl
  | dK ds => obtain ⟨xs, e, _⟩ := h; intro u q; rw [e] at q; cases q; rfl
  | dN P w ds => obtain ⟨xs, e, _⟩ := h; intro u q; rw [e] at q; cases q; rfl
  | ext φ => exact h.2.1
theorem OkOb.keep {K : PySem.W.Frag} {Hz Hz' H H' : Hp} {a : Addr} {o : Ob} (h : OkOb K Hz H a o) (s : Same Hz Hz') (e : H' a = H a) : OkOb K Hz' H' a o := by
  cases o with
  | lst ds => obtain ⟨xs, q, d⟩ := h; exact ⟨xs, by rw [e]; exact q, dps_mono s _ _ d⟩
  | dT ds => obtain ⟨xs, q, d1, d2⟩ := h; exact ⟨xs, by rw [e]; exact q, d1, dps_mono s _ _ d2⟩
  | dK ds => obtain ⟨xs, q, d1, d2⟩ := h; exact ⟨xs, by rw [e]; exact q, d1, dps_mono s _ _ d2⟩
  | dN P w ds => obtain ⟨xs, q, d0, d1, d2⟩ := h; exact ⟨xs, by rw [e]; exact q, fun x hx => (d0 x hx).mono s, d1, dps_mono s _ _ d2⟩
  | ext φ =>
    obtain ⟨h1, h2, h3, h4⟩ := h
    refine ⟨by rw [e]; exact h1, by rw [e]; exact h2, by rw [e]; exact h4 _ s, fun Hz2 s2 => by rw [e]; exact h4 _ (fun b o q => s2 b o (s b o q))⟩
structure Fr where
  K : PySem.W.Frag
  A : List Addr
  Z0 : Hp
  H0 : Hp
  n : Nat
inductive PF (K : PySem.W.Frag) (Hz : Hp) : List (String × PyData) → List (Str × V) → Prop
  | nil : PF K Hz [] []
  | cons {s : String} {v : V} {d : PyData} {fs : List (String × PyData)} {vs : List (Str × V)} : Dp K Hz v d → PF K Hz fs vs → PF K Hz ((s, d) :: fs) ((Str.ofString s, v) :: vs)
theorem PF.mono {K : PySem.W.Frag} {Hz Hz' : Hp} (s : Same Hz Hz') {fs : List (String × PyData)} {vs : List (Str × V)} (h : PF K Hz fs vs) : PF K Hz' fs vs := by
  induction h with
  | nil => exact .nil
  | cons d _ ih => exact .cons (dp_mono s _ _ d) ih
def OkC (K : PySem.W.Frag) (Hz H : Hp) (a : Addr) : Cell → Prop
  | .ob o => OkOb K Hz H a o
  | .ins C fs => ∃ dx vs, H a = some (.ins C dx vs) ∧ PF K Hz fs vs
theorem OkC.there {K : PySem.W.Frag} {Hz H : Hp} {a : Addr} {c : Cell} (h : OkC K Hz H a c) : H a ≠ none := by
  cases c with
  | ob o => exact OkOb.there h
  | ins C fs => obtain ⟨dx, vs, e, _⟩ := h; rw [e]; exact Option.some_ne_none _
theorem OkC.ntup {K : PySem.W.Frag} {Hz H : Hp} {a : Addr} {c : Cell} (h : OkC K Hz H a c) : ∀ u, H a = some u → tupO u = false := by
  cases c with
  | ob o => exact OkOb.ntup h
  | ins C fs => obtain ⟨dx, vs, e, _⟩ := h; intro u q; rw [e] at q; cases q; rfl
theorem OkC.keep {K : PySem.W.Frag} {Hz Hz' H H' : Hp} {a : Addr} {c : Cell} (h : OkC K Hz H a c) (s : Same Hz Hz') (e : H' a = H a) : OkC K Hz' H' a c := by
  cases c with
  | ob o => exact OkOb.keep h s e
  | ins C fs => obtain ⟨dx, vs, q, p⟩ := h; exact ⟨dx, vs, by rw [e]; exact q, p.mono s⟩
def lkp : List (Addr × Cell) → Gh
  | [] => fun _ => none
  | (a, c) :: l => fun b => if b = a then some c else lkp l b
structure PG (f : Fr) (Hz H : Hp) (l : List (Addr × Cell)) : Prop where
  ok : ∀ p ∈ l, OkC f.K Hz H p.1 p.2
  own : ∀ p ∈ l, p.1 ∈ f.A ∨ f.H0 p.1 = none
theorem lkp_mem : ∀ {l : List (Addr × Cell)} {a : Addr} {c : Cell}, lkp l a = some c → (a, c) ∈ l
  | [], _, _, h => by cases h
  | (b, d) :: l, a, c, h => by
    unfold lkp at h
    by_cases e : a = b
    · rw [if_pos e] at h
      cases h
      rw [e]
      exact List.mem_cons_self
    · rw [if_neg e] at h
      exact List.mem_cons_of_mem _ (lkp_mem h)
def setL (l : List (Addr × Cell)) (a : Addr) (c : Cell) : List (Addr × Cell) := l.map fun p => if p.1 = a then (a, c) else p
theorem setL_keys (l : List (Addr × Cell)) (a : Addr) (c : Cell) : (setL l a c).map (·.1) = l.map (·.1) := by
  unfold setL
  rw [List.map_map]
  apply List.map_congr_left
  intro p _
  simp only [Function.comp]
  split
  · rename_i e
    exact e.symm
  · rfl
theorem lkp_cons {b : Addr} {d : Cell} {l : List (Addr × Cell)} {x : Addr} : lkp ((b, d) :: l) x = if x = b then some d else lkp l x := rfl
theorem setL_cons {b : Addr} {d : Cell} {l : List (Addr × Cell)} {a : Addr} {c : Cell} : setL ((b, d) :: l) a c = (if b = a then (a, c) else (b, d)) :: setL l a c := rfl
theorem setL_not {l : List (Addr × Cell)} {a : Addr} {c : Cell} (h : a ∉ l.map (·.1)) : setL l a c = l := by
  unfold setL
  have : ∀ p ∈ l, (if p.1 = a then (a, c) else p) = p := fun p hp => if_neg fun z => h (List.mem_map.mpr ⟨p, hp, z⟩)
  rw [List.map_congr_left this, List.map_id']
theorem lkp_setL : ∀ {l : List (Addr × Cell)} {a : Addr} {c : Cell}, a ∈ l.map (·.1) → lkp (setL l a c) = upG (lkp l) a c
  | [], _, _, h => by cases h
  | (b, d) :: l, a, c, h => by
    funext x
    rw [List.map_cons, List.mem_cons] at h
    rw [setL_cons]
    by_cases e : b = a
    · subst e
      rw [if_pos rfl, lkp_cons]
      by_cases q : x = b
      · rw [if_pos q, q, upG_same]
      · rw [if_neg q, upG_ne q, lkp_cons, if_neg q]
        by_cases hm : b ∈ l.map (·.1)
        · rw [lkp_setL hm, upG_ne q]
        · rw [setL_not hm]
    · rw [if_neg e, lkp_cons]
      have hm : a ∈ l.map (·.1) := h.resolve_left fun z => e z.symm
      by_cases q : x = b
      · rw [if_pos q, upG_ne (by rw [q]; exact e), lkp_cons, if_pos q]
      · rw [if_neg q, lkp_setL hm]
        unfold upG
        rw [lkp_cons, if_neg q]
inductive Pr (f : Fr) (Hz H : Hp) : En → St → List Addr → Prop
  | nil : Pr f Hz H [] [] []
  | gs {G : Gh} (l : List (Addr × Cell)) : G = lkp l → PG f Hz H l → Pr f Hz H [some (.gs G)] [] (l.map (·.1))
  | skip {x : Option V} {L : En} {W : St} {O : List Addr} : Pr f Hz H L W O → Pr f Hz H (none :: L) (x :: W) O
  | dat {v : V} {d : PyData} {L : En} {W : St} {O : List Addr} : Dp f.K Hz v d → Pr f Hz H L W O → Pr f Hz H (some (.dat d) :: L) (some v :: W) O
  | ob {a : Addr} {t : Option Nat} {o : Ob} {L : En} {W : St} {O : List Addr} : OkOb f.K Hz H a o → (t = none → f.H0 a = none) → (∀ j, t = some j → f.A[j]? = some a) → Pr f Hz H L W O → Pr f Hz H (some (.ob t o) :: L) (some (.ref a) :: W) (a :: O)
section
variable {f : Fr} {Hz Hz' H H' : Hp} {L : En} {W : St} {O : List Addr}
theorem Pr.keep (h : Pr f Hz H L W O) (s : Same Hz Hz') (e : ∀ a ∈ O, H' a = H a) : Pr f Hz' H' L W O := by
  induction h with
  | nil => exact .nil
  | gs l hl g => exact .gs l hl ⟨fun p hp => (g.ok p hp).keep s (e _ (List.mem_map.mpr ⟨p, hp, rfl⟩)), g.own⟩
  | skip _ ih => exact .skip (ih e)
  | dat d _ ih => exact .dat (dp_mono s _ _ d) (ih e)
  | ob o h1 h2 _ ih => exact .ob (o.keep s (e _ List.mem_cons_self)) h1 h2 (ih fun a ha => e a (List.mem_cons_of_mem _ ha))
theorem Pr.le (h : Pr f Hz H L W O) : W.length ≤ L.length := by
  induction h with
  | nil => exact Nat.le_refl _
  | gs l _ _ => exact Nat.zero_le _
  | skip _ ih => exact Nat.succ_le_succ ih
  | dat d _ ih => exact Nat.succ_le_succ ih
  | ob o h1 h2 _ ih => exact Nat.succ_le_succ ih
theorem Pr.there (h : Pr f Hz H L W O) : ∀ a ∈ O, H a ≠ none := by
  induction h with
  | nil => intro a ha; cases ha
  | gs l _ g =>
    intro a ha
    obtain ⟨p, hp, rfl⟩ := List.mem_map.mp ha
    exact (g.ok p hp).there
  | skip _ ih => exact ih
  | dat d _ ih => exact ih
  | ob o h1 h2 _ ih =>
    intro a ha
    rcases List.mem_cons.mp ha with rfl | ha
    · exact o.there
    · exact ih a ha
theorem Pr.get (h : Pr f Hz H L W O) : ∀ {i : Nat} {d : PyData}, L[i]? = some (some (.dat d)) → ∃ v, W[i]? = some (some v) ∧ Dp f.K Hz v d := by
  induction h with
  | nil => intro i d e; cases e
  | gs l _ _ =>
    intro i d e
    cases i with
    | zero => cases e
    | succ i => cases e
  | skip _ ih =>
    intro i d e
    cases i with
    | zero => cases e
    | succ i => exact ih e
  | dat q _ ih =>
    intro i d e
    cases i with
    | zero => cases e; exact ⟨_, rfl, q⟩
    | succ i => exact ih e
  | ob o h1 h2 _ ih =>
    intro i d e
    cases i with
    | zero => cases e
    | succ i => exact ih e
theorem Pr.take (h : Pr f Hz H L W O) : ∀ {i : Nat} {t : Option Nat} {o : Ob}, L[i]? = some (some (.ob t o)) →
    ∃ a O', W[i]? = some (some (.ref a)) ∧ OkOb f.K Hz H a o ∧ (t = none → f.H0 a = none) ∧ (∀ j, t = some j → f.A[j]? = some a) ∧ O.Perm (a :: O') ∧ Pr f Hz H (L.set i none) W O' := by
  induction h with
  | nil => intro i t o e; cases e
  | gs l _ _ =>
    intro i t o e
    cases i with
    | zero => cases e
    | succ i => cases e
  | skip _ ih =>
    intro i t o e
    cases i with
    | zero => cases e
    | succ i =>
      obtain ⟨a, O', h1, h2, h3, h4, h5, h6⟩ := ih e
      exact ⟨a, O', h1, h2, h3, h4, h5, .skip h6⟩
  | dat q _ ih =>
    intro i t o e
    cases i with
    | zero => cases e
    | succ i =>
      obtain ⟨a, O', h1, h2, h3, h4, h5, h6⟩ := ih e
      exact ⟨a, O', h1, h2, h3, h4, h5, .dat q h6⟩
  | @ob a0 t0 o0 L W O q h1 h2 r ih =>
    intro i t o e
    cases i with
    | zero =>
      cases e
      exact ⟨a0, O, rfl, q, h1, h2, List.Perm.refl _, .skip r⟩
    | succ i =>
      obtain ⟨a, O', g1, g2, g3, g4, g5, g6⟩ := ih e
      exact ⟨a, a0 :: O', g1, g2, g3, g4, (g5.cons a0).trans (List.Perm.swap _ _ _), .ob q h1 h2 g6⟩
theorem Pr.wipe (h : Pr f Hz H L W O) : ∀ (i : Nat) (x : Option V), i < W.length → ∃ O', (∃ r, O.Perm (r ++ O')) ∧ Pr f Hz H (L.set i none) (W.set i x) O' := by
  induction h with
  | nil => intro i x hi; cases hi
  | gs l _ _ => intro i x hi; cases hi
  | @skip y L W O p ih =>
    intro i x hi
    cases i with
    | zero => exact ⟨O, ⟨[], List.Perm.refl _⟩, .skip p⟩
    | succ i =>
      obtain ⟨O', h1, h2⟩ := ih i x (Nat.lt_of_succ_lt_succ hi)
      exact ⟨O', h1, .skip h2⟩
  | @dat v d L W O q p ih =>
    intro i x hi
    cases i with
    | zero => exact ⟨O, ⟨[], List.Perm.refl _⟩, .skip p⟩
    | succ i =>
      obtain ⟨O', h1, h2⟩ := ih i x (Nat.lt_of_succ_lt_succ hi)
      exact ⟨O', h1, .dat q h2⟩
  | @ob a t o L W O q g1 g2 p ih =>
    intro i x hi
    cases i with
    | zero => exact ⟨O, ⟨[a], List.Perm.refl _⟩, .skip p⟩
    | succ i =>
      obtain ⟨O', ⟨r, h1⟩, h2⟩ := ih i x (Nat.lt_of_succ_lt_succ hi)
      exact ⟨a :: O', ⟨r, (h1.cons a).trans (List.perm_middle.symm)⟩, .ob q g1 g2 h2⟩
theorem Pr.putD (h : Pr f Hz H L W O) : ∀ {i : Nat} {v : V} {d : PyData}, Dp f.K Hz v d → L[i]? = some none → Pr f Hz H (L.set i (some (.dat d))) (W.set i (some v)) O := by
  induction h with
  | nil => intro i v d q e; cases e
  | gs l _ _ =>
    intro i v d q e
    cases i with
    | zero => cases e
    | succ i => cases e
  | skip p ih =>
    intro i v d q e
    cases i with
    | zero => exact .dat q p
    | succ i => exact .skip (ih q e)
  | dat q p ih =>
    intro i v d q' e
    cases i with
    | zero => cases e
    | succ i => exact .dat q (ih q' e)
  | ob q g1 g2 p ih =>
    intro i v d q' e
    cases i with
    | zero => cases e
    | succ i => exact .ob q g1 g2 (ih q' e)
theorem Pr.putO (h : Pr f Hz H L W O) : ∀ {i : Nat} {a : Addr} {t : Option Nat} {o : Ob}, OkOb f.K Hz H a o → (t = none → f.H0 a = none) → (∀ j, t = some j → f.A[j]? = some a) → L[i]? = some none →
    ∃ O', O'.Perm (a :: O) ∧ Pr f Hz H (L.set i (some (.ob t o))) (W.set i (some (.ref a))) O' := by
  induction h with
  | nil => intro i a t o _ _ _ e; cases e
  | gs l _ _ =>
    intro i a t o _ _ _ e
    cases i with
    | zero => cases e
    | succ i => cases e
  | @skip y L W O p ih =>
    intro i a t o q1 q2 q3 e
    cases i with
    | zero => exact ⟨_, List.Perm.refl _, .ob q1 q2 q3 p⟩
    | succ i =>
      obtain ⟨O', h1, h2⟩ := ih q1 q2 q3 e
      exact ⟨O', h1, .skip h2⟩
  | dat q p ih =>
    intro i a t o q1 q2 q3 e
    cases i with
    | zero => cases e
    | succ i =>
      obtain ⟨O', h1, h2⟩ := ih q1 q2 q3 e
      exact ⟨O', h1, .dat q h2⟩
  | @ob a0 t0 o0 L W O q g1 g2 p ih =>
    intro i a t o q1 q2 q3 e
    cases i with
    | zero => cases e
    | succ i =>
      obtain ⟨O', h1, h2⟩ := ih q1 q2 q3 e
      exact ⟨a0 :: O', (h1.cons a0).trans (List.Perm.swap _ _ _), .ob q g1 g2 h2⟩
end
structure Sy (f : Fr) (L : En) (W : St) (E : En) (σ : St) (Hz H : Hp) : Prop where
  ex : ∃ O1 O2, Pr f Hz H L W O1 ∧ Pr f Hz H E σ O2 ∧ (O1 ++ O2).Nodup ∧ ∀ a ∈ O1 ++ O2, Hz a = none
  sm : Same Hz H
  tz : Same f.Z0 Hz
  nw : ∀ b, Hz b ≠ none → f.Z0 b ≠ none ∨ f.H0 b = none
  kp : ∀ b u, b ∉ f.A → f.H0 b = some u → H b = some u
  ka : ∀ b, f.H0 b ≠ none → H b ≠ none
  az : ∀ a ∈ f.A, f.H0 a ≠ none ∧ Hz a = none
  tp : ∀ b u, H b = some u → tupO u = true → Hz b = some u
  ln : σ.length = f.n
section
variable {f : Fr} {Hz Hz' H H' : Hp} {L E : En} {W σ : St}
theorem same_up {p : Addr} {u : HO} (h : Hz p = none) : Same Hz (upd Hz p u) := same_new h u
theorem Sy.newT {p : Addr} {u : HO} (y : Sy f L W E σ Hz H) (hp : H p = none) : Sy f L W E σ (upd Hz p u) (upd H p u) := by
  obtain ⟨⟨O1, O2, p1, p2, nd, fr⟩, sm, tz, nw, kp, ka, az, tp, ln⟩ := y
  have hz : Hz p = none := by
    cases e : Hz p with
    | none => rfl
    | some x => rw [sm _ _ e] at hp; cases hp
  have h0 : f.H0 p = none := by
    cases e : f.H0 p with
    | none => rfl
    | some x => exact absurd hp (ka p (by rw [e]; exact Option.some_ne_none _))
  have ne : ∀ a ∈ O1 ++ O2, a ≠ p := fun a ha c => by
    rcases List.mem_append.mp ha with ha | ha
    · exact p1.there a ha (by rw [c]; exact hp)
    · exact p2.there a ha (by rw [c]; exact hp)
  have s1 := same_up (u := u) hz
  refine ⟨⟨O1, O2, p1.keep s1 (fun a ha => upd_ne (ne a (List.mem_append_left _ ha))), p2.keep s1 (fun a ha => upd_ne (ne a (List.mem_append_right _ ha))), nd, fun a ha => ?_⟩, ?_, fun b o q => s1 b o (tz b o q), ?_, ?_, ?_, ?_, ?_, ln⟩
  · rw [upd_ne (ne a ha)]
    exact fr a ha
  · intro b o q
    by_cases c : b = p
    · subst c
      rw [upd_same] at q ⊢
      exact q
    · rw [upd_ne c] at q ⊢
      exact sm b o q
  · intro b q
    by_cases c : b = p
    · subst c
      exact .inr h0
    · rw [upd_ne c] at q
      exact nw b q
  · intro b w hb q
    rw [upd_ne (fun c => by rw [c, h0] at q; cases q)]
    exact kp b w hb q
  · intro b q
    rw [upd_ne (fun c => q (by rw [c]; exact h0))]
    exact ka b q
  · intro a ha
    obtain ⟨q1, q2⟩ := az a ha
    refine ⟨q1, ?_⟩
    rw [upd_ne (fun c => q1 (by rw [c]; exact h0))]
    exact q2
  · intro b w q c
    by_cases e : b = p
    · subst e
      rw [upd_same] at q ⊢
      exact q
    · rw [upd_ne e] at q ⊢
      exact tp b w q c
theorem Sy.hz {p : Addr} (y : Sy f L W E σ Hz H) (hp : H p = none) : Hz p = none := by
  cases e : Hz p with
  | none => rfl
  | some x => rw [y.sm _ _ e] at hp; cases hp
theorem Sy.newO {p : Addr} {u : HO} {o : Ob} (y : Sy f L W E σ Hz H) (hp : H p = none) (ho : OkOb f.K Hz (upd H p u) p o) : Sy f (some (.ob none o) :: L) (some (.ref p) :: W) E σ Hz (upd H p u) := by
  have hz := y.hz hp
  obtain ⟨⟨O1, O2, p1, p2, nd, fr⟩, sm, tz, nw, kp, ka, az, tp, ln⟩ := y
  have h0 : f.H0 p = none := by
    cases e : f.H0 p with
    | none => rfl
    | some x => exact absurd hp (ka p (by rw [e]; exact Option.some_ne_none _))
  have ne : ∀ a ∈ O1 ++ O2, a ≠ p := fun a ha c => by
    rcases List.mem_append.mp ha with ha | ha
    · exact p1.there a ha (by rw [c]; exact hp)
    · exact p2.there a ha (by rw [c]; exact hp)
  have s1 : Same Hz Hz := fun _ _ q => q
  refine ⟨⟨p :: O1, O2, .ob ho (fun _ => h0) (fun j e => by cases e) (p1.keep s1 (fun a ha => upd_ne (ne a (List.mem_append_left _ ha)))), p2.keep s1 (fun a ha => upd_ne (ne a (List.mem_append_right _ ha))), ?_, ?_⟩, ?_, tz, nw, ?_, ?_, az, ?_, ln⟩
  · exact List.nodup_cons.mpr ⟨fun h => ne p h rfl, nd⟩
  · intro a ha
    rcases List.mem_cons.mp ha with rfl | ha
    · exact hz
    · exact fr a ha
  · intro b o q
    rw [upd_ne (fun c => by rw [c, hz] at q; cases q)]
    exact sm b o q
  · intro b w hb q
    rw [upd_ne (fun c => by rw [c, h0] at q; cases q)]
    exact kp b w hb q
  · intro b q
    rw [upd_ne (fun c => q (by rw [c]; exact h0))]
    exact ka b q
  · intro b w q c
    by_cases e : b = p
    · subst e
      rw [ho.ntup w q] at c
      cases c
    · rw [upd_ne e] at q
      exact tp b w q c
theorem Sy.pop {x : Option B} {v : Option V} (y : Sy f (x :: L) (v :: W) E σ Hz H) : Sy f L W E σ Hz H := by
  obtain ⟨⟨O1, O2, p1, p2, nd, fr⟩, sm, tz, nw, kp, ka, az, tp, ln⟩ := y
  cases p1 with
  | skip p => exact ⟨⟨_, O2, p, p2, nd, fr⟩, sm, tz, nw, kp, ka, az, tp, ln⟩
  | dat _ p => exact ⟨⟨_, O2, p, p2, nd, fr⟩, sm, tz, nw, kp, ka, az, tp, ln⟩
  | ob _ _ _ p => exact ⟨⟨_, O2, p, p2, (List.nodup_cons.mp nd).2, fun a ha => fr a (List.mem_cons_of_mem _ ha)⟩, sm, tz, nw, kp, ka, az, tp, ln⟩
theorem Sy.get {i : Nat} {d : PyData} (y : Sy f L W E σ Hz H) (e : E[i]? = some (some (.dat d))) : ∃ v, σ[i]? = some (some v) ∧ Dp f.K Hz v d := by
  obtain ⟨O1, O2, p1, p2, nd, fr⟩ := y.ex
  exact p2.get e
theorem Sy.ob {i : Nat} {t : Option Nat} {o : Ob} (y : Sy f L W E σ Hz H) (e : E[i]? = some (some (.ob t o))) : ∃ a, σ[i]? = some (some (.ref a)) ∧ OkOb f.K Hz H a o ∧ Hz a = none := by
  obtain ⟨O1, O2, p1, p2, nd, fr⟩ := y.ex
  obtain ⟨a, O', h1, h2, h3, h4, h5, h6⟩ := p2.take e
  exact ⟨a, h1, h2, fr a (List.mem_append_right _ (h5.mem_iff.mpr List.mem_cons_self))⟩
theorem Sy.top {t : Option Nat} {o : Ob} {v : Option V} (y : Sy f (some (.ob t o) :: L) (v :: W) E σ Hz H) : ∃ a, v = some (.ref a) ∧ OkOb f.K Hz H a o ∧ Hz a = none := by
  obtain ⟨O1, O2, p1, p2, nd, fr⟩ := y.ex
  cases p1 with
  | ob h1 h2 h3 p => exact ⟨_, rfl, h1, fr _ (List.mem_append_left _ List.mem_cons_self)⟩
theorem Sy.le (y : Sy f L W E σ Hz H) : σ.length ≤ E.length := by
  obtain ⟨O1, O2, p1, p2, nd, fr⟩ := y.ex
  exact p2.le
end
theorem perm_nodup {α : Type} {a b c : List α} (h : (a ++ b).Nodup) (p : b.Perm c) : (a ++ c).Nodup := (p.append_left a).nodup_iff.mp h
section
variable {f : Fr} {Hz Hz' H H' : Hp} {L E : En} {W σ : St}
theorem set_set_none {α : Type} (l : List (Option α)) (i : Nat) (x : Option α) : (l.set i none).set i x = l.set i x := by rw [List.set_set]
theorem Sy.wr {i : Nat} {t : Option Nat} {o o' : Ob} {a : Addr} {u : HO} (y : Sy f L W E σ Hz H) (e : E[i]? = some (some (.ob t o))) (ea : σ[i]? = some (some (.ref a))) (ho : OkOb f.K Hz (upd H a u) a o') :
    Sy f L W (E.set i (some (.ob t o'))) σ Hz (upd H a u) := by
  obtain ⟨⟨O1, O2, p1, p2, nd, fr⟩, sm, tz, nw, kp, ka, az, tp, ln⟩ := y
  obtain ⟨a', O', h1, h2, h3, h4, h5, h6⟩ := p2.take e
  rw [ea] at h1
  obtain rfl := V.ref.inj (Option.some.inj (Option.some.inj h1))
  have nd2 := perm_nodup nd h5
  have hz : Hz a = none := fr a (List.mem_append_right _ (h5.mem_iff.mpr List.mem_cons_self))
  have nd3 := List.nodup_append.mp nd2
  have n1 : ∀ b ∈ O1, b ≠ a := fun b hb c => nd3.2.2 b hb a List.mem_cons_self c
  have n2 : ∀ b ∈ O', b ≠ a := fun b hb c => (List.nodup_cons.mp nd3.2.1).1 (c ▸ hb)
  have s1 : Same Hz Hz := fun _ _ q => q
  have hi : i < E.length := (List.getElem?_eq_some_iff.mp e).1
  have e0 : (E.set i none)[i]? = some none := by rw [List.getElem?_set_self hi]
  obtain ⟨O3, g1, g2⟩ := (h6.keep s1 (fun b hb => upd_ne (n2 b hb)) : Pr f Hz (upd H a u) _ _ _).putO ho h3 h4 e0
  rw [set_set_none] at g2
  have eσ : σ.set i (some (V.ref a)) = σ := by
    apply List.ext_getElem?
    intro n
    by_cases hn : i = n
    · subst hn
      rw [ea, List.getElem?_set_self (List.getElem?_eq_some_iff.mp ea).1]
    · rw [List.getElem?_set_ne hn]
  rw [eσ] at g2
  refine ⟨⟨O1, O3, p1.keep s1 (fun b hb => upd_ne (n1 b hb)), g2, perm_nodup nd2 g1.symm, fun b hb => fr b ?_⟩, ?_, tz, nw, ?_, ?_, az, ?_, ln⟩
  · rcases List.mem_append.mp hb with hb | hb
    · exact List.mem_append_left _ hb
    · exact List.mem_append_right _ (h5.mem_iff.mpr (g1.mem_iff.mp hb))
  · intro b o q
    rw [upd_ne (fun c => by rw [c, hz] at q; cases q)]
    exact sm b o q
  · intro b w hb q
    by_cases c : b = a
    · subst c
      cases t with
      | none => rw [h3 rfl] at q; cases q
      | some j => exact absurd (List.mem_of_getElem? (h4 j rfl)) hb
    · rw [upd_ne c]
      exact kp b w hb q
  · intro b q
    by_cases c : b = a
    · subst c
      rw [upd_same]
      exact Option.some_ne_none _
    · rw [upd_ne c]
      exact ka b q
  · intro b w q c
    by_cases e : b = a
    · subst e
      rw [ho.ntup w q] at c
      cases c
    · rw [upd_ne e] at q
      exact tp b w q c
theorem Sy.wrT {t : Option Nat} {o o' : Ob} {a : Addr} {u : HO} (y : Sy f (some (.ob t o) :: L) (some (.ref a) :: W) E σ Hz H) (ho : OkOb f.K Hz (upd H a u) a o') :
    Sy f (some (.ob t o') :: L) (some (.ref a) :: W) E σ Hz (upd H a u) := by
  obtain ⟨⟨O1, O2, p1, p2, nd, fr⟩, sm, tz, nw, kp, ka, az, tp, ln⟩ := y
  cases p1 with
  | @ob _ _ _ _ _ O1 q1 q2 q3 p1 =>
    have n1 : ∀ b ∈ O1 ++ O2, b ≠ a := fun b hb c => (List.nodup_cons.mp nd).1 (c ▸ hb)
    have s1 : Same Hz Hz := fun _ _ q => q
    have hz : Hz a = none := fr a List.mem_cons_self
    refine ⟨⟨a :: O1, O2, .ob ho q2 q3 (p1.keep s1 (fun b hb => upd_ne (n1 b (List.mem_append_left _ hb)))), p2.keep s1 (fun b hb => upd_ne (n1 b (List.mem_append_right _ hb))), nd, fr⟩, ?_, tz, nw, ?_, ?_, az, ?_, ln⟩
    · intro b o q
      rw [upd_ne (fun c => by rw [c, hz] at q; cases q)]
      exact sm b o q
    · intro b w hb q
      by_cases c : b = a
      · subst c
        cases t with
        | none => rw [q2 rfl] at q; cases q
        | some j => exact absurd (List.mem_of_getElem? (q3 j rfl)) hb
      · rw [upd_ne c]
        exact kp b w hb q
    · intro b q
      by_cases c : b = a
      · subst c
        rw [upd_same]
        exact Option.some_ne_none _
      · rw [upd_ne c]
        exact ka b q
    · intro b w q c
      by_cases e : b = a
      · subst e
        rw [ho.ntup w q] at c
        cases c
      · rw [upd_ne e] at q
        exact tp b w q c
theorem Sy.setD {i : Nat} {v : V} {d : PyData} (y : Sy f L W E σ Hz H) (hd : Dp f.K Hz v d) (hn : i < f.n) : Sy f L W (E.set i (some (.dat d))) (σ.set i (some v)) Hz H := by
  have hl := y.le
  obtain ⟨⟨O1, O2, p1, p2, nd, fr⟩, sm, tz, nw, kp, ka, az, tp, ln⟩ := y
  have hs : i < σ.length := by omega
  have hi : i < E.length := by omega
  obtain ⟨O', ⟨r, h1⟩, h2⟩ := p2.wipe i (some v) hs
  have h3 := h2.putD (i := i) hd (by rw [List.getElem?_set_self hi])
  rw [List.set_set, List.set_set] at h3
  have nd2 := perm_nodup nd h1
  have sub : (O1 ++ O').Sublist (O1 ++ (r ++ O')) := List.Sublist.append (List.Sublist.refl _) (List.sublist_append_right _ _)
  refine ⟨⟨O1, O', p1, h3, sub.nodup nd2, fun a ha => fr a ?_⟩, sm, tz, nw, kp, ka, az, tp, by rw [List.length_set]; exact ln⟩
  have := sub.subset ha
  rcases List.mem_append.mp this with q | q
  · exact List.mem_append_left _ q
  · exact List.mem_append_right _ (h1.mem_iff.mpr q)
theorem Sy.forget {i : Nat} {x : Option V} (y : Sy f L W E σ Hz H) (hn : i < f.n) : Sy f L W (E.set i none) (σ.set i x) Hz H := by
  have hl := y.le
  obtain ⟨⟨O1, O2, p1, p2, nd, fr⟩, sm, tz, nw, kp, ka, az, tp, ln⟩ := y
  have hs : i < σ.length := by omega
  have hi : i < E.length := by omega
  obtain ⟨O', ⟨r, h1⟩, h2⟩ := p2.wipe i x hs
  have nd2 := perm_nodup nd h1
  have sub : (O1 ++ O').Sublist (O1 ++ (r ++ O')) := List.Sublist.append (List.Sublist.refl _) (List.sublist_append_right _ _)
  refine ⟨⟨O1, O', p1, h2, sub.nodup nd2, fun a ha => fr a ?_⟩, sm, tz, nw, kp, ka, az, tp, by rw [List.length_set]; exact ln⟩
  have := sub.subset ha
  rcases List.mem_append.mp this with q | q
  · exact List.mem_append_left _ q
  · exact List.mem_append_right _ (h1.mem_iff.mpr q)
theorem Sy.setO {i : Nat} {v : V} {t : Option Nat} {o : Ob} (y : Sy f (some (.ob t o) :: L) (some v :: W) E σ Hz H) (hn : i < f.n) : Sy f L W (E.set i (some (.ob t o))) (σ.set i (some v)) Hz H := by
  have hl := y.le
  obtain ⟨⟨O1, O2, p1, p2, nd, fr⟩, sm, tz, nw, kp, ka, az, tp, ln⟩ := y
  have hs : i < σ.length := by omega
  have hi : i < E.length := by omega
  cases p1 with
  | @ob a _ _ _ _ O1 q1 q2 q3 p1 =>
    obtain ⟨O', ⟨r, h1⟩, h2⟩ := p2.wipe i (some (.ref a)) hs
    obtain ⟨O3, g1, h3⟩ := h2.putO (i := i) q1 q2 q3 (by rw [List.getElem?_set_self hi])
    rw [List.set_set, List.set_set] at h3
    have nd1 : ((a :: O1) ++ (r ++ O')).Nodup := perm_nodup nd h1
    have sub : ((a :: O1) ++ O').Sublist ((a :: O1) ++ (r ++ O')) := List.Sublist.append (List.Sublist.refl _) (List.sublist_append_right _ _)
    have nd2 : ((a :: O1) ++ O').Nodup := sub.nodup nd1
    have pm : (O1 ++ O3).Perm ((a :: O1) ++ O') := ((g1.append_left O1).trans List.perm_middle)
    refine ⟨⟨O1, O3, p1, h3, pm.nodup_iff.mpr nd2, fun b hb => fr b ?_⟩, sm, tz, nw, kp, ka, az, tp, by rw [List.length_set]; exact ln⟩
    have h4 := sub.subset (pm.mem_iff.mp hb)
    rcases List.mem_append.mp h4 with q | q
    · exact List.mem_append_left _ q
    · exact List.mem_append_right _ (h1.mem_iff.mpr q)
theorem Sy.mv {i : Nat} {v : V} {t : Option Nat} {o : Ob} (y : Sy f L W E σ Hz H) (e : E[i]? = some (some (.ob t o))) (ev : σ[i]? = some (some v)) : Sy f (some (.ob t o) :: L) (some v :: W) (E.set i none) σ Hz H := by
  obtain ⟨⟨O1, O2, p1, p2, nd, fr⟩, sm, tz, nw, kp, ka, az, tp, ln⟩ := y
  obtain ⟨a, O', h1, h2, h3, h4, h5, h6⟩ := p2.take e
  rw [ev] at h1
  obtain rfl := Option.some.inj (Option.some.inj h1)
  have pm : ((a :: O1) ++ O').Perm (O1 ++ O2) := (List.perm_middle.symm).trans (h5.symm.append_left O1)
  refine ⟨⟨a :: O1, O', .ob h2 h3 h4 p1, h6, pm.nodup_iff.mpr nd, fun b hb => fr b (pm.mem_iff.mp hb)⟩, sm, tz, nw, kp, ka, az, tp, ln⟩
theorem Sy.frz {v : V} {ds : List PyData} (y : Sy f (some (.ob none (.lst ds)) :: L) (some v :: W) E σ Hz H) : ∃ Hz', Sy f L W E σ Hz' H ∧ Same Hz Hz' ∧ Dp f.K Hz' v (.list ds) := by
  obtain ⟨⟨O1, O2, p1, p2, nd, fr⟩, sm, tz, nw, kp, ka, az, tp, ln⟩ := y
  cases p1 with
  | @ob a _ _ _ _ O1 q1 q2 q3 p1 =>
    obtain ⟨xs, hx, hd⟩ := q1
    have hz : Hz a = none := fr a List.mem_cons_self
    have s1 : Same Hz (upd Hz a (.lst xs)) := same_new hz _
    have ne : ∀ b ∈ O1 ++ O2, b ≠ a := fun b hb c => (List.nodup_cons.mp nd).1 (c ▸ hb)
    refine ⟨upd Hz a (.lst xs), ⟨⟨O1, O2, p1.keep s1 (fun _ _ => rfl), p2.keep s1 (fun _ _ => rfl), (List.nodup_cons.mp nd).2, fun b hb => ?_⟩, ?_, fun b o q => s1 b o (tz b o q), ?_, kp, ka, ?_, fun b w q c => s1 b w (tp b w q c), ln⟩, s1, .lst (SqL.of upd_same) (dps_mono s1 _ _ hd)⟩
    · rw [upd_ne (ne b hb)]
      exact fr b (List.mem_cons_of_mem _ hb)
    · intro b o q
      by_cases c : b = a
      · subst c
        rw [upd_same] at q
        rw [hx]
        exact q
      · rw [upd_ne c] at q
        exact sm b o q
    · intro b q
      by_cases c : b = a
      · subst c
        exact .inr (q2 rfl)
      · rw [upd_ne c] at q
        exact nw b q
    · intro b hb
      obtain ⟨g1, g2⟩ := az b hb
      refine ⟨g1, ?_⟩
      rw [upd_ne (fun c => g1 (by rw [c]; exact q2 rfl))]
      exact g2
end
end DL


set_option Elab.async false
set_option linter.all false
set_option maxRecDepth 100000
set_option maxHeartbeats 4000000
namespace DL
open PySem L2 TG
section
variable {f : Fr} {Hz Hz' H H' : Hp} {L E : En} {W σ : St} {O : List Addr}
theorem Pr.gtake (h : Pr f Hz H L W O) : ∀ {n : Nat} {G : Gh}, L[n]? = some (some (.gs G)) → ∃ l r, G = lkp l ∧ PG f Hz H l ∧ O.Perm (r ++ l.map (·.1)) ∧
    ∀ {Hz' H' : Hp} (l' : List (Addr × Cell)), Same Hz Hz' → (∀ a ∈ r, H' a = H a) → PG f Hz' H' l' → ∃ O', O'.Perm (r ++ l'.map (·.1)) ∧ Pr f Hz' H' (L.set n (some (.gs (lkp l')))) W O' := by
  induction h with
  | nil => intro n G e; cases e
  | gs l hl g =>
    intro n G e
    cases n with
    | zero =>
      cases e
      exact ⟨l, [], hl, g, List.Perm.refl _, fun l' s _ g' => ⟨_, List.Perm.refl _, .gs l' rfl g'⟩⟩
    | succ n => cases e
  | skip p ih =>
    intro n G e
    cases n with
    | zero => cases e
    | succ n =>
      obtain ⟨l, r, h1, h2, h3, h4⟩ := ih e
      exact ⟨l, r, h1, h2, h3, fun l' s k g' => by
        obtain ⟨O', q1, q2⟩ := h4 l' s k g'
        exact ⟨O', q1, .skip q2⟩⟩
  | dat q p ih =>
    intro n G e
    cases n with
    | zero => cases e
    | succ n =>
      obtain ⟨l, r, h1, h2, h3, h4⟩ := ih e
      exact ⟨l, r, h1, h2, h3, fun l' s k g' => by
        obtain ⟨O', q1, q2⟩ := h4 l' s k g'
        exact ⟨O', q1, .dat (dp_mono s _ _ q) q2⟩⟩
  | @ob a t o L W O q c1 c2 p ih =>
    intro n G e
    cases n with
    | zero => cases e
    | succ n =>
      obtain ⟨l, r, h1, h2, h3, h4⟩ := ih e
      exact ⟨l, a :: r, h1, h2, h3.cons a, fun l' s k g' => by
        obtain ⟨O', q1, q2⟩ := h4 l' s (fun b hb => k b (List.mem_cons_of_mem _ hb)) g'
        exact ⟨a :: O', q1.cons a, .ob (q.keep s (k a List.mem_cons_self)) c1 c2 q2⟩⟩
theorem same_self {H : Hp} : Same H H := fun _ _ q => q
theorem Sy.gget {n : Nat} {G : Gh} {a : Addr} {c : Cell} (y : Sy f L W E σ Hz H) (e : E[n]? = some (some (.gs G))) (h : G a = some c) : OkC f.K Hz H a c ∧ Hz a = none := by
  obtain ⟨O1, O2, p1, p2, nd, fr⟩ := y.ex
  obtain ⟨l, r, rfl, g, h3, _⟩ := p2.gtake e
  have hm := lkp_mem h
  refine ⟨g.ok _ hm, fr a (List.mem_append_right _ (h3.mem_iff.mpr (List.mem_append_right _ (List.mem_map.mpr ⟨_, hm, rfl⟩))))⟩
theorem Sy.gset {n : Nat} {G : Gh} {a : Addr} {c c' : Cell} {u : HO} (y : Sy f L W E σ Hz H) (e : E[n]? = some (some (.gs G))) (h : G a = some c) (hc : OkC f.K Hz (upd H a u) a c') :
    Sy f L W (E.set n (some (.gs (upG G a c')))) σ Hz (upd H a u) := by
  have hH := (y.gget e h).1.there
  obtain ⟨⟨O1, O2, p1, p2, nd, fr⟩, sm, tz, nw, kp, ka, az, tp, ln⟩ := y
  obtain ⟨l, r, rfl, g, h3, h4⟩ := p2.gtake e
  have hm := lkp_mem h
  have hk : a ∈ l.map (·.1) := List.mem_map.mpr ⟨_, hm, rfl⟩
  have nd2 : (O1 ++ (r ++ l.map (·.1))).Nodup := perm_nodup nd h3
  have hz : Hz a = none := fr a (List.mem_append_right _ (h3.mem_iff.mpr (List.mem_append_right _ hk)))
  have nd3 := List.nodup_append.mp nd2
  have nd4 := List.nodup_append.mp nd3.2.1
  have n1 : ∀ b ∈ O1, b ≠ a := fun b hb z => nd3.2.2 b hb a (List.mem_append_right _ hk) z
  have n2 : ∀ b ∈ r, b ≠ a := fun b hb z => nd4.2.2 b hb a hk z
  have s1 : Same Hz Hz := same_self
  have own : a ∈ f.A ∨ f.H0 a = none := g.own _ hm
  have g' : PG f Hz (upd H a u) (setL l a c') := by
    refine ⟨fun p hp => ?_, fun p hp => ?_⟩
    · obtain ⟨q, hq, rfl⟩ := List.mem_map.mp hp
      by_cases z : q.1 = a
      · rw [if_pos z]
        exact hc
      · rw [if_neg z]
        exact (g.ok q hq).keep s1 (upd_ne z)
    · obtain ⟨q, hq, rfl⟩ := List.mem_map.mp hp
      by_cases z : q.1 = a
      · rw [if_pos z]
        exact own
      · rw [if_neg z]
        exact g.own q hq
  obtain ⟨O', q1, q2⟩ := h4 (setL l a c') s1 (fun b hb => upd_ne (n2 b hb)) g'
  rw [lkp_setL hk] at q2
  rw [setL_keys] at q1
  refine ⟨⟨O1, O', p1.keep s1 (fun b hb => upd_ne (n1 b hb)), q2, perm_nodup nd2 q1.symm, fun b hb => fr b ?_⟩, ?_, tz, nw, ?_, ?_, az, ?_, ln⟩
  · rcases List.mem_append.mp hb with hb | hb
    · exact List.mem_append_left _ hb
    · exact List.mem_append_right _ (h3.mem_iff.mpr (q1.mem_iff.mp hb))
  · intro b o q
    rw [upd_ne (fun c => by rw [c, hz] at q; cases q)]
    exact sm b o q
  · intro b w hb q
    by_cases z : b = a
    · subst z
      rcases own with z | z
      · exact absurd z hb
      · rw [z] at q; cases q
    · rw [upd_ne z]
      exact kp b w hb q
  · intro b q
    by_cases z : b = a
    · subst z
      rw [upd_same]
      exact Option.some_ne_none _
    · rw [upd_ne z]
      exact ka b q
  · intro b w q z
    by_cases e : b = a
    · subst e
      rw [hc.ntup w q] at z
      cases z
    · rw [upd_ne e] at q
      exact tp b w q z
theorem Sy.newX {p : Addr} {u : HO} (y : Sy f L W E σ Hz H) (hp : H p = none) (hu : tupO u = false) : Sy f L W E σ Hz (upd H p u) := by
  have hz := y.hz hp
  obtain ⟨⟨O1, O2, p1, p2, nd, fr⟩, sm, tz, nw, kp, ka, az, tp, ln⟩ := y
  have h0 : f.H0 p = none := by
    cases e : f.H0 p with
    | none => rfl
    | some x => exact absurd hp (ka p (by rw [e]; exact Option.some_ne_none _))
  have ne : ∀ a ∈ O1 ++ O2, a ≠ p := fun a ha c => by
    rcases List.mem_append.mp ha with ha | ha
    · exact p1.there a ha (by rw [c]; exact hp)
    · exact p2.there a ha (by rw [c]; exact hp)
  have s1 : Same Hz Hz := same_self
  refine ⟨⟨O1, O2, p1.keep s1 (fun a ha => upd_ne (ne a (List.mem_append_left _ ha))), p2.keep s1 (fun a ha => upd_ne (ne a (List.mem_append_right _ ha))), nd, fr⟩, ?_, tz, nw, ?_, ?_, az, ?_, ln⟩
  · intro b o q
    rw [upd_ne (fun c => by rw [c, hz] at q; cases q)]
    exact sm b o q
  · intro b w hb q
    rw [upd_ne (fun c => by rw [c, h0] at q; cases q)]
    exact kp b w hb q
  · intro b q
    rw [upd_ne (fun c => q (by rw [c]; exact h0))]
    exact ka b q
  · intro b w q c
    by_cases e : b = p
    · subst e
      rw [upd_same] at q
      cases q
      rw [hu] at c
      cases c
    · rw [upd_ne e] at q
      exact tp b w q c
end
end DL


set_option Elab.async false
set_option linter.all false
set_option maxRecDepth 100000
set_option maxHeartbeats 4000000
namespace DL
open PySem L2 TG
def tmp : Vl → En → En
  | .ob o, L => some (.ob none o) :: L
  | _, L => L
def tmv : Vl → V → St → St
  | .ob _, v, W => some v :: W
  | _, _, W => W
def Val (f : Fr) (b : Vl) (v : V) (σ : St) (Hz : Hp) : Prop := match b with
  | .dat d => Dp f.K Hz v d
  | .ob _ => True
  | .own i => σ[i]? = some (some v)
  | .gob _ a => v = .ref a
abbrev WE := En → (Vl → En → Prop) → Prop
abbrev WT := En → (Bool → En → Prop) → Prop
abbrev WA := En → (List PyData → En → Prop) → Prop
abbrev WO := En → (Option Int → En → Prop) → Prop
def ob1 {α : Type} : Option α → (α → Prop) → Prop
  | some a, P => P a
  | none, _ => False
theorem ob1_some {α : Type} {a : α} {P : α → Prop} : ob1 (some a) P = P a := rfl
theorem ob1_none {α : Type} {P : α → Prop} : ob1 none P = False := rfl
theorem ob1_ex {α : Type} {o : Option α} {P : α → Prop} (h : ob1 o P) : ∃ a, o = some a ∧ P a := by
  cases o with
  | none => exact h.elim
  | some a => exact ⟨a, rfl, h⟩
structure SE (f : Fr) (te : TE) (E : WE) : Prop where
  run : ∀ {L W e σ Hz H Post Q}, E e Post → Sy f L W e σ Hz H →
    (∀ b e' v Hz' H', Post b e' → Same Hz Hz' → Sy f (tmp b L) (tmv b v W) e' σ Hz' H' → Val f b v σ Hz' → Q v H') → te σ H Q
structure ST (f : Fr) (tt : TT) (E : WT) : Prop where
  run : ∀ {L W e σ Hz H Post Q}, E e Post → Sy f L W e σ Hz H → (∀ b e' Hz' H', Post b e' → Same Hz Hz' → Sy f L W e' σ Hz' H' → Q b H') → tt σ H Q
structure SA (f : Fr) (ta : TA) (E : WA) : Prop where
  run : ∀ {L W e σ Hz H Post Q}, E e Post → Sy f L W e σ Hz H → (∀ ds e' vs Hz' H', Post ds e' → Same Hz Hz' → Sy f L W e' σ Hz' H' → DpAll f.K Hz' vs ds → Q vs H') → ta σ H Q
structure SO (f : Fr) (to : TO) (E : WO) : Prop where
  run : ∀ {L W e σ Hz H Post Q}, E e Post → Sy f L W e σ Hz H → (∀ o e' Hz' H', Post o e' → Same Hz Hz' → Sy f L W e' σ Hz' H' → Q o H') → to σ H Q
theorem same_refl {H : Hp} : Same H H := fun _ _ q => q
theorem same_trans {H H1 H2 : Hp} (a : Same H H1) (b : Same H1 H2) : Same H H2 := fun x o q => b x o (a x o q)
section
variable {f : Fr} {L e : En} {W σ : St} {Hz H Hz' : Hp} {b : Vl} {v : V}
theorem Sy.un (y : Sy f (tmp b L) (tmv b v W) e σ Hz H) : Sy f L W e σ Hz H := by
  cases b with
  | dat d => exact y
  | ob o => exact y.pop
  | own i => exact y
  | gob n a => exact y
theorem Val.mono (h : Val f b v σ Hz) (s : Same Hz Hz') : Val f b v σ Hz' := by
  cases b with
  | dat d => exact dp_mono s _ _ h
  | ob o => trivial
  | own i => exact h
  | gob n a => exact h
def contC : Option Cell → Option PyData
  | some (.ob (.lst ds)) => some (.list ds)
  | _ => none
def contG : Option (Option B) → Addr → Option PyData
  | some (some (.gs G)), a => contC (G a)
  | _, _ => none
def cont : Vl → En → Option PyData
  | .dat d, _ => some d
  | .ob (.lst ds), _ => some (.list ds)
  | .ob _, _ => none
  | .own i, e => match e[i]? with
    | some (some (.dat d)) => some d
    | some (some (.ob _ (.lst ds))) => some (.list ds)
    | _ => none
  | .gob n a, e => contG e[n]? a
def contS : Option (Option B) → Option PyData
  | some (some (.dat d)) => some d
  | some (some (.ob _ (.lst ds))) => some (.list ds)
  | _ => none
theorem cont_dat {d : PyData} {e : En} : cont (.dat d) e = some d := rfl
theorem cont_lst {ds : List PyData} {e : En} : cont (.ob (.lst ds)) e = some (.list ds) := rfl
theorem cont_own {i : Nat} {e : En} : cont (.own i) e = contS e[i]? := by
  unfold cont contS
  rfl
theorem cont_gob {n : Nat} {a : Addr} {e : En} : cont (.gob n a) e = contG e[n]? a := rfl
theorem contG_gs {G : Gh} {a : Addr} : contG (some (some (.gs G))) a = contC (G a) := rfl
theorem contC_lst {ds : List PyData} : contC (some (.ob (.lst ds))) = some (.list ds) := rfl
theorem contS_dat {d : PyData} : contS (some (some (.dat d))) = some d := rfl
theorem contS_lst {t : Option Nat} {ds : List PyData} : contS (some (some (.ob t (.lst ds)))) = some (.list ds) := rfl
def Rep (K : PySem.W.Frag) (Hz H : Hp) (v : V) (d : PyData) : Prop := match d with
  | .list ds => ∃ a xs, v = .ref a ∧ SqL K H a xs ∧ DpAll K Hz xs ds
  | d => Dp K Hz v d
theorem rep_dp {K : PySem.W.Frag} {d : PyData} (s : Same Hz H) (h : Dp K Hz v d) : Rep K Hz H v d := by
  cases d with
  | list ds =>
    cases h with
    | lst hs ha => exact ⟨_, _, rfl, sqL s hs, ha⟩
  | _ => exact h
theorem Rep.dp {K : PySem.W.Frag} {d : PyData} (s : Same Hz H) (h : Rep K Hz H v d) : Dp K H v d := by
  cases d with
  | list ds =>
    obtain ⟨a, xs, rfl, h1, h2⟩ := h
    exact .lst h1 (dps_mono s _ _ h2)
  | _ => exact dp_mono s _ _ h
theorem rep_lst {K : PySem.W.Frag} {a : Addr} {ds : List PyData} (h : OkOb K Hz H a (.lst ds)) : Rep K Hz H (.ref a) (.list ds) := by
  obtain ⟨xs, h1, h2⟩ := h
  exact ⟨a, xs, rfl, SqL.of h1, h2⟩
theorem Sy.cont {d : PyData} (y : Sy f (tmp b L) (tmv b v W) e σ Hz H) (hv : Val f b v σ Hz) (h : cont b e = some d) : Rep f.K Hz H v d := by
  cases b with
  | dat d' =>
    cases h
    exact rep_dp y.sm hv
  | ob o =>
    cases o with
    | lst ds =>
      cases h
      obtain ⟨a, ea, h1, _⟩ := Sy.top y
      cases ea
      exact rep_lst h1
    | _ => cases h
  | own i =>
    simp only [DL.cont] at h
    split at h
    · rename_i d' q
      cases h
      obtain ⟨v', e1, e2⟩ := y.get q
      have hv' : σ[i]? = some (some v) := hv
      rw [hv'] at e1
      cases e1
      exact rep_dp y.sm e2
    · rename_i t ds q
      cases h
      obtain ⟨a, e1, e2, _⟩ := y.ob q
      have hv' : σ[i]? = some (some v) := hv
      rw [hv'] at e1
      cases e1
      exact rep_lst e2
    · cases h
  | gob n a =>
    have hv' : v = .ref a := hv
    subst hv'
    rw [cont_gob] at h
    generalize q : e[n]? = x at h
    unfold contG at h
    split at h
    · rename_i G
      generalize q2 : G a = c at h
      unfold contC at h
      split at h
      · cases h
        exact rep_lst (Sy.gget (Sy.un (b := .gob n a) y) q q2).1
      · cases h
    · cases h
end
section
variable {f : Fr}
def vrS (i : Nat) (e : En) (P : Vl → En → Prop) : Option (Option B) → Prop
  | some (some (.dat d)) => P (.dat d) e
  | some (some (.ob _ _)) => P (.own i) e
  | _ => False
def wVar (i : Nat) (e : En) (P : Vl → En → Prop) : Prop := vrS i e P e[i]?
theorem vrS_dat {i : Nat} {e : En} {P : Vl → En → Prop} {d : PyData} : vrS i e P (some (some (.dat d))) = P (.dat d) e := rfl
theorem vrS_ob {i : Nat} {e : En} {P : Vl → En → Prop} {t : Option Nat} {o : Ob} : vrS i e P (some (some (.ob t o))) = P (.own i) e := rfl
theorem se_var {i : Nat} : SE f (tVar i) (wVar i) := ⟨fun {L W e σ Hz H Post Q} h y k => by
  unfold wVar at h
  generalize q : e[i]? = x at h
  unfold vrS at h
  split at h
  · obtain ⟨v, e1, e2⟩ := y.get q
    exact ⟨v, e1, k _ _ _ _ _ h same_refl y e2⟩
  · obtain ⟨a, e1, e2, _⟩ := y.ob q
    exact ⟨_, e1, k _ _ _ _ _ h same_refl y e1⟩
  · exact h.elim⟩
def wC (d : PyData) (e : En) (P : Vl → En → Prop) : Prop := P (.dat d) e
theorem se_int {i : Int} : SE f (tC (.int i)) (wC (.int i)) := ⟨fun h y k => k _ _ _ _ _ h same_refl y (Dp.int i)⟩
theorem se_str {x : Str} : SE f (tC (.str x)) (wC (.str x)) := ⟨fun h y k => k _ _ _ _ _ h same_refl y (Dp.str x)⟩
theorem se_bl {b : Bool} : SE f (tC (.bl b)) (wC (.bool b)) := ⟨fun h y k => k _ _ _ _ _ h same_refl y (Dp.bl b)⟩
theorem se_non : SE f (tC .non) (wC .none) := ⟨fun h y k => k _ _ _ _ _ h same_refl y Dp.non⟩
end
abbrev W2 := PyData → PyData → (Vl → Prop) → Prop
structure SR (f : Fr) (r : R2) (g : W2) : Prop where
  run : ∀ {L W e σ Hz H x y d1 d2 Post Q}, Rep f.K Hz H x d1 → Rep f.K Hz H y d2 → Sy f L W e σ Hz H → g d1 d2 Post →
  (∀ b v Hz' H', Post b → Same Hz Hz' → Sy f (tmp b L) (tmv b v W) e σ Hz' H' → Val f b v σ Hz' → Q v H') → r x y H Q
section
variable {f : Fr} {ta tb tc : TE} {Ea Eb Ec : WE} {r r' : R2} {g g' : W2}
def wOp (g : W2) (Ea Eb : WE) (e : En) (P : Vl → En → Prop) : Prop := Ea e fun b1 e1 => Eb e1 fun b2 e2 => ob1 (cont b1 e2) fun d1 => ob1 (cont b2 e2) fun d2 => g d1 d2 fun b => P b e2
theorem se_op (hr : SR f r g) (ha : SE f ta Ea) (hb : SE f tb Eb) : SE f (tOp r ta tb) (wOp g Ea Eb) := ⟨fun {L W e σ Hz H Post Q} h y k => by
  refine ha.run h y fun b1 e1 v1 Hz1 H1 h1 s1 y1 l1 => ?_
  refine hb.run h1 y1 fun b2 e2 v2 Hz2 H2 h2 s2 y2 l2 => ?_
  obtain ⟨d1, c1, h2⟩ := ob1_ex h2
  obtain ⟨d2, c2, h2⟩ := ob1_ex h2
  exact hr.run (y2.un.cont (l1.mono s2) c1) (y2.cont l2 c2) y2.un.un h2 fun b v Hz' H' h3 s3 y3 l3 => k _ _ _ _ _ h3 (same_trans s1 (same_trans s2 s3)) y3 l3⟩
def vD : V → PyData
  | .non => .none
  | .bl b => .bool b
  | .int i => .int i
  | .str x => .str x
  | _ => .none
def gI (C : Int → Int → Prop) (g : Int → Int → V) (d1 d2 : PyData) (P : Vl → Prop) : Prop := match d1, d2 with
  | .int i, .int j => C i j ∧ P (.dat (vD (g i j)))
  | _, _ => False
def scV : V → Bool
  | .non => true
  | .bl _ => true
  | .int _ => true
  | .str _ => true
  | _ => false
theorem dp_sc {K : PySem.W.Frag} {Hz : Hp} {v : V} (h : scV v = true) : Dp K Hz v (vD v) := by
  cases v with
  | non => exact .non
  | bl b => exact .bl b
  | int i => exact .int i
  | str x => exact .str x
  | _ => cases h
theorem sr_I {C : Int → Int → Prop} {g : Int → Int → V} (hg : ∀ i j, scV (g i j) = true) : SR f (rI C g) (gI C g) := ⟨fun {L W e σ Hz H x y d1 d2 Post Q} r1 r2 s h k => by
  unfold gI at h
  split at h
  · cases r1
    cases r2
    exact ⟨_, _, rfl, rfl, h.1, k _ _ _ _ h.2 same_refl s (dp_sc (hg _ _))⟩
  · exact h.elim⟩
def gI0 (g : Int → Int → V) (d1 d2 : PyData) (P : Vl → Prop) : Prop := match d1, d2 with
  | .int i, .int j => P (.dat (vD (g i j)))
  | _, _ => False
theorem sr_I0 {g : Int → Int → V} (hg : ∀ i j, scV (g i j) = true) : SR f (rI0 g) (gI0 g) := ⟨fun {L W e σ Hz H x y d1 d2 Post Q} r1 r2 s h k => by
  unfold gI0 at h
  split at h
  · cases r1
    cases r2
    exact ⟨_, _, rfl, rfl, k _ _ _ _ h same_refl s (dp_sc (hg _ _))⟩
  · exact h.elim⟩
def gEq (d1 d2 : PyData) (P : Vl → Prop) : Prop := SeqAt.shaped d1 = true ∧ SeqAt.shaped d2 = true ∧ P (.dat (.bool (PyData.eqv d1 d2)))
def gNe (d1 d2 : PyData) (P : Vl → Prop) : Prop := SeqAt.shaped d1 = true ∧ SeqAt.shaped d2 = true ∧ P (.dat (.bool (!PyData.eqv d1 d2)))
theorem sr_eqD : SR f (rEqD f.K) gEq := ⟨fun r1 r2 s h k => ⟨_, _, dp_shaped (r1.dp s.sm) h.1, dp_shaped (r2.dp s.sm) h.2.1, h.1, h.2.1, k _ _ _ _ h.2.2 same_refl s (Dp.bl _)⟩⟩
theorem sr_neD : SR f (rNeD f.K) gNe := ⟨fun r1 r2 s h k => ⟨_, _, dp_shaped (r1.dp s.sm) h.1, dp_shaped (r2.dp s.sm) h.2.1, h.1, h.2.1, k _ _ _ _ h.2.2 same_refl s (Dp.bl _)⟩⟩
def gInD (neg : Bool) (d1 d2 : PyData) (P : Vl → Prop) : Prop := match d2 with
  | .list ds => SeqAt.shaped d1 = true ∧ SeqAt.shaped (.list ds) = true ∧ P (.dat (.bool (if neg then !(ds.any fun z => PyData.eqv z d1) else ds.any fun z => PyData.eqv z d1)))
  | _ => False
def flatD : PyData → Bool
  | .none | .bool _ | .int _ | .str _ => true
  | _ => false
def dV : PyData → V
  | .none => .non
  | .bool b => .bl b
  | .int i => .int i
  | .str x => .str x
  | _ => .non
theorem flat_dp {K : PySem.W.Frag} {Hz : Hp} {v : V} {d : PyData} (h : Dp K Hz v d) (hf : flatD d = true) : v = dV d ∧ flatV v = true := by
  cases h with
  | non => exact ⟨rfl, rfl⟩
  | bl b => exact ⟨rfl, rfl⟩
  | int i => exact ⟨rfl, rfl⟩
  | str x => exact ⟨rfl, rfl⟩
  | _ => cases hf
theorem flat_dps {K : PySem.W.Frag} {Hz : Hp} : ∀ {ds : List PyData} {vs : List V}, DpAll K Hz vs ds → ds.all flatD = true → vs = ds.map dV ∧ vs.all flatV = true
  | [], _, .nil, _ => ⟨rfl, rfl⟩
  | d :: ds, _, .cons h1 h2, hf => by
    rw [List.all_cons, Bool.and_eq_true] at hf
    obtain ⟨e1, f1⟩ := flat_dp h1 hf.1
    obtain ⟨e2, f2⟩ := flat_dps h2 hf.2
    exact ⟨by rw [e1, e2]; rfl, by rw [List.all_cons, f1, f2]; rfl⟩
def gIn (neg : Bool) (d1 d2 : PyData) (P : Vl → Prop) : Prop := match d2 with
  | .list ds => flatD d1 = true ∧ ds.all flatD = true ∧ P (.dat (.bool (if neg then !inV (dV d1) (ds.map dV) else inV (dV d1) (ds.map dV))))
  | .tuple ds => flatD d1 = true ∧ ds.all flatD = true ∧ P (.dat (.bool (if neg then !inV (dV d1) (ds.map dV) else inV (dV d1) (ds.map dV))))
  | _ => False
theorem rep_flat {K : PySem.W.Frag} {Hz H : Hp} {v : V} {d : PyData} (h : Rep K Hz H v d) (hf : flatD d = true) : Dp K Hz v d := by
  cases d with
  | list ds => cases hf
  | _ => exact h
theorem sr_in {neg : Bool} : SR f (rIn f.K neg) (gIn neg) := ⟨fun {L W e σ Hz H x y d1 d2 Post Q} r1 r2 s h k => by
  unfold gIn at h
  split at h
  · obtain ⟨h1, h2, h3⟩ := h
    obtain ⟨a, xs, rfl, q1, q2⟩ := r2
    obtain ⟨e1, f1⟩ := flat_dp (rep_flat r1 h1) h1
    obtain ⟨e2, f2⟩ := flat_dps q2 h2
    subst e1 e2
    exact ⟨a, _, rfl, .inl q1, f1, f2, k _ _ _ _ h3 same_refl s (Dp.bl _)⟩
  · obtain ⟨h1, h2, h3⟩ := h
    obtain ⟨a, xs, rfl, q1, q2⟩ := dp_tup r2
    obtain ⟨e1, f1⟩ := flat_dp (rep_flat r1 h1) h1
    obtain ⟨e2, f2⟩ := flat_dps q2 h2
    subst e1 e2
    exact ⟨a, _, rfl, .inr (sqT s.sm q1), f1, f2, k _ _ _ _ h3 same_refl s (Dp.bl _)⟩
  · exact h.elim⟩
theorem dps_atI {K : PySem.W.Frag} {Hz : Hp} {ds : List PyData} {xs : List V} {i : Int} {d : PyData} (h : DpAll K Hz xs ds) (e : atI ds i = some d) : ∃ x, atI xs i = some x ∧ Dp K Hz x d := by
  unfold atI at e ⊢
  rw [← dps_len h] at e
  cases c : ixN xs.length i with
  | none => rw [c] at e; cases e
  | some j =>
    rw [c] at e
    exact dps_get h j d e
def gIx (d1 d2 : PyData) (P : Vl → Prop) : Prop := match d1, d2 with
  | .list ds, .int i => ob1 (atI ds i) fun d => P (.dat d)
  | .tuple ds, .int i => ob1 (atI ds i) fun d => P (.dat d)
  | _, _ => False
def gIxL (d1 d2 : PyData) (P : Vl → Prop) : Prop := match d1, d2 with
  | .list ds, .int i => ob1 (atI ds i) fun d => P (.dat d)
  | _, _ => False
def gIxT (d1 d2 : PyData) (P : Vl → Prop) : Prop := match d1, d2 with
  | .tuple ds, .int i => ob1 (atI ds i) fun d => P (.dat d)
  | _, _ => False
theorem sr_ixL : SR f (rIxL f.K) gIxL := ⟨fun {L W e σ Hz H x y d1 d2 Post Q} r1 r2 s h k => by
  unfold gIxL at h
  split at h
  · obtain ⟨d, c, h⟩ := ob1_ex h
    obtain ⟨a, xs, rfl, q1, q2⟩ := r1
    cases r2
    obtain ⟨x, e1, e2⟩ := dps_atI q2 c
    exact ⟨a, xs, _, x, rfl, rfl, q1, e1, k _ _ _ _ h same_refl s e2⟩
  · exact h.elim⟩
theorem sr_ixT : SR f (rIxT f.K) gIxT := ⟨fun {L W e σ Hz H x y d1 d2 Post Q} r1 r2 s h k => by
  unfold gIxT at h
  split at h
  · obtain ⟨d, c, h⟩ := ob1_ex h
    obtain ⟨a, xs, rfl, q1, q2⟩ := dp_tup r1
    cases r2
    obtain ⟨x, e1, e2⟩ := dps_atI q2 c
    exact ⟨a, xs, _, x, rfl, rfl, sqT s.sm q1, e1, k _ _ _ _ h same_refl s e2⟩
  · exact h.elim⟩
theorem sr_ix : SR f (rIx f.K) gIx := ⟨fun {L W e σ Hz H x y d1 d2 Post Q} r1 r2 s h k => by
  unfold gIx at h
  split at h
  · exact .inl (sr_ixL.run r1 r2 s h k)
  · exact .inr (.inl (sr_ixT.run r1 r2 s h k))
  · exact h.elim⟩
def gIxS (d1 d2 : PyData) (P : Vl → Prop) : Prop := match d1, d2 with
  | .str z, .int i => z.length ≤ sizeLine ∧ ob1 (atI z.cps.toList i) fun c => P (.dat (.str ⟨#[c]⟩))
  | _, _ => False
theorem sr_ixS : SR f rIxS gIxS := ⟨fun {L W e σ Hz H x y d1 d2 Post Q} r1 r2 s h k => by
  unfold gIxS at h
  split at h
  · obtain ⟨h1, h⟩ := h
    obtain ⟨d, c, h⟩ := ob1_ex h
    cases r1
    cases r2
    exact ⟨_, _, _, rfl, rfl, h1, c, k _ _ _ _ h same_refl s (Dp.str _)⟩
  · exact h.elim⟩
def isNone : PyData → Bool
  | .none => true
  | _ => false
theorem rep_none {K : PySem.W.Frag} {Hz H : Hp} {v : V} {d : PyData} (h : Rep K Hz H v d) : decide (v = .non) = isNone d := by
  cases d with
  | list ds => obtain ⟨a, xs, rfl, _⟩ := h; rfl
  | none => cases h; rfl
  | bool b => cases h; rfl
  | int b => cases h; rfl
  | str b => cases h; rfl
  | tuple ds => obtain ⟨a, xs, rfl, _⟩ := dp_tup h; rfl
  | dict ds =>
    have h' : Dp K Hz v (.dict ds) := h
    generalize e : PyData.dict ds = d at h'
    cases h' with
    | ptr a => cases e; rfl
    | dic q => cases e; rfl
    | _ => cases e
def gIsN (neg : Bool) (d1 d2 : PyData) (P : Vl → Prop) : Prop := match d2 with
  | .none => P (.dat (.bool (if neg then !isNone d1 else isNone d1)))
  | _ => False
theorem sr_isN : SR f (fun x y H Q => y = .non ∧ Q (.bl (decide (x = .non))) H) (gIsN false) := ⟨fun {L W e σ Hz H x y d1 d2 Post Q} r1 r2 s h k => by
  unfold gIsN at h
  split at h
  · cases r2
    rw [rep_none r1]
    exact ⟨rfl, k _ _ _ _ h same_refl s (Dp.bl _)⟩
  · exact h.elim⟩
def gCat (d1 d2 : PyData) (P : Vl → Prop) : Prop := match d1, d2 with
  | .list ds, .list es => ds.length + es.length ≤ sizeLine ∧ P (.ob (.lst (ds ++ es)))
  | _, _ => False
def gCatT (d1 d2 : PyData) (P : Vl → Prop) : Prop := match d1, d2 with
  | .tuple ds, .tuple es => ds.length + es.length ≤ sizeLine ∧ P (.dat (.tuple (ds ++ es)))
  | _, _ => False
end
section
variable {f : Fr} {t u : TT} {ta tb tc : TE} {T U : WT} {Ea Eb Ec : WE} {r r' : R2} {g g' : W2}
def bK (P : Bool → En → Prop) (b : Vl) (e1 : En) : Prop := match b with
  | .dat (.bool c) => P c e1
  | _ => False
theorem bK_bool {P : Bool → En → Prop} {c : Bool} {e1 : En} : bK P (.dat (.bool c)) e1 = P c e1 := rfl
def wB (E : WE) (e : En) (P : Bool → En → Prop) : Prop := E e (bK P)
theorem val_bool {f : Fr} {v : V} {σ : St} {Hz : Hp} {c : Bool} (h : Val f (.dat (.bool c)) v σ Hz) : v = .bl c := by
  cases h
  rfl
theorem st_B (h : SE f ta Ea) : ST f (tB ta) (wB Ea) := ⟨fun {L W e σ Hz H Post Q} w y k => h.run w y fun b e1 v Hz1 H1 h1 s1 y1 l1 => by
  try unfold bK at h1
  split at h1
  · obtain rfl := val_bool l1
    exact ⟨_, rfl, k _ _ _ _ h1 s1 y1⟩
  · exact h1.elim⟩
theorem st_test (h : SE f ta Ea) : ST f (tTest ta) (wB Ea) := ⟨fun {L W e σ Hz H Post Q} w y k => h.run w y fun b e1 v Hz1 H1 h1 s1 y1 l1 => by
  try unfold bK at h1
  split at h1
  · obtain rfl := val_bool l1
    exact ⟨_, rfl, k _ _ _ _ h1 s1 y1⟩
  · exact h1.elim⟩
def wAnd (T U : WT) (e : En) (P : Bool → En → Prop) : Prop := T e fun c e1 => if c = true then U e1 P else P false e1
def wOr (T U : WT) (e : En) (P : Bool → En → Prop) : Prop := T e fun c e1 => if c = true then P true e1 else U e1 P
def wNot (T : WT) (e : En) (P : Bool → En → Prop) : Prop := T e fun c e1 => P (!c) e1
theorem st_and (h1 : ST f t T) (h2 : ST f u U) : ST f (tAnd t u) (wAnd T U) := ⟨fun {L W e σ Hz H Post Q} w y k => h1.run w y fun b e1 Hz1 H1 w1 s1 y1 => by
  by_cases c : b = true
  · rw [if_pos c] at w1 ⊢
    exact h2.run w1 y1 fun b2 e2 Hz2 H2 w2 s2 y2 => k _ _ _ _ w2 (same_trans s1 s2) y2
  · rw [if_neg c] at w1 ⊢
    exact k _ _ _ _ w1 s1 y1⟩
theorem st_or (h1 : ST f t T) (h2 : ST f u U) : ST f (tOr t u) (wOr T U) := ⟨fun {L W e σ Hz H Post Q} w y k => h1.run w y fun b e1 Hz1 H1 w1 s1 y1 => by
  by_cases c : b = true
  · rw [if_pos c] at w1 ⊢
    exact k _ _ _ _ w1 s1 y1
  · rw [if_neg c] at w1 ⊢
    exact h2.run w1 y1 fun b2 e2 Hz2 H2 w2 s2 y2 => k _ _ _ _ w2 (same_trans s1 s2) y2⟩
theorem st_not (h1 : ST f t T) : ST f (tNot t) (wNot T) := ⟨fun {L W e σ Hz H Post Q} w y k => h1.run w y fun b e1 Hz1 H1 w1 s1 y1 => k _ _ _ _ w1 s1 y1⟩
def wYes (e : En) (P : Bool → En → Prop) : Prop := P true e
theorem st_yes : ST f tYes wYes := ⟨fun {L W e σ Hz H Post Q} w y k => k _ _ _ _ w same_refl y⟩
def truD : PyData → Option Bool
  | .none => some false
  | .bool b => some b
  | .int i => some (i != 0)
  | .list ds => some (!ds.isEmpty)
  | .tuple ds => some (!ds.isEmpty)
  | _ => none
def wTru (E : WE) (e : En) (P : Bool → En → Prop) : Prop := E e fun b e1 => ob1 (cont b e1) fun d => ob1 (truD d) fun c => P c e1
def wNotT (E : WE) (e : En) (P : Vl → En → Prop) : Prop := wTru E e fun c e1 => P (.dat (.bool (!c))) e1
def wAndV (Ea Eb : WE) (e : En) (P : Vl → En → Prop) : Prop := wB Ea e fun c e1 => if c = true then Eb e1 P else P (.dat (.bool false)) e1
def wOrV (Ea Eb : WE) (e : En) (P : Vl → En → Prop) : Prop := wB Ea e fun c e1 => if c = true then P (.dat (.bool true)) e1 else Eb e1 P
def wNotV (E : WE) (e : En) (P : Vl → En → Prop) : Prop := wB E e fun c e1 => P (.dat (.bool (!c))) e1
def wIf (T : WT) (Ea Eb : WE) (e : En) (P : Vl → En → Prop) : Prop := T e fun c e1 => if c = true then Ea e1 P else Eb e1 P
theorem se_if (ht : ST f t T) (ha : SE f ta Ea) (hb : SE f tb Eb) : SE f (tIf t ta tb) (wIf T Ea Eb) := ⟨fun {L W e σ Hz H Post Q} w y k => ht.run w y fun b e1 Hz1 H1 h1 s1 y1 => by
  by_cases c : b = true
  · rw [if_pos c] at h1 ⊢
    exact ha.run h1 y1 fun b2 e2 v2 Hz2 H2 h2 s2 y2 l2 => k _ _ _ _ _ h2 (same_trans s1 s2) y2 l2
  · rw [if_neg c] at h1 ⊢
    exact hb.run h1 y1 fun b2 e2 v2 Hz2 H2 h2 s2 y2 l2 => k _ _ _ _ _ h2 (same_trans s1 s2) y2 l2⟩
def chK (A B : Prop) : Vl → Prop
  | .dat (.bool c) => if c = true then A else B
  | _ => False
theorem chK_bool {A B : Prop} {c : Bool} : chK A B (.dat (.bool c)) = if c = true then A else B := rfl
def wChain (g g' : W2) (Ea Eb Ec : WE) (e : En) (P : Vl → En → Prop) : Prop := Ea e fun b1 e1 => Eb e1 fun b2 e2 => ob1 (cont b1 e2) fun d1 => ob1 (cont b2 e2) fun d2 => g d1 d2 (chK (Ec e2 fun b3 e3 => ob1 (cont b2 e3) fun d2 => ob1 (cont b3 e3) fun d3 => g' d2 d3 fun b => P b e3) (P (.dat (.bool false)) e2))
def unK (g : Int → V) (P : Vl → En → Prop) (b : Vl) (e1 : En) : Prop := match b with
  | .dat (.int i) => P (.dat (vD (g i))) e1
  | _ => False
theorem unK_int {g : Int → V} {P : Vl → En → Prop} {i : Int} {e1 : En} : unK g P (.dat (.int i)) e1 = P (.dat (vD (g i))) e1 := rfl
def wUn (g : Int → V) (E : WE) (e : En) (P : Vl → En → Prop) : Prop := E e (unK g P)
theorem se_un {g : Int → V} (hg : ∀ i, scV (g i) = true) (ha : SE f ta Ea) : SE f (tUn (rU g) ta) (wUn g Ea) := ⟨fun {L W e σ Hz H Post Q} w y k => ha.run w y fun b e1 v Hz1 H1 h1 s1 y1 l1 => by
  unfold unK at h1
  split at h1
  · cases l1
    exact ⟨_, rfl, k _ _ _ _ _ h1 s1 y1 (dp_sc (hg _))⟩
  · exact h1.elim⟩
end
end DL


set_option Elab.async false
set_option linter.all false
set_option maxRecDepth 100000
set_option maxHeartbeats 4000000
namespace DL
open PySem L2 TG
section
variable {f : Fr} {L e : En} {W σ : St} {Hz H : Hp}
theorem set_self_some {α : Type} {l : List α} {i : Nat} {x : α} (h : l[i]? = some x) : l.set i x = l := by
  apply List.ext_getElem?
  intro n
  by_cases hn : i = n
  · subst hn
    rw [List.getElem?_set_self (List.getElem?_eq_some_iff.mp h).1, h]
  · rw [List.getElem?_set_ne hn]
theorem Sy.frzS {i : Nat} {v : V} {ds : List PyData} (y : Sy f L W e σ Hz H) (q : e[i]? = some (some (.ob none (.lst ds)))) (ev : σ[i]? = some (some v)) :
    ∃ Hz', Sy f L W (e.set i (some (.dat (.list ds)))) σ Hz' H ∧ Same Hz Hz' ∧ Dp f.K Hz' v (.list ds) := by
  obtain ⟨Hz', y1, s1, d1⟩ := (y.mv q ev).frz
  have y2 := y1.setD (i := i) d1 (by rw [← y.ln]; exact (List.getElem?_eq_some_iff.mp ev).1)
  rw [List.set_set, set_self_some ev] at y2
  exact ⟨Hz', y2, s1, d1⟩
end
def fzS (P : PyData → En → Prop) (i : Nat) (e1 : En) : Option (Option B) → Prop
  | some (some (.dat d)) => P d e1
  | some (some (.ob none (.lst ds))) => P (.list ds) (e1.set i (some (.dat (.list ds))))
  | _ => False
def fzK (P : PyData → En → Prop) (b : Vl) (e1 : En) : Prop := match b with
  | .dat d => P d e1
  | .ob (.lst ds) => P (.list ds) e1
  | .own i => fzS P i e1 e1[i]?
  | _ => False
def wFz (E : WE) (e : En) (P : PyData → En → Prop) : Prop := E e (fzK P)
section
variable {P : PyData → En → Prop} {e1 : En}
theorem fzK_dat {d : PyData} : fzK P (.dat d) e1 = P d e1 := rfl
theorem fzK_lst {ds : List PyData} : fzK P (.ob (.lst ds)) e1 = P (.list ds) e1 := rfl
theorem fzK_own {i : Nat} : fzK P (.own i) e1 = fzS P i e1 e1[i]? := rfl
theorem fzS_dat {i : Nat} {d : PyData} : fzS P i e1 (some (some (.dat d))) = P d e1 := rfl
theorem fzS_lst {i : Nat} {ds : List PyData} : fzS P i e1 (some (some (.ob none (.lst ds)))) = P (.list ds) (e1.set i (some (.dat (.list ds)))) := rfl
end
section
variable {f : Fr} {ta tb te : TE} {Ea Eb E : WE}
theorem fz_run (h : SE f te E) {L W e σ Hz H Post Q} (w : wFz E e Post) (y : Sy f L W e σ Hz H) (k : ∀ d e' v Hz' H', Post d e' → Same Hz Hz' → Sy f L W e' σ Hz' H' → Dp f.K Hz' v d → Q v H') : te σ H Q := by
  refine h.run w y fun b e1 v Hz1 H1 h1 s1 y1 l1 => ?_
  cases b with
  | dat d => exact k _ _ _ _ _ h1 s1 y1 l1
  | ob o =>
    cases o with
    | lst ds =>
      obtain ⟨Hz2, y2, s2, d2⟩ := Sy.frz y1
      exact k _ _ _ _ _ h1 (same_trans s1 s2) y2 d2
    | _ => exact h1.elim
  | own i =>
    rw [fzK_own] at h1
    generalize q : e1[i]? = x at h1
    unfold fzS at h1
    split at h1
    · obtain ⟨v', e1', e2⟩ := Sy.get (L := L) (W := W) y1 q
      have hv' : σ[i]? = some (some v) := l1
      rw [hv'] at e1'
      cases e1'
      exact k _ _ _ _ _ h1 s1 y1 e2
    · obtain ⟨Hz2, y2, s2, d2⟩ := Sy.frzS (L := L) (W := W) y1 q l1
      exact k _ _ _ _ _ h1 (same_trans s1 s2) y2 d2
    · exact h1.elim
  | gob n a => exact h1.elim
def wNil (e : En) (P : List PyData → En → Prop) : Prop := P [] e
def wCons (E : WE) (A : WA) (e : En) (P : List PyData → En → Prop) : Prop := wFz E e fun d e1 => A e1 fun ds e2 => P (d :: ds) e2
theorem sa_nil : SA f tNil wNil := ⟨fun {L W e σ Hz H Post Q} w y k => k _ _ _ _ _ w same_refl y .nil⟩
theorem sa_cons {tr : TA} {A : WA} (h : SE f te E) (hr : SA f tr A) : SA f (tCons te tr) (wCons E A) := ⟨fun {L W e σ Hz H Post Q} w y k => fz_run h w y fun d e1 v Hz1 H1 h1 s1 y1 d1 =>
  hr.run h1 y1 fun ds e2 vs Hz2 H2 h2 s2 y2 d2 => k _ _ _ _ _ h2 (same_trans s1 s2) y2 (.cons (dp_mono s2 _ _ d1) d2)⟩
def wStar (E : WE) (A : WA) (e : En) (P : List PyData → En → Prop) : Prop := wFz E e fun d e1 => match d with
  | .list es => A e1 fun ds e2 => P (es ++ ds) e2
  | .tuple es => A e1 fun ds e2 => P (es ++ ds) e2
  | _ => False
def wTup (A : WA) (e : En) (P : Vl → En → Prop) : Prop := A e fun ds e1 => ds.length ≤ 100000 ∧ P (.dat (.tuple ds)) e1
def wLst (A : WA) (e : En) (P : Vl → En → Prop) : Prop := A e fun ds e1 => ds.length ≤ 100000 ∧ P (.ob (.lst ds)) e1
theorem se_tup {ta : TA} {A : WA} (h : SA f ta A) : SE f (tTup ta) (wTup A) := ⟨fun {L W e σ Hz H Post Q} w y k => h.run w y fun ds e1 vs Hz1 H1 h1 s1 y1 d1 => ⟨Evl.sz_of (by rw [dps_len d1]; exact h1.1), fun p hp => by
  have s2 := same_new (y1.hz hp) (.tup vs)
  exact k _ _ _ _ _ h1.2 (same_trans s1 s2) (y1.newT hp) (Dp.tup (SqT.of upd_same) (dps_mono s2 _ _ d1))⟩⟩
theorem se_lst {ta : TA} {A : WA} (h : SA f ta A) : SE f (tLst ta) (wLst A) := ⟨fun {L W e σ Hz H Post Q} w y k => h.run w y fun ds e1 vs Hz1 H1 h1 s1 y1 d1 => ⟨Evl.sz_of (by rw [dps_len d1]; exact h1.1), fun p hp =>
  k _ _ _ _ _ h1.2 s1 (y1.newO (o := .lst ds) hp ⟨vs, upd_same, d1⟩) trivial⟩⟩
abbrev W1 := PyData → (Vl → Prop) → Prop
structure SC (f : Fr) (r : List V → Hp → VK → Prop) (g : W1) : Prop where
  run : ∀ {L W e σ Hz H x d Post Q}, Rep f.K Hz H x d → Sy f L W e σ Hz H → g d Post →
  (∀ b v Hz' H', Post b → Same Hz Hz' → Sy f (tmp b L) (tmv b v W) e σ Hz' H' → Val f b v σ Hz' → Q v H') → r [x] H Q
def wC1 (g : W1) (E : WE) (e : En) (P : Vl → En → Prop) : Prop := E e fun b e1 => ob1 (cont b e1) fun d => g d fun b => P b e1
theorem se_cb1 {r : List V → Hp → VK → Prop} {g : W1} (hr : SC f r g) (h : SE f te E) : SE f (tCB r (tCons te tNil)) (wC1 g E) := ⟨fun {L W e σ Hz H Post Q} w y k => h.run w y fun b e1 v Hz1 H1 h1 s1 y1 l1 => by
  obtain ⟨d, c, h1⟩ := ob1_ex h1
  exact hr.run (y1.cont l1 c) y1.un h1 fun b v Hz' H' h2 s2 y2 l2 => k _ _ _ _ _ h2 (same_trans s1 s2) y2 l2⟩
theorem rep_tup {K : PySem.W.Frag} {Hz H : Hp} {v : V} {ds : List PyData} (s : Same Hz H) (h : Rep K Hz H v (.tuple ds)) : ∃ a xs, v = .ref a ∧ SqT K H a xs ∧ DpAll K Hz xs ds := by
  obtain ⟨a, xs, rfl, q1, q2⟩ := dp_tup h
  exact ⟨a, xs, rfl, sqT s q1, q2⟩
def gLen (d : PyData) (P : Vl → Prop) : Prop := match d with
  | .list ds => P (.dat (.int ds.length))
  | .tuple ds => P (.dat (.int ds.length))
  | _ => False
theorem sc_len : SC f (rLenQ f.K) gLen := ⟨fun {L W e σ Hz H x d Post Q} r s h k => by
  unfold gLen at h
  split at h
  · obtain ⟨a, xs, rfl, q1, q2⟩ := r
    refine ⟨a, xs, rfl, .inl q1, ?_⟩
    rw [dps_len q2]
    exact k _ _ _ _ h same_refl s (Dp.int _)
  · obtain ⟨a, xs, rfl, q1, q2⟩ := rep_tup s.sm r
    refine ⟨a, xs, rfl, .inr q1, ?_⟩
    rw [dps_len q2]
    exact k _ _ _ _ h same_refl s (Dp.int _)
  · exact h.elim⟩
def gTupOf (d : PyData) (P : Vl → Prop) : Prop := match d with
  | .list ds => P (.dat (.tuple ds))
  | .tuple ds => P (.dat (.tuple ds))
  | _ => False
theorem sc_tupOf : SC f (rTupOf f.K) gTupOf := ⟨fun {L W e σ Hz H x d Post Q} r s h k => by
  unfold gTupOf at h
  split at h
  · obtain ⟨a, xs, rfl, q1, q2⟩ := r
    refine ⟨a, xs, rfl, .inl ⟨q1, fun p hp => ?_⟩⟩
    have s2 := same_new (s.hz hp) (.tup xs)
    exact k _ _ _ _ h s2 (s.newT hp) (Dp.tup (SqT.of upd_same) (dps_mono s2 _ _ q2))
  · obtain ⟨a, xs, rfl, q1, q2⟩ := dp_tup r
    exact ⟨a, xs, rfl, .inr ⟨sqT s.sm q1, k _ _ _ _ h same_refl s (Dp.tup q1 q2)⟩⟩
  · exact h.elim⟩
def gListOf (d : PyData) (P : Vl → Prop) : Prop := match d with
  | .list ds => P (.ob (.lst ds))
  | .tuple ds => P (.ob (.lst ds))
  | _ => False
def intsD : List PyData → Option (List Int)
  | [] => some []
  | .int i :: ds => (intsD ds).map (i :: ·)
  | _ :: _ => none
def boolsD : List PyData → Option (List Bool)
  | [] => some []
  | .bool i :: ds => (boolsD ds).map (i :: ·)
  | _ :: _ => none
theorem ints_dps {K : PySem.W.Frag} {Hz : Hp} : ∀ (ns : List Int), DpAll K Hz (ns.map V.int) (ns.map PyData.int)
  | [] => .nil
  | n :: ns => .cons (.int n) (ints_dps ns)
def gSum (d : PyData) (P : Vl → Prop) : Prop := match d with
  | .list ds => ob1 (intsD ds) fun ns => P (.dat (.int ns.sum))
  | _ => False
def gMax (d : PyData) (P : Vl → Prop) : Prop := match d with
  | .list ds => ob1 (intsD ds) fun ns => 0 < ns.length ∧ ∀ m, m ∈ ns → (∀ y ∈ ns, y ≤ m) → P (.dat (.int m))
  | _ => False
def gMin (d : PyData) (P : Vl → Prop) : Prop := match d with
  | .list ds => ob1 (intsD ds) fun ns => 0 < ns.length ∧ ∀ m, m ∈ ns → (∀ y ∈ ns, m ≤ y) → P (.dat (.int m))
  | _ => False
def gAll (d : PyData) (P : Vl → Prop) : Prop := match d with
  | .list ds => ob1 (boolsD ds) fun ns => P (.dat (.bool (ns.all id)))
  | _ => False
def gAny (d : PyData) (P : Vl → Prop) : Prop := match d with
  | .list ds => ob1 (boolsD ds) fun ns => P (.dat (.bool (ns.any id)))
  | _ => False
def gSorted (d : PyData) (P : Vl → Prop) : Prop := match d with
  | .list ds => ob1 (intsD ds) fun ns => ∀ ns' : List Int, ns'.Perm ns → ns'.Pairwise (· ≤ ·) → P (.ob (.lst (ns'.map PyData.int)))
  | _ => False
def gSortSet (d : PyData) (P : Vl → Prop) : Prop := match d with
  | .list ds => ob1 (intsD ds) fun ns => ns.length < 64 ∧ ∀ ns' : List Int, ns'.Pairwise (· < ·) → (∀ k, k ∈ ns' ↔ k ∈ ns) → P (.ob (.lst (ns'.map PyData.int)))
  | _ => False
def gInt (d : PyData) (P : Vl → Prop) : Prop := match d with
  | .int i => P (.dat (.int i))
  | .bool b => P (.dat (.int (if b then 1 else 0)))
  | _ => False
theorem sc_int : SC f (fun xs H Q => (∃ i, xs = [.int i] ∧ Q (.int i) H) ∨ ∃ k, xs = [.bl k] ∧ Q (.int (if k then 1 else 0)) H) gInt := ⟨fun {L W e σ Hz H x d Post Q} r s h k => by
  unfold gInt at h
  split at h
  · cases r
    exact .inl ⟨_, rfl, k _ _ _ _ h same_refl s (Dp.int _)⟩
  · cases r
    exact .inr ⟨_, rfl, k _ _ _ _ h same_refl s (Dp.int _)⟩
  · exact h.elim⟩
def gAbs (d : PyData) (P : Vl → Prop) : Prop := match d with
  | .int i => P (.dat (.int (if i < 0 then -i else i)))
  | _ => False
theorem sc_abs : SC f (fun xs H Q => ∃ i, xs = [.int i] ∧ Q (.int (if i < 0 then -i else i)) H) gAbs := ⟨fun {L W e σ Hz H x d Post Q} r s h k => by
  unfold gAbs at h
  split at h
  · cases r
    exact ⟨_, rfl, k _ _ _ _ h same_refl s (Dp.int _)⟩
  · exact h.elim⟩
end
theorem Rep.mono {K : PySem.W.Frag} {Hz Hz' H H' : Hp} {v : V} {d : PyData} (h : Rep K Hz H v d) (s : Same Hz Hz') (sH : Same H H') : Rep K Hz' H' v d := by
  cases d with
  | list ds =>
    obtain ⟨a, xs, rfl, h1, h2⟩ := h
    exact ⟨a, xs, rfl, sqL sH h1, dps_mono s _ _ h2⟩
  | _ => exact dp_mono s _ _ h
def tyD : PyData → String
  | .none => "NoneType"
  | .bool _ => "bool"
  | .int _ => "int"
  | .str _ => "str"
  | .list _ => "list"
  | .tuple _ => "tuple"
  | .dict _ => "dict"
def isPtr : PyData → Bool
  | .dict (_ :: _) => true
  | _ => false
theorem isPtr_ptr {a : Addr} : isPtr (ptr a) = true := rfl
theorem rep_ty {K : PySem.W.Frag} {Hz H : Hp} {v : V} {d : PyData} (s : Same Hz H) (h : Rep K Hz H v d) (hp : isPtr d = false) : TyX K H v (.type (tyD d)) := by
  cases d with
  | none => cases h; exact .base .non
  | bool b => cases h; exact .base (.bl b)
  | int i => cases h; exact .base (.int i)
  | str x => cases h; exact .base (.str x)
  | dict ks =>
    have h' : Dp K Hz v (.dict ks) := h
    generalize e : PyData.dict ks = d at h'
    cases h' with
    | ptr a => cases e; cases hp
    | dic q => exact .base (.dK (s _ _ q))
    | _ => cases e
  | tuple ds =>
    obtain ⟨a, xs, rfl, (q | ⟨o, q⟩) | ⟨o, its, n, q, hc, _⟩, _⟩ := rep_tup s h
    · exact .base (.tup q)
    · exact .fTuple q
    · exact .kTuple q hc
  | list ds =>
    obtain ⟨a, xs, rfl, (q | ⟨o, q⟩) | ⟨o, its, n, q, hc, _⟩, _⟩ := h
    · exact .base (.lst q)
    · exact .base (.frz q)
    · exact .kList q hc
def isT (t c : String) : Bool := t == c || (t == "bool" && c == "int")
def goodT (c : String) : Bool := c == "tuple" || c == "list" || c == "int" || c == "bool" || c == "str" || c == "dict"
theorem tyD_is (d : PyData) : tyD d = "NoneType" ∨ tyD d = "bool" ∨ tyD d = "int" ∨ tyD d = "str" ∨ tyD d = "list" ∨ tyD d = "tuple" ∨ tyD d = "dict" := by
  cases d <;> simp [tyD]
theorem kit_is {d : PyData} {c : String} (h : goodT c = true) : kitB (tyD d) c = some (isT (tyD d) c) := by
  simp only [goodT, Bool.or_eq_true, beq_iff_eq] at h
  rcases tyD_is d with q | q | q | q | q | q | q <;> rw [q] <;> rcases h with ((((rfl | rfl) | rfl) | rfl) | rfl) | rfl <;> decide +kernel
theorem ept_none : isPtr .none = false := rfl
theorem ept_bool {b : Bool} : isPtr (.bool b) = false := rfl
theorem ept_int {i : Int} : isPtr (.int i) = false := rfl
theorem ept_str {x : Str} : isPtr (.str x) = false := rfl
theorem ept_list {ds : List PyData} : isPtr (.list ds) = false := rfl
theorem ept_tuple {ds : List PyData} : isPtr (.tuple ds) = false := rfl
theorem ept_dict : isPtr (.dict []) = false := rfl
def rIsiX (K : PySem.W.Frag) : List V → Hp → VK → Prop := fun xs H Q => ∃ x c t b, xs = [x, .ty c] ∧ TyX K H x (.type t) ∧ kitB t c = some b ∧ Q (.bl b) H
theorem call_isiX {X : Cx} {K : PySem.W.Frag} (hK : X.K = K) : CallR X (.builtin "isinstance") (rIsiX K) := by
  subst hK
  intro pins s σ H xs us Q I r h
  obtain ⟨x, c, t, b, rfl, ht, hk, q⟩ := h
  exact call_isi pins s σ H _ us Q I r ⟨x, .ty c, .type t, .type c, b, rfl, .ty c, ht, kit_ty hk, q⟩
section
variable {f : Fr} {te : TE} {E : WE}
def wIsi (c : String) (E : WE) (e : En) (P : Vl → En → Prop) : Prop := E e fun b e1 => ob1 (cont b e1) fun d => isPtr d = false ∧ P (.dat (.bool (isT (tyD d) c))) e1
theorem se_isi {c : String} (hc : goodT c = true) (h : SE f te E) : SE f (tCB (rIsiX f.K) (tCons te (tCons (tC (.ty c)) tNil))) (wIsi c E) := ⟨fun {L W e σ Hz H Post Q} w y k => h.run w y fun b e1 v Hz1 H1 h1 s1 y1 l1 => by
  obtain ⟨d, c1, h1⟩ := ob1_ex h1
  exact ⟨v, c, tyD d, isT (tyD d) c, rfl, rep_ty y1.sm (y1.cont l1 c1) h1.1, kit_is hc, k _ _ _ _ _ h1.2 s1 y1.un (Dp.bl _)⟩⟩
def wIsi2 (c c' : String) (E : WE) (e : En) (P : Vl → En → Prop) : Prop := E e fun b e1 => ob1 (cont b e1) fun d => isPtr d = false ∧ P (.dat (.bool (isT (tyD d) c || isT (tyD d) c'))) e1
end
end DL


set_option Elab.async false
set_option linter.all false
set_option maxRecDepth 100000
set_option maxHeartbeats 4000000
namespace DL
open PySem L2 TG
theorem wipe_get (σ : St) : ∀ (vs : List Nat) (n : Nat), (wipe σ vs)[n]? = if n ∈ vs ∧ n < σ.length then some none else σ[n]?
  | [], n => by simp [wipe]
  | v :: vs, n => by
    unfold wipe
    by_cases h : v = n
    · subst h
      by_cases hl : v < σ.length
      · rw [List.getElem?_set_self (by rw [wipe_length]; exact hl), if_pos ⟨List.mem_cons_self, hl⟩]
      · rw [if_neg (fun c => hl c.2)]
        rw [List.getElem?_eq_none (by rw [List.length_set, wipe_length]; omega), List.getElem?_eq_none (by omega)]
    · rw [List.getElem?_set_ne h, wipe_get σ vs n]
      by_cases h2 : n ∈ vs ∧ n < σ.length
      · rw [if_pos h2, if_pos ⟨List.mem_cons_of_mem _ h2.1, h2.2⟩]
      · rw [if_neg h2, if_neg (fun c => h2 ⟨(List.mem_cons.mp c.1).resolve_left (fun q => h q.symm), c.2⟩)]
theorem wipe_congr {σ τ : St} {vs : List Nat} (hl : σ.length = τ.length) (h : ∀ n, n ∉ vs → σ[n]? = τ[n]?) : wipe σ vs = wipe τ vs := by
  apply List.ext_getElem?
  intro n
  rw [wipe_get, wipe_get, hl]
  by_cases c : n ∈ vs ∧ n < τ.length
  · rw [if_pos c, if_pos c]
  · rw [if_neg c, if_neg c]
    by_cases c2 : n ∈ vs
    · have : ¬ n < τ.length := fun q => c ⟨c2, q⟩
      rw [List.getElem?_eq_none (by omega), List.getElem?_eq_none (by omega)]
    · exact h n c2
theorem wipe_wipe (σ : St) (vs : List Nat) : wipe (wipe σ vs) vs = wipe σ vs := by
  refine wipe_congr (wipe_length _ _) fun n hn => ?_
  rw [wipe_get, if_neg (fun c => hn c.1)]
theorem wipe_set {σ : St} {vs : List Nat} {i : Nat} {x : Option V} (h : i ∈ vs) : wipe (σ.set i x) vs = wipe σ vs := by
  refine wipe_congr (List.length_set ..) fun n hn => ?_
  rw [List.getElem?_set_ne (fun c : i = n => hn (by rw [← c]; exact h))]
def wipeE (e : En) : List Nat → En
  | [] => e
  | v :: vs => (wipeE e vs).set v none
section
variable {f : Fr} {L e : En} {W σ : St} {Hz H : Hp}
theorem Sy.wiped (y : Sy f L W e σ Hz H) : ∀ vs : List Nat, (∀ v ∈ vs, v < f.n) → Sy f L W (wipeE e vs) (wipe σ vs) Hz H
  | [], _ => y
  | v :: vs, h => (Sy.wiped y vs fun x hx => h x (List.mem_cons_of_mem _ hx)).forget (h v List.mem_cons_self)
theorem Pr.swap {O : List Addr} {τ : St} (h : Pr f Hz H e σ O) (hl : τ.length = σ.length) (hs : ∀ n : Nat, e[n]? ≠ some none → τ[n]? = σ[n]?) : Pr f Hz H e τ O := by
  induction h generalizing τ with
  | nil =>
    cases τ with
    | nil => exact .nil
    | cons _ _ => simp at hl
  | gs l h g =>
    cases τ with
    | nil => exact .gs l h g
    | cons _ _ => simp at hl
  | @skip x L W O p ih =>
    cases τ with
    | nil => simp at hl
    | cons t τ => exact .skip (ih (by simpa using hl) fun n hn => by have := hs (n + 1) (by simpa using hn); simpa using this)
  | @dat v d L W O q p ih =>
    cases τ with
    | nil => simp at hl
    | cons t τ =>
      have h0 := hs 0 (by simp)
      simp at h0
      subst h0
      exact .dat q (ih (by simpa using hl) fun n hn => by have := hs (n + 1) (by simpa using hn); simpa using this)
  | @ob a t o L W O q q1 q2 p ih =>
    cases τ with
    | nil => simp at hl
    | cons t τ =>
      have h0 := hs 0 (by simp)
      simp at h0
      subst h0
      exact .ob q q1 q2 (ih (by simpa using hl) fun n hn => by have := hs (n + 1) (by simpa using hn); simpa using this)
theorem wipeE_len (e : En) : ∀ vs : List Nat, (wipeE e vs).length = e.length
  | [] => rfl
  | v :: vs => by unfold wipeE; rw [List.length_set, wipeE_len e vs]
theorem wipeE_get (e : En) : ∀ (vs : List Nat) (n : Nat), (wipeE e vs)[n]? = if n ∈ vs ∧ n < e.length then some none else e[n]?
  | [], n => by simp [wipeE]
  | v :: vs, n => by
    unfold wipeE
    by_cases h : v = n
    · subst h
      by_cases hl : v < e.length
      · rw [List.getElem?_set_self (by rw [wipeE_len]; exact hl), if_pos ⟨List.mem_cons_self, hl⟩]
      · rw [if_neg (fun c => hl c.2)]
        rw [List.getElem?_eq_none (by rw [List.length_set, wipeE_len]; omega), List.getElem?_eq_none (by omega)]
    · rw [List.getElem?_set_ne h, wipeE_get e vs n]
      by_cases h2 : n ∈ vs ∧ n < e.length
      · rw [if_pos h2, if_pos ⟨List.mem_cons_of_mem _ h2.1, h2.2⟩]
      · rw [if_neg h2, if_neg (fun c => h2 ⟨(List.mem_cons.mp c.1).resolve_left (fun q => h q.symm), c.2⟩)]
theorem Sy.swap {τ : St} (y : Sy f L W e σ Hz H) (hl : τ.length = σ.length) (hs : ∀ n : Nat, e[n]? ≠ some none → τ[n]? = σ[n]?) : Sy f L W e τ Hz H := by
  obtain ⟨⟨O1, O2, p1, p2, nd, fr⟩, sm, tz, nw, kp, ka, az, tp, ln⟩ := y
  exact ⟨⟨O1, O2, p1, p2.swap hl hs, nd, fr⟩, sm, tz, nw, kp, ka, az, tp, hl.trans ln⟩
theorem Sy.unwipe {vs : List Nat} (y : Sy f L W e (wipe σ vs) Hz H) (hv : ∀ v ∈ vs, v < f.n) : Sy f L W (wipeE e vs) σ Hz H := by
  have y1 := y.wiped vs hv
  have hl := y.le
  rw [wipe_length] at hl
  refine y1.swap (by rw [wipe_length, wipe_length]) fun n hn => ?_
  by_cases c : n ∈ vs
  · by_cases c2 : n < e.length
    · exact absurd (by rw [wipeE_get, if_pos ⟨c, c2⟩]) hn
    · rw [List.getElem?_eq_none (by omega), List.getElem?_eq_none (by rw [wipe_length, wipe_length]; omega)]
  · rw [wipe_get, if_neg (fun q => c q.1), wipe_get, if_neg (fun q => c q.1)]
def back (e0 : En) : List Nat → En → En
  | [], e => e
  | v :: vs, e => match e0[v]? with
    | some (some (.dat d)) => (back e0 vs e).set v (some (.dat d))
    | _ => back e0 vs e
theorem Sy.back {L0 e0 : En} {W0 : St} {Hz0 H0 : Hp} (y0 : Sy f L0 W0 e0 σ Hz0 H0) (s : Same Hz0 Hz) (y : Sy f L W e σ Hz H) (he : e.length = e0.length) : ∀ vs, Sy f L W (back e0 vs e) σ Hz H
  | [] => y
  | v :: vs => by
    have y1 := Sy.back y0 s y he vs
    unfold DL.back
    split
    · rename_i d q
      obtain ⟨x, e1, e2⟩ := y0.get q
      have y2 := y1.setD (i := v) (dp_mono s _ _ e2) (by rw [← y0.ln]; exact (List.getElem?_eq_some_iff.mp e1).1)
      rw [set_self_some e1] at y2
      exact y2
    · exact y1
end
abbrev WG := Vl → En → (En → Prop) → Prop
abbrev WGs := List PyData → En → (En → Prop) → Prop
structure SG (f : Fr) (g : TG) (G : WG) (sl : List Nat) : Prop where
  run : ∀ {L W e σ Hz H b v Post Q}, G b e Post → Sy f (tmp b L) (tmv b v W) e σ Hz H → Val f b v σ Hz →
    (∀ e' σ' Hz' H', Post e' → Same Hz Hz' → Sy f L W e' σ' Hz' H' → (∀ vs, (∀ i ∈ sl, i ∈ vs) → wipe σ' vs = wipe σ vs) → Q σ' H') → g v σ H Q
structure SGs (f : Fr) (g : TGs) (G : WGs) (sl : List Nat) : Prop where
  run : ∀ {L W e σ Hz H ds vs Post Q}, G ds e Post → Sy f L W e σ Hz H → DpAll f.K Hz vs ds →
    (∀ e' σ' Hz' H', Post e' → Same Hz Hz' → Sy f L W e' σ' Hz' H' → (∀ vs, (∀ i ∈ sl, i ∈ vs) → wipe σ' vs = wipe σ vs) → Q σ' H') → g vs σ H Q
section
variable {f : Fr}
def nmS (i j : Nat) (e : En) (P : En → Prop) : Option (Option B) → Prop
  | some (some (.dat d)) => P (e.set i (some (.dat d)))
  | some (some (.ob t o)) => P ((e.set j none).set i (some (.ob t o)))
  | _ => False
def wName (i : Nat) (b : Vl) (e : En) (P : En → Prop) : Prop := match b with
  | .dat d => P (e.set i (some (.dat d)))
  | .ob o => P (e.set i (some (.ob none o)))
  | .own j => nmS i j e P e[j]?
  | .gob _ a => P (e.set i (some (.dat (ptr a))))
section
variable {i : Nat} {e : En} {P : En → Prop}
theorem nm_dat {d : PyData} : wName i (.dat d) e P = P (e.set i (some (.dat d))) := rfl
theorem nm_ob {o : Ob} : wName i (.ob o) e P = P (e.set i (some (.ob none o))) := rfl
theorem nm_gob {n : Nat} {a : Addr} : wName i (.gob n a) e P = P (e.set i (some (.dat (ptr a)))) := rfl
theorem nm_own {j : Nat} : wName i (.own j) e P = nmS i j e P e[j]? := rfl
theorem nmS_dat {j : Nat} {d : PyData} : nmS i j e P (some (some (.dat d))) = P (e.set i (some (.dat d))) := rfl
theorem nmS_ob {j : Nat} {t : Option Nat} {o : Ob} : nmS i j e P (some (some (.ob t o))) = P ((e.set j none).set i (some (.ob t o))) := rfl
end
theorem sg_name {i : Nat} (hn : Nat.blt i f.n = true := by rfl) : SG f (gName i) (wName i) [i] := ⟨fun {L W e σ Hz H b v Post Q} w y l k => by
  have hi : i < f.n := Nat.le_of_ble_eq_true hn
  have hw : ∀ vs, (∀ j ∈ [i], j ∈ vs) → wipe (σ.set i (some v)) vs = wipe σ vs := fun vs h => wipe_set (h i List.mem_cons_self)
  cases b with
  | dat d => exact k _ _ _ _ w same_refl (y.setD l hi) hw
  | ob o => exact k _ _ _ _ w same_refl (Sy.setO y hi) hw
  | gob n a =>
    have l' : v = .ref a := l
    subst l'
    exact k _ _ _ _ w same_refl (Sy.setD (L := L) (W := W) y (Dp.ptr a) hi) hw
  | own j =>
    rw [nm_own] at w
    generalize q : e[j]? = x at w
    unfold nmS at w
    split at w
    · obtain ⟨v', e1', e2⟩ := Sy.get (L := L) (W := W) y q
      have hv' : σ[j]? = some (some v) := l
      rw [hv'] at e1'
      cases e1'
      exact k _ _ _ _ w same_refl (Sy.setD (L := L) (W := W) y e2 hi) hw
    · exact k _ _ _ _ w same_refl (Sy.setO (Sy.mv (L := L) (W := W) y q l) hi) hw
    · exact w.elim⟩
def wGNil (ds : List PyData) (e : En) (P : En → Prop) : Prop := match ds with
  | [] => P e
  | _ => False
def wGCons (G : WG) (Gs : WGs) (ds : List PyData) (e : En) (P : En → Prop) : Prop := match ds with
  | d :: r => G (.dat d) e fun e1 => Gs r e1 P
  | [] => False
theorem sgs_nil : SGs f gNil wGNil [] := ⟨fun {L W e σ Hz H ds vs Post Q} w y l k => by
  cases l with
  | nil => exact ⟨rfl, k _ _ _ _ w same_refl y (fun _ _ => rfl)⟩
  | cons _ _ => exact w.elim⟩
theorem sgs_cons {g : TG} {gs : TGs} {G : WG} {Gs : WGs} {sl sl' : List Nat} (h : SG f g G sl) (hs : SGs f gs Gs sl') : SGs f (gCons g gs) (wGCons G Gs) (sl ++ sl') := ⟨fun {L W e σ Hz H ds vs Post Q} w y l k => by
  cases l with
  | nil => exact w.elim
  | cons l1 l2 =>
    refine ⟨_, _, rfl, ?_⟩
    refine SG.run (L := L) (W := W) h w y l1 fun e1 σ1 Hz1 H1 h1 s1 y1 c1 => ?_
    exact hs.run h1 y1 (dps_mono s1 _ _ l2) fun e2 σ2 Hz2 H2 h2 s2 y2 c2 => k _ _ _ _ h2 (same_trans s1 s2) y2 fun vs hv => by
      rw [c2 vs (fun i hi => hv i (List.mem_append_right _ hi)), c1 vs (fun i hi => hv i (List.mem_append_left _ hi))]⟩
def wGTup (n : Nat) (Gs : WGs) (b : Vl) (e : En) (P : En → Prop) : Prop := ob1 (cont b e) fun d => match d with
  | .tuple ds => ds.length = n ∧ Gs ds e P
  | _ => False
theorem sg_tup {n : Nat} {gs : TGs} {Gs : WGs} {sl : List Nat} (hs : SGs f gs Gs sl) : SG f (gTup f.K n gs) (wGTup n Gs) sl := ⟨fun {L W e σ Hz H b v Post Q} w y l k => by
  obtain ⟨d, c, w⟩ := ob1_ex w
  have r := y.cont l c
  split at w
  · obtain ⟨a, xs, rfl, q1, q2⟩ := rep_tup y.sm r
    exact ⟨a, xs, rfl, q1, by rw [dps_len q2]; exact w.1, hs.run w.2 y.un q2 k⟩
  · exact w.elim⟩
def wGSub (j : Nat) (Ei : WE) (b : Vl) (e : En) (P : En → Prop) : Prop := match b with
  | .dat d => wVar j e fun _ _ => Ei e fun bi e1 => match bi with
    | .dat (.int n) => match e1[j]? with
      | some (some (.ob t (.lst ds))) => ob1 (ixN ds.length n) fun m => P (e1.set j (some (.ob t (.lst (ds.set m d)))))
      | _ => False
    | _ => False
  | _ => False
theorem sg_sub {j : Nat} {ti : TE} {Ei : WE} (hi : SE f ti Ei) : SG f (gSub (tVar j) ti rSetL) (wGSub j Ei) [] := ⟨fun {L W e σ Hz H b v Post Q} w y l k => by
  cases b with
  | dat d =>
    obtain ⟨va, ha, w⟩ : ∃ va, σ[j]? = some (some va) ∧ Ei e fun bi e1 => match bi with
        | .dat (.int n) => match e1[j]? with
          | some (some (.ob t (.lst ds))) => ob1 (ixN ds.length n) fun m => Post (e1.set j (some (.ob t (.lst (ds.set m d)))))
          | _ => False
        | _ => False := by
      unfold wGSub wVar at w
      generalize q : e[j]? = x at w
      unfold vrS at w
      dsimp only at w
      split at w
      · obtain ⟨v', e1', e2⟩ := Sy.get (L := L) (W := W) y q
        exact ⟨v', e1', w⟩
      · obtain ⟨v', e1', e2⟩ := Sy.ob (L := L) (W := W) y q
        exact ⟨_, e1', w⟩
      · exact w.elim
    refine ⟨va, ha, ?_⟩
    refine hi.run w y fun bi e1 vi Hz1 H1 h1 s1 y1 l1 => ?_
    split at h1
    · rename_i n
      split at h1
      · rename_i t ds q
        obtain ⟨m, c, h1⟩ := ob1_ex h1
        cases l1
        obtain ⟨a', q1, q2, q3⟩ := Sy.ob (L := L) (W := W) y1 q
        rw [ha] at q1
        cases q1
        obtain ⟨xs, q4, q5⟩ := q2
        refine ⟨a', xs, n, m, rfl, rfl, q4, by rw [dps_len q5]; exact c, ?_⟩
        refine k _ _ _ _ h1 s1 (Sy.wr (L := L) (W := W) y1 q ha ⟨_, upd_same, ?_⟩) (fun _ _ => rfl)
        exact dps_set m q5 (dp_mono s1 _ _ l)
      · exact h1.elim
    · exact h1.elim
  | ob o => exact w.elim
  | own j => exact w.elim
  | gob n a => exact w.elim⟩
end
structure Po where
  nx : En → Prop
  rt : Vl → En → Prop
  bk : En → Prop := fun _ => False
  ct : En → Prop := fun _ => False
abbrev WS := Po → En → Prop
structure Out (f : Fr) (P : Po) (D : Ends) (Z : Hp) : Prop where
  nx : ∀ {e σ Hz H}, P.nx e → Same Z Hz → Sy f [] [] e σ Hz H → D.nx σ H
  rt : ∀ {b e σ v Hz H}, P.rt b e → Same Z Hz → Sy f (tmp b []) (tmv b v []) e σ Hz H → Val f b v σ Hz → D.rt v H
  bk : ∀ {e σ Hz H}, P.bk e → Same Z Hz → Sy f [] [] e σ Hz H → D.bk σ H
  ct : ∀ {e σ Hz H}, P.ct e → Same Z Hz → Sy f [] [] e σ Hz H → D.ct σ H
theorem Out.mono {f : Fr} {P : Po} {D : Ends} {Z Z' : Hp} (o : Out f P D Z) (s : Same Z Z') : Out f P D Z' :=
  ⟨fun a b c => o.nx a (same_trans s b) c, fun a b c d => o.rt a (same_trans s b) c d, fun a b c => o.bk a (same_trans s b) c, fun a b c => o.ct a (same_trans s b) c⟩
structure SS (f : Fr) (t : TS) (S : WS) : Prop where
  run : ∀ {D P e σ Hz H}, S P e → Sy f [] [] e σ Hz H → Out f P D Hz → t D σ H
section
variable {f : Fr} {t u : TS} {S U : WS} {te ta tb tc : TE} {E Ea Eb Ec : WE} {tt : TT} {T : WT}
def wSeq (S U : WS) (P : Po) (e : En) : Prop := S { P with nx := U P } e
theorem ss_seq (h1 : SS f t S) (h2 : SS f u U) : SS f (tSeq t u) (wSeq S U) := ⟨fun {D P e σ Hz H} w y o => h1.run w y ⟨fun p s1 y1 => h2.run p y1 (o.mono s1), o.rt, o.bk, o.ct⟩⟩
def wNext (P : Po) (e : En) : Prop := P.nx e
theorem ss_next : SS f tNext wNext := ⟨fun w y o => o.nx w same_refl y⟩
def wNever (P : Po) (e : En) : Prop := False
theorem ss_never : SS f tNever wNever := ⟨fun w _ _ => w.elim⟩
def wBreak (P : Po) (e : En) : Prop := P.bk e
def wCont (P : Po) (e : En) : Prop := P.ct e
def wRetN (P : Po) (e : En) : Prop := P.rt (.dat .none) e
def rtS (P : Po) (i : Nat) (e1 : En) : Option (Option B) → Prop
  | some (some (.dat d)) => P.rt (.dat d) e1
  | some (some (.ob none o)) => P.rt (.ob o) (e1.set i none)
  | _ => False
def rtK (P : Po) (b : Vl) (e1 : En) : Prop := match b with
  | .own i => rtS P i e1 e1[i]?
  | .dat d => P.rt (.dat d) e1
  | .ob o => P.rt (.ob o) e1
  | .gob _ a => P.rt (.dat (ptr a)) e1
section
variable {P : Po} {e1 : En}
theorem rtK_dat {d : PyData} : rtK P (.dat d) e1 = P.rt (.dat d) e1 := rfl
theorem rtK_ob {o : Ob} : rtK P (.ob o) e1 = P.rt (.ob o) e1 := rfl
theorem rtK_gob {n : Nat} {a : Addr} : rtK P (.gob n a) e1 = P.rt (.dat (ptr a)) e1 := rfl
theorem rtK_own {i : Nat} : rtK P (.own i) e1 = rtS P i e1 e1[i]? := rfl
theorem rtS_dat {i : Nat} {d : PyData} : rtS P i e1 (some (some (.dat d))) = P.rt (.dat d) e1 := rfl
theorem rtS_ob {i : Nat} {o : Ob} : rtS P i e1 (some (some (.ob none o))) = P.rt (.ob o) (e1.set i none) := rfl
end
def wRet (E : WE) (P : Po) (e : En) : Prop := E e (rtK P)
theorem ss_ret (h : SE f te E) : SS f (tRet te) (wRet E) := ⟨fun {D P e σ Hz H} w y o => h.run w y fun b e1 v Hz1 H1 h1 s1 y1 l1 => by
  cases b with
  | dat d => exact o.rt h1 s1 y1 l1
  | ob d => exact o.rt h1 s1 y1 l1
  | gob n a =>
    have l' : v = .ref a := l1
    subst l'
    exact o.rt (b := .dat (ptr a)) h1 s1 y1 (Dp.ptr a)
  | own i =>
    rw [rtK_own] at h1
    generalize q : e1[i]? = x at h1
    unfold rtS at h1
    split at h1
    · rename_i d
      obtain ⟨v', e1', e2⟩ := Sy.get (L := []) (W := []) y1 q
      have hv' : σ[i]? = some (some v) := l1
      rw [hv'] at e1'
      cases e1'
      exact o.rt (b := .dat d) h1 s1 y1 e2
    · rename_i ob
      exact o.rt (b := .ob ob) h1 s1 (Sy.mv (L := []) (W := []) y1 q l1) trivial
    · exact h1.elim⟩
def wIfS (T : WT) (S U : WS) (P : Po) (e : En) : Prop := T e fun c e1 => if c = true then S P e1 else U P e1
theorem ss_if (ht : ST f tt T) (h1 : SS f t S) (h2 : SS f u U) : SS f (tIfS tt t u) (wIfS T S U) := ⟨fun {D P e σ Hz H} w y o => ht.run w y fun b e1 Hz1 H1 w1 s1 y1 => by
  by_cases c : b = true
  · rw [if_pos c] at w1 ⊢
    exact h1.run w1 y1 (o.mono s1)
  · rw [if_neg c] at w1 ⊢
    exact h2.run w1 y1 (o.mono s1)⟩
def wDrop (E : WE) (P : Po) (e : En) : Prop := E e fun _ e1 => P.nx e1
theorem ss_drop (h : SE f te E) : SS f (tDrop te) (wDrop E) := ⟨fun {D P e σ Hz H} w y o => h.run w y fun b e1 v Hz1 H1 h1 s1 y1 l1 => o.nx h1 s1 y1.un⟩
def wAsg (E : WE) (G : WG) (P : Po) (e : En) : Prop := E e fun b e1 => G b e1 P.nx
theorem ss_asg {g : TG} {G : WG} {sl : List Nat} (h : SE f te E) (hg : SG f g G sl) : SS f (tAsg te g) (wAsg E G) := ⟨fun {D P e σ Hz H} w y o => h.run w y fun b e1 v Hz1 H1 h1 s1 y1 l1 =>
  hg.run h1 y1 l1 fun e2 σ2 Hz2 H2 h2 s2 y2 _ => o.nx h2 (same_trans s1 s2) y2⟩
def notOwn : Vl → Bool
  | .own _ => false
  | .gob _ _ => false
  | _ => true
def wPar (i j : Nat) (Ea Eb : WE) (P : Po) (e : En) : Prop := Ea e fun b1 e1 => Eb e1 fun b2 e2 => notOwn b1 = true ∧ wName j b2 e2 fun e3 => wName i b1 e3 P.nx
theorem val_not {f' : Fr} {b : Vl} {v : V} {σ σ' : St} {Hz : Hp} (hK : f'.K = f.K) (h : Val f b v σ Hz) (n : notOwn b = true) : Val f' b v σ' Hz := by
  cases b with
  | dat d => show Dp f'.K Hz v d; rw [hK]; exact h
  | own i => cases n
  | gob _ _ => cases n
  | ob o => trivial
theorem ss_par {i j : Nat} (hij : i ≠ j) (ha : SE f ta Ea) (hb : SE f tb Eb) (hi : Nat.blt i f.n = true := by rfl) (hj : Nat.blt j f.n = true := by rfl) : SS f (tPar i j (tCons ta (tCons tb tNil))) (wPar i j Ea Eb) := ⟨fun {D P e σ Hz H} w y o =>
  ha.run w y fun b1 e1 v1 Hz1 H1 h1 s1 y1 l1 => hb.run h1 y1 fun b2 e2 v2 Hz2 H2 h2 s2 y2 l2 => by
    obtain ⟨n1, h2⟩ := h2
    refine ⟨v1, v2, rfl, ?_⟩
    rw [List.set_comm _ _ hij]
    exact (sg_name (f := f) (i := j) hj).run (Q := fun σ' H' => D.nx (σ'.set i (some v1)) H') h2 y2 l2 fun e3 σ3 Hz3 H3 h3 s3 y3 _ =>
      (sg_name (f := f) (i := i) hi).run (Q := fun σ' H' => D.nx σ' H') h3 y3 (val_not rfl (l1.mono (same_trans s2 s3)) n1) fun e4 σ4 Hz4 H4 h4 s4 y4 _ => o.nx h4 (same_trans s1 (same_trans s2 (same_trans s3 s4))) y4⟩
def wPar3 (i j l : Nat) (Ea Eb Ec : WE) (P : Po) (e : En) : Prop := Ea e fun b1 e1 => Eb e1 fun b2 e2 => Ec e2 fun b3 e3 => notOwn b1 = true ∧ notOwn b2 = true ∧ wName l b3 e3 fun e4 => wName j b2 e4 fun e5 => wName i b1 e5 P.nx
theorem ss_parT {i j : Nat} (hij : i ≠ j) (ha : SE f ta Ea) (hb : SE f tb Eb) (hi : Nat.blt i f.n = true := by rfl) (hj : Nat.blt j f.n = true := by rfl) : SS f (tAsg (tTup (tCons ta (tCons tb tNil))) (gTup f.K 2 (gCons (gName i) (gCons (gName j) gNil)))) (wPar i j Ea Eb) := ⟨fun {D P e σ Hz H} w y o =>
  ha.run w y fun b1 e1 v1 Hz1 H1 h1 s1 y1 l1 => hb.run h1 y1 fun b2 e2 v2 Hz2 H2 h2 s2 y2 l2 => ⟨by show 2 ≤ sizeLine; decide, fun p hp => by
    obtain ⟨n1, h2⟩ := h2
    have s0 := same_new (y2.hz hp) (.tup [v1, v2])
    refine ⟨p, _, rfl, SqT.of upd_same, rfl, _, _, rfl, _, _, rfl, rfl, ?_⟩
    rw [List.set_comm _ _ hij]
    exact (sg_name (f := f) (i := j) hj).run (Q := fun σ' H' => D.nx (σ'.set i (some v1)) H') h2 (y2.newT hp) (l2.mono s0) fun e3 σ3 Hz3 H3 h3 s3 y3 _ =>
      (sg_name (f := f) (i := i) hi).run (Q := fun σ' H' => D.nx σ' H') h3 y3 (val_not rfl (l1.mono (same_trans s2 (same_trans s0 s3))) n1) fun e4 σ4 Hz4 H4 h4 s4 y4 _ => o.nx h4 (same_trans s1 (same_trans s2 (same_trans s0 (same_trans s3 s4)))) y4⟩⟩
def wAugI (i : Nat) (g : Int → Int → Int) (E : WE) (P : Po) (e : En) : Prop := match e[i]? with
  | some (some (.dat (.int n))) => E e fun b e1 => match b with
    | .dat (.int m) => P.nx (e1.set i (some (.dat (.int (g n m)))))
    | _ => False
  | _ => False
theorem ss_augI {i : Nat} {g : Int → Int → Int} (h : SE f te E) : SS f (tAug i te (ipI g)) (wAugI i g E) := ⟨fun {D P e σ Hz H} w y o => by
  unfold wAugI at w
  split at w
  · rename_i n q
    obtain ⟨v, e1, e2⟩ := y.get q
    cases e2
    refine ⟨_, e1, h.run w y fun b e2 v Hz1 H1 h1 s1 y1 l1 => ?_⟩
    split at h1
    · cases l1
      exact ⟨_, _, rfl, rfl, o.nx h1 s1 (Sy.setD (L := []) (W := []) y1 (Dp.int _) (by rw [← y.ln]; exact (List.getElem?_eq_some_iff.mp e1).1))⟩
    · exact h1.elim
  · exact w.elim⟩
def wWhile (T : WT) (S : WS) (P : Po) (e : En) : Prop := ∃ Inv : Nat → En → Prop, (∃ m, Inv m e) ∧ ∀ m e, Inv m e → T e fun b e1 =>
  if b = true then S { P with nx := fun e' => ∃ m', m' < m ∧ Inv m' e', ct := fun e' => ∃ m', m' < m ∧ Inv m' e', bk := P.nx } e1 else P.nx e1
theorem ss_while (ht : ST f tt T) (h : SS f t S) : SS f (tWhile tt t) (wWhile T S) := ⟨fun {D P e σ Hz H} w y o => by
  obtain ⟨Inv, ⟨m0, i0⟩, turn⟩ := w
  refine ⟨fun m σ H => ∃ e Hz', Inv m e ∧ Same Hz Hz' ∧ Sy f [] [] e σ Hz' H, ⟨m0, e, Hz, i0, same_refl, y⟩, ?_⟩
  rintro m σ H ⟨e, Hz', im, s0, y⟩
  refine ht.run (turn m e im) y fun b e1 Hz1 H1 w1 s1 y1 => ?_
  by_cases c : b = true
  · rw [if_pos c] at w1 ⊢
    have o1 := o.mono (same_trans s0 s1)
    refine ⟨fun σ' H' => ∃ m' e' Hz2, m' < m ∧ Inv m' e' ∧ Same Hz Hz2 ∧ Sy f [] [] e' σ' Hz2 H', fun σ' H' ⟨m', e', Hz', h1, h2, h3, h4⟩ => ⟨m', h1, e', Hz', h2, h3, h4⟩, ?_⟩
    exact h.run w1 y1 ⟨fun ⟨m', h1, h2⟩ s2 y2 => ⟨m', _, _, h1, h2, same_trans s0 (same_trans s1 s2), y2⟩, o1.rt, o1.nx, fun ⟨m', h1, h2⟩ s2 y2 => ⟨m', _, _, h1, h2, same_trans s0 (same_trans s1 s2), y2⟩⟩
  · rw [if_neg c] at w1 ⊢
    exact o.nx w1 (same_trans s0 s1) y1⟩
end
structure Walk (K : PySem.W.Frag) (J : It) (Hz : Hp) (its : List PyData) : Prop where
  stop : ∀ H, Same Hz H → J.stop its.length H
  go : ∀ i H, i < its.length → Same Hz H → J.go i H
  yld : ∀ i H x H' d, Same Hz H → J.yld i H x H' → its[i]? = some d → (H' = H ∧ Dp K Hz x d) ∨ ∃ T xs ds, x = .ref T ∧ H T = none ∧ H' = upd H T (.tup xs) ∧ d = .tuple ds ∧ DpAll K Hz xs ds
abbrev WI := En → (List PyData → En → Prop) → Prop
structure SI (f : Fr) (wi : TI) (G : WI) : Prop where
  run : ∀ {L W e σ Hz H Post R}, G e Post → Sy f L W e σ Hz H → (∀ J its e' Hz' H', Post its e' → Same Hz Hz' → Sy f L W e' σ Hz' H' → Walk f.K J Hz' its → R J H') → wi σ H R
section
variable {f : Fr} {K : PySem.W.Frag} {Hz : Hp}
theorem walk_tup {a : Addr} {xs : List V} {ds : List PyData} (h : SqT K Hz a xs) (hd : DpAll K Hz xs ds) : Walk K (Itt K a) Hz ds where
  stop := fun H s => ⟨xs, sqT s h, by rw [dps_len hd]; exact Nat.le_refl _⟩
  go := fun i H hi s => by
    have : i < xs.length := by rw [dps_len hd]; exact hi
    exact ⟨xs, xs[i], sqT s h, List.getElem?_eq_getElem this⟩
  yld := fun i H x H' d s y e => by
    obtain ⟨rfl, hy⟩ := y
    obtain ⟨x', e1, e2⟩ := dps_get hd i d e
    have := hy xs (sqT s h)
    rw [e1] at this
    cases this
    exact .inl ⟨rfl, e2⟩
def rangeD (lo : Int) (n : Nat) : List PyData := (List.range n).map fun i : Nat => PyData.int (lo + i)
theorem walk_rng {lo : Int} {n : Nat} : Walk K (Itr lo n) Hz (rangeD lo n) where
  stop := fun H s => by show n ≤ (rangeD lo n).length; simp [rangeD]
  go := fun i H hi s => by show i < n; simpa [rangeD] using hi
  yld := fun i H x H' d s y e => by
    obtain ⟨rfl, rfl⟩ := y
    have hi : i < n := by have := (List.getElem?_eq_some_iff.mp e).1; simpa [rangeD] using this
    unfold rangeD at e
    rw [List.getElem?_map, List.getElem?_range hi] at e
    cases e
    exact .inl ⟨rfl, .int _⟩
def enumD (ds : List PyData) : List PyData := (List.range ds.length).map fun i : Nat => PyData.tuple [.int i, (ds[i]?).getD .none]
theorem enumD_len (ds : List PyData) : (enumD ds).length = ds.length := by simp [enumD]
theorem enumD_get {ds : List PyData} {i : Nat} {d : PyData} (h : (enumD ds)[i]? = some d) : ∃ x, ds[i]? = some x ∧ d = .tuple [.int i, x] := by
  have hi : i < ds.length := by have := (List.getElem?_eq_some_iff.mp h).1; rwa [enumD_len] at this
  unfold enumD at h
  rw [List.getElem?_map, List.getElem?_range hi] at h
  cases h
  exact ⟨ds[i], List.getElem?_eq_getElem hi, by dsimp only; rw [List.getElem?_eq_getElem hi]; rfl⟩
def zipD (ds es : List PyData) : List PyData := List.zipWith (fun a b => PyData.tuple [a, b]) ds es
end
section
variable {f : Fr} {te tu : TE} {E U : WE}
def wIList (E : WE) (e : En) (P : List PyData → En → Prop) : Prop := wFz E e fun d e1 => match d with
  | .list ds => P ds e1
  | _ => False
def wITup (E : WE) (e : En) (P : List PyData → En → Prop) : Prop := wFz E e fun d e1 => match d with
  | .tuple ds => P ds e1
  | _ => False
theorem si_tup (h : SE f te E) : SI f (iTup f.K te) (wITup E) := ⟨fun {L W e σ Hz H Post R} w y k => fz_run h w y fun d e1 v Hz1 H1 h1 s1 y1 d1 => by
  split at h1
  · obtain ⟨a, xs, rfl, q1, q2⟩ := dp_tup d1
    exact ⟨_, rfl, ⟨_, sqT y1.sm q1⟩, k _ _ _ _ _ h1 s1 y1 (walk_tup q1 q2)⟩
  · exact h1.elim⟩
def wIRng1 (E : WE) (e : En) (P : List PyData → En → Prop) : Prop := wFz E e fun d e1 => match d with
  | .int n => (-(2 ^ 62) ≤ n ∧ n < 2 ^ 62) ∧ P (rangeD 0 n.toNat) e1
  | _ => False
theorem si_rng1 (h : SE f te E) : SI f (iRng1 (tCons te tNil)) (wIRng1 E) := ⟨fun {L W e σ Hz H Post R} w y k => fz_run h w y fun d e1 v Hz1 H1 h1 s1 y1 d1 => by
  split at h1
  · cases d1
    exact ⟨_, rfl, h1.1.1, h1.1.2, k _ _ _ _ _ h1.2 s1 y1 walk_rng⟩
  · exact h1.elim⟩
def wIRng2 (E U : WE) (e : En) (P : List PyData → En → Prop) : Prop := wFz E e fun d e1 => wFz U e1 fun d' e2 => match d, d' with
  | .int n, .int m => (-(2 ^ 62) ≤ n ∧ n < 2 ^ 62 ∧ -(2 ^ 62) ≤ m ∧ m < 2 ^ 62) ∧ P (rangeD n (m - n).toNat) e2
  | _, _ => False
def wIEnumT (E : WE) (e : En) (P : List PyData → En → Prop) : Prop := wFz E e fun d e1 => match d with
  | .tuple ds => P (enumD ds) e1
  | _ => False
def wIEnum (E : WE) (e : En) (P : List PyData → En → Prop) : Prop := wFz E e fun d e1 => match d with
  | .list ds => P (enumD ds) e1
  | _ => False
def wIZip (E U : WE) (e : En) (P : List PyData → En → Prop) : Prop := wFz E e fun d e1 => wFz U e1 fun d' e2 => match d, d' with
  | .tuple ds, .tuple es => P (zipD ds es) e2
  | .list ds, .list es => P (zipD ds es) e2
  | _, _ => False
end
section
variable {f : Fr} {t : TS} {S : WS} {wi : TI} {G : WI} {g : TG} {Gt : WG} {sl : List Nat}
theorem step_item {L W e σ Hz Hz0 H H' x d J its i Post Q} (hw : Walk f.K J Hz0 its) (hs : Same Hz0 Hz) (y : Sy f L W e σ Hz H) (hy : J.yld i H x H') (hd : its[i]? = some d) (hg : SG f g Gt sl) (w : Gt (.dat d) e Post)
    (k : ∀ e' σ' Hz' H', Post e' → Same Hz Hz' → Sy f L W e' σ' Hz' H' → (∀ vs, (∀ i ∈ sl, i ∈ vs) → wipe σ' vs = wipe σ vs) → Q σ' H') : g x σ H' Q := by
  rcases hw.yld i H x H' d (same_trans hs y.sm) hy hd with ⟨rfl, h1⟩ | ⟨T, xs, ds, rfl, h1, rfl, rfl, h2⟩
  · exact SG.run (L := L) (W := W) hg w y (dp_mono hs _ _ h1) k
  · have s1 := same_new (y.hz h1) (.tup xs)
    exact SG.run (L := L) (W := W) hg w (y.newT h1) (Dp.tup (SqT.of upd_same) (dps_mono (same_trans hs s1) _ _ h2)) fun e' σ' Hz' H' a b c d => k e' σ' Hz' H' a (same_trans s1 b) c d
def ForB (Gt : WG) (S : WS) (P : Po) (its : List PyData) (e1 : En) : Prop := ∃ Inv : Nat → En → Prop, Inv 0 e1 ∧
  (∀ i d e2, its[i]? = some d → Inv i e2 → Gt (.dat d) e2 fun e3 => S { P with nx := Inv (i + 1), ct := Inv (i + 1), bk := P.nx } e3) ∧ ∀ e2, Inv its.length e2 → P.nx e2
def wFor (G : WI) (Gt : WG) (S : WS) (P : Po) (e : En) : Prop := G e (ForB Gt S P)
theorem for_use {G : WI} {Gt : WG} {S : WS} {P : Po} {e : En} (h : G e (ForB Gt S P)) : wFor G Gt S P e := h
theorem ss_for (hi : SI f wi G) (hg : SG f g Gt sl) (h : SS f t S) : SS f (tFor wi g t) (wFor G Gt S) := ⟨fun {D P e σ Hz H} w y o => hi.run w y fun J its e1 Hz1 H1 w1 s1 y1 hw => by
  obtain ⟨Inv, i0, step, fin⟩ := w1
  refine ⟨fun i m σ H => m = its.length - i ∧ i ≤ its.length ∧ ∃ e Hz, Inv i e ∧ Same Hz1 Hz ∧ Sy f [] [] e σ Hz H, ⟨its.length, rfl, Nat.zero_le _, e1, Hz1, i0, same_refl, y1⟩, ?_⟩
  rintro i m σ H ⟨rfl, hi', e2, Hz2, i2, s2, y2⟩
  by_cases hlt : i < its.length
  · refine .inr ⟨hw.go i H hlt (same_trans s2 y2.sm), fun σ' H' => ∃ e Hz, Inv (i + 1) e ∧ Same Hz2 Hz ∧ Sy f [] [] e σ' Hz H', fun σ' H' ⟨e, Hz, a, b, c⟩ => ⟨its.length - (i + 1), by omega, rfl, hlt, e, Hz, a, same_trans s2 b, c⟩, fun x H' hy => ?_⟩
    refine step_item hw s2 y2 hy (List.getElem?_eq_getElem hlt) hg (step i _ e2 (List.getElem?_eq_getElem hlt) i2) fun e3 σ3 Hz3 H3 w3 s3 y3 _ => ?_
    have o1 := o.mono (same_trans s1 (same_trans s2 s3))
    exact h.run w3 y3 ⟨fun a b c => ⟨_, _, a, same_trans s3 b, c⟩, o1.rt, o1.nx, fun a b c => ⟨_, _, a, same_trans s3 b, c⟩⟩
  · have : i = its.length := by omega
    subst this
    exact .inl ⟨hw.stop H (same_trans s2 y2.sm), o.nx (fin e2 i2) (same_trans s1 s2) y2⟩⟩
end
section
variable {f : Fr} {te : TE} {E : WE} {tt : TT} {T : WT} {wi : TI} {G : WI} {g : TG} {Gt : WG} {sl : List Nat}
def LcB (Gt : WG) (T : WT) (E : WE) (vs : List Nat) (P : Vl → En → Prop) (its : List PyData) (e1 : En) : Prop := ∃ Inv : Nat → List PyData → En → Prop, Inv 0 [] (wipeE e1 vs) ∧
  (∀ i d acc e2, its[i]? = some d → Inv i acc e2 → acc.length ≤ 100000 ∧ Gt (.dat d) e2 fun e3 => T e3 fun b e4 => if b = true then wFz E e4 fun y e5 => Inv (i + 1) (acc ++ [y]) (wipeE e5 vs) else Inv (i + 1) acc (wipeE e4 vs)) ∧
  ∀ acc e2, Inv its.length acc e2 → e2.length = e1.length ∧ P (.ob (.lst acc)) (back e1 vs (wipeE e2 vs))
def wLc (G : WI) (Gt : WG) (T : WT) (E : WE) (vs : List Nat) (e : En) (P : Vl → En → Prop) : Prop := G e (LcB Gt T E vs P)
theorem lc_use {G : WI} {Gt : WG} {T : WT} {E : WE} {vs : List Nat} {e : En} {P : Vl → En → Prop} (h : G e (LcB Gt T E vs P)) : wLc G Gt T E vs e P := h
theorem line_lt {n : Nat} (h : n ≤ 100000) : n < sizeLine := Nat.lt_of_le_of_lt h (by decide)
theorem se_lc {vs : List Nat} (hi : SI f wi G) (hg : SG f g Gt sl) (ht : ST f tt T) (he : SE f te E) (hv : ∀ i ∈ sl, i ∈ vs) (hn : vs.all (fun v => Nat.blt v f.n) = true := by rfl) : SE f (tLc wi g tt te vs) (wLc G Gt T E vs) := ⟨fun {L W e σ Hz H Post Q} w y k => hi.run w y fun J its e1 Hz1 H1 w1 s1 y1 hw D hD => by
  have hb : ∀ v ∈ vs, v < f.n := fun v h => Nat.le_of_ble_eq_true (List.all_eq_true.mp hn v h)
  obtain ⟨Inv, i0, step, fin⟩ := w1
  have ys : Sy f (some (.ob none (.lst [])) :: L) (some (.ref D) :: W) (wipeE e1 vs) (wipe σ vs) Hz1 (upd H1 D (.lst [])) := (y1.newO (o := .lst []) hD ⟨[], upd_same, .nil⟩).wiped vs hb
  refine ⟨fun i m H => m = its.length - i ∧ i ≤ its.length ∧ ∃ acc e Hz, Inv i acc e ∧ Same Hz1 Hz ∧ Sy f (some (.ob none (.lst acc)) :: L) (some (.ref D) :: W) e (wipe σ vs) Hz H,
    ⟨its.length, rfl, Nat.zero_le _, [], _, Hz1, i0, same_refl, ys⟩, ?_⟩
  rintro i m H ⟨rfl, hi', acc, e2, Hz2, i2, s2, y2⟩
  by_cases hlt : i < its.length
  · refine .inr ⟨hw.go i H hlt (same_trans s2 y2.sm), fun H' => ∃ acc e Hz, Inv (i + 1) acc e ∧ Same Hz1 Hz ∧ Sy f (some (.ob none (.lst acc)) :: L) (some (.ref D) :: W) e (wipe σ vs) Hz H',
      fun H' ⟨acc, e, Hz, a, b, c⟩ => ⟨its.length - (i + 1), by omega, rfl, hlt, acc, e, Hz, a, b, c⟩, fun x H' hy => ?_⟩
    obtain ⟨hl, st⟩ := step i _ acc e2 (List.getElem?_eq_getElem hlt) i2
    refine step_item hw s2 y2 hy (List.getElem?_eq_getElem hlt) hg st fun e3 σ3 Hz3 H3 w3 s3 y3 c3 => ?_
    have cw : wipe σ3 vs = wipe σ vs := by rw [c3 vs hv, wipe_wipe]
    refine ⟨cw, ht.run w3 y3 fun b e4 Hz4 H4 w4 s4 y4 => ?_⟩
    by_cases c : b = true
    · rw [if_pos c] at w4 ⊢
      refine fz_run he w4 y4 fun d e5 v Hz5 H5 w5 s5 y5 d5 => ?_
      obtain ⟨a, ea, ⟨xs, hx, hd⟩, _⟩ := y5.top
      cases ea
      refine ⟨xs, hx, line_lt (by rw [dps_len hd]; exact hl), acc ++ [d], wipeE e5 vs, Hz5, w5, same_trans s2 (same_trans s3 (same_trans s4 s5)), ?_⟩
      have y6 := (y5.wrT (u := .lst (xs ++ [v])) (o' := .lst (acc ++ [d])) ⟨_, upd_same, dps_snoc hd d5⟩).wiped vs hb
      rw [cw] at y6
      exact y6
    · rw [if_neg c] at w4 ⊢
      have y6 := y4.wiped vs hb
      rw [cw] at y6
      exact ⟨acc, wipeE e4 vs, Hz4, w4, same_trans s2 (same_trans s3 s4), y6⟩
  · have : i = its.length := by omega
    subst this
    obtain ⟨hl, hf⟩ := fin acc e2 i2
    refine .inl ⟨hw.stop H (same_trans s2 y2.sm), k _ _ _ _ _ hf (same_trans s1 s2) (Sy.back y1 s2 (y2.unwipe hb) (by rw [wipeE_len, hl]) vs) trivial⟩⟩
end
end DL


set_option Elab.async false
set_option linter.all false
set_option maxRecDepth 100000
set_option maxHeartbeats 4000000
namespace DL
open PySem L2 TG
def rCatQ (K : PySem.W.Frag) : R2 := fun x y H Q => ∃ l b xs zs, x = .ref l ∧ y = .ref b ∧ SqL K H l xs ∧ SqL K H b zs ∧ xs.length + zs.length ≤ sizeLine ∧ ∀ p, H p = none → Q (.ref p) (upd H p (.lst (xs ++ zs)))
theorem op_catQ {X : Cx} {K : PySem.W.Frag} (hK : X.K = K) : OpR X (binaryOp .Add) (rCatQ K) := by
  subst hK
  intro pins s σ H x y v u Q I rx ry h
  obtain ⟨l, b, xs, zs, rfl, rfl, hH, hB, hz, q⟩ := h
  cases rx
  cases ry
  obtain ⟨vs, r, ⟨⟨cls, dd, data, sl⟩, n, ho, hc, _, hd⟩, _⟩ := I.list hH
  obtain ⟨ws, r2, ⟨⟨cls2, dd2, data2, sl2⟩, n2, ho2, hc2, _, hd2⟩, _⟩ := I.list hB
  simp only at hc hd hc2 hd2
  subst hc hd hc2 hd2
  have e : vs.toArray ++ ws.toArray = (vs ++ ws).toArray := by simp
  have h1 := r.length
  have h2 := r2.length
  refine PySem.concat_meets ⟨_, ho, rfl⟩ ⟨_, ho2, rfl⟩ PySem.noFill_list_add PySem.seq_list_add PySem.F.slot_list_add PySem.F.entry_list_add (PySem.F.args_list_add_2 _ _) (PyProof.Rows.list_addW l b vs.toArray ws.toArray n n2 dd dd2 sl sl2 (by simp only [List.size_toArray]; omega)) ⟨ho, ho2, ?_⟩
  rw [e]
  exact ⟨.ref _, _, I.lnew (t' := s.toks) (r.append r2) (by rw [List.length_append]; exact hz), rfl, q _ I.fresh⟩
section
variable {f : Fr} {te tu : TE} {E U : WE}
theorem sr_cat : SR f (rCatQ f.K) gCat := ⟨fun {L W e σ Hz H x y d1 d2 Post Q} r1 r2 s h k => by
  unfold gCat at h
  split at h
  · obtain ⟨a, xs, rfl, q1, q2⟩ := r1
    obtain ⟨b, ys, rfl, q3, q4⟩ := r2
    exact ⟨a, b, xs, ys, rfl, rfl, q1, q3, by rw [dps_len q2, dps_len q4]; exact h.1, fun p hp => k _ _ _ _ h.2 same_refl (s.newO (o := .lst _) hp ⟨_, upd_same, dps_app q2 q4⟩) trivial⟩
  · exact h.elim⟩
def wApp (i : Nat) (E : WE) (e : En) (P : Vl → En → Prop) : Prop := match e[i]? with
  | some (some (.ob _ (.lst _))) => wFz E e fun d e1 => match e1[i]? with
    | some (some (.ob t (.lst ds))) => ds.length ≤ 100000 ∧ P (.dat .none) (e1.set i (some (.ob t (.lst (ds ++ [d])))))
    | _ => False
  | _ => False
theorem se_app {i : Nat} (h : SE f te E) : SE f (tBM f.K "list" rAppend (tVar i) (tCons te tNil)) (wApp i E) := ⟨fun {L W e σ Hz H Post Q} w y k => by
  unfold wApp at w
  split at w
  · rename_i t ds q
    obtain ⟨a, h1, ⟨xs, h2, h3⟩, h4⟩ := y.ob q
    refine ⟨_, h1, .inl ⟨rfl, xs, SqL.of h2⟩, ?_⟩
    refine fz_run h w y fun d e1 v Hz1 H1 w1 s1 y1 d1 => ?_
    split at w1
    · rename_i t2 ds2 q2
      obtain ⟨a2, g1, ⟨xs2, g2, g3⟩, g4⟩ := y1.ob q2
      rw [h1] at g1
      cases g1
      exact ⟨a, xs2, v, rfl, rfl, g2, line_lt (by rw [dps_len g3]; exact w1.1), k _ _ _ _ _ w1.2 s1 (y1.wr q2 h1 ⟨_, upd_same, dps_snoc g3 d1⟩) Dp.non⟩
    · exact w1.elim
  · exact w.elim⟩
def trk : Vl → En → Option (List PyData)
  | .ob (.lst ds), _ => some ds
  | .own i, e => match e[i]? with
    | some (some (.ob _ (.lst ds))) => some ds
    | _ => none
  | _, _ => none
theorem Sy.trk {L e : En} {W σ : St} {Hz H : Hp} {b : Vl} {v : V} {ds : List PyData} (y : Sy f (tmp b L) (tmv b v W) e σ Hz H) (hv : Val f b v σ Hz) (h : trk b e = some ds) : ∃ a xs, v = .ref a ∧ H a = some (.lst xs) ∧ DpAll f.K Hz xs ds := by
  cases b with
  | dat d' => cases h
  | ob o =>
    cases o with
    | lst ds =>
      cases h
      obtain ⟨a, ea, ⟨xs, h1, h2⟩, _⟩ := Sy.top y
      cases ea
      exact ⟨a, xs, rfl, h1, h2⟩
    | _ => cases h
  | own i =>
    simp only [DL.trk] at h
    split at h
    · rename_i t ds q
      cases h
      obtain ⟨a, e1, ⟨xs, h1, h2⟩, _⟩ := y.ob q
      have hv' : σ[i]? = some (some v) := hv
      rw [hv'] at e1
      cases e1
      exact ⟨a, xs, rfl, h1, h2⟩
    · cases h
  | gob n a => cases h
def wExt (i : Nat) (E : WE) (e : En) (P : Vl → En → Prop) : Prop := match e[i]? with
  | some (some (.ob _ (.lst _))) => E e fun b e1 => ob1 (trk b e1) fun es => match e1[i]? with
    | some (some (.ob t (.lst ds))) => ds.length + es.length ≤ 100000 ∧ P (.dat .none) (e1.set i (some (.ob t (.lst (ds ++ es)))))
    | _ => False
  | _ => False
theorem se_ext {i : Nat} (h : SE f te E) : SE f (tBM f.K "list" rExtend (tVar i) (tCons te tNil)) (wExt i E) := ⟨fun {L W e σ Hz H Post Q} w y k => by
  unfold wExt at w
  split at w
  · rename_i t ds q
    obtain ⟨a, h1, ⟨xs, h2, h3⟩, h4⟩ := y.ob q
    refine ⟨_, h1, .inl ⟨rfl, xs, SqL.of h2⟩, ?_⟩
    refine h.run w y fun b e1 v Hz1 H1 w1 s1 y1 l1 => ?_
    obtain ⟨es, c, w1⟩ := ob1_ex w1
    obtain ⟨b', zs, rfl, c1, c2⟩ := y1.trk l1 c
    split at w1
    · rename_i t2 ds2 q2
      obtain ⟨a2, g1, ⟨xs2, g2, g3⟩, g4⟩ := y1.ob q2
      rw [h1] at g1
      cases g1
      exact ⟨a, b', xs2, zs, rfl, rfl, g2, c1, Evl.sz_of (by rw [dps_len g3, dps_len c2]; exact w1.1), k _ _ _ _ _ w1.2 s1 (y1.un.wr q2 h1 ⟨_, upd_same, dps_app g3 c2⟩) Dp.non⟩
    · exact w1.elim
  · exact w.elim⟩
def wPop (i : Nat) (e : En) (P : Vl → En → Prop) : Prop := match e[i]? with
  | some (some (.ob t (.lst ds))) => ob1 (ds[ds.length - 1]?) fun d => P (.dat d) (e.set i (some (.ob t (.lst ds.dropLast))))
  | _ => False
theorem dps_dropLast {K : PySem.W.Frag} {Hz : Hp} {xs : List V} {ds : List PyData} (h : DpAll K Hz xs ds) : DpAll K Hz xs.dropLast ds.dropLast := by
  rw [List.dropLast_eq_take, List.dropLast_eq_take, dps_len h]
  exact dps_take _ h
theorem se_pop {i : Nat} : SE f (tBM0 f.K "list" rPop (tVar i)) (wPop i) := ⟨fun {L W e σ Hz H Post Q} w y k => by
  unfold wPop at w
  split at w
  · rename_i t ds q
    obtain ⟨d, c, w⟩ := ob1_ex w
    obtain ⟨a, h1, ⟨xs, h2, h3⟩, h4⟩ := y.ob q
    obtain ⟨x, g1, g2⟩ := dps_get h3 _ _ c
    exact ⟨_, h1, .inl ⟨rfl, xs, SqL.of h2⟩, a, xs, x, rfl, rfl, h2, by rw [dps_len h3]; exact g1, k _ _ _ _ _ w same_refl (y.wr q h1 ⟨_, upd_same, dps_dropLast h3⟩) g2⟩
  · exact w.elim⟩
def wNoPart (e : En) (P : Option Int → En → Prop) : Prop := P none e
def wPart (E : WE) (e : En) (P : Option Int → En → Prop) : Prop := wFz E e fun d e1 => match d with
  | .int i => P (some i) e1
  | _ => False
theorem so_none : SO f tNoPart wNoPart := ⟨fun w y k => k _ _ _ _ w same_refl y⟩
theorem so_some (h : SE f te E) : SO f (tPart te) (wPart E) := ⟨fun {L W e σ Hz H Post Q} w y k => fz_run h w y fun d e1 v Hz1 H1 w1 s1 y1 d1 => by
  split at w1
  · cases d1
    exact ⟨_, rfl, k _ _ _ _ w1 s1 y1⟩
  · exact w1.elim⟩
def cutD (xs : List PyData) (lo hi : Option Int) : List PyData := (xs.drop (HT.sIx xs.length 0 lo)).take (HT.sIx xs.length xs.length hi - HT.sIx xs.length 0 lo)
def wSlT (E : WE) (A B : WO) (e : En) (P : Vl → En → Prop) : Prop := wFz E e fun d e1 => A e1 fun lo e2 => B e2 fun hi e3 => match d with
  | .tuple ds => P (.dat (.tuple (cutD ds lo hi))) e3
  | _ => False
def wSlL (E : WE) (A B : WO) (e : En) (P : Vl → En → Prop) : Prop := wFz E e fun d e1 => A e1 fun lo e2 => B e2 fun hi e3 => match d with
  | .list ds => P (.ob (.lst (cutD ds lo hi))) e3
  | _ => False
end
theorem eI0 {g : Int → Int → V} {i j : Int} {P : Vl → Prop} : gI0 g (.int i) (.int j) P = (P (.dat (vD (g i j)))) := rfl
theorem eI {C : Int → Int → Prop} {g : Int → Int → V} {i j : Int} {P : Vl → Prop} : gI C g (.int i) (.int j) P = (C i j ∧ P (.dat (vD (g i j)))) := rfl
theorem eInD {neg : Bool} {d1 : PyData} {ds : List PyData} {P : Vl → Prop} : gInD neg d1 (.list ds) P = (SeqAt.shaped d1 = true ∧ SeqAt.shaped (.list ds) = true ∧ P (.dat (.bool (if neg then !(ds.any fun z => PyData.eqv z d1) else ds.any fun z => PyData.eqv z d1)))) := rfl
theorem eInL {neg : Bool} {d1 : PyData} {ds : List PyData} {P : Vl → Prop} : gIn neg d1 (.list ds) P = (flatD d1 = true ∧ ds.all flatD = true ∧ P (.dat (.bool (if neg then !inV (dV d1) (ds.map dV) else inV (dV d1) (ds.map dV))))) := rfl
theorem eInT {neg : Bool} {d1 : PyData} {ds : List PyData} {P : Vl → Prop} : gIn neg d1 (.tuple ds) P = (flatD d1 = true ∧ ds.all flatD = true ∧ P (.dat (.bool (if neg then !inV (dV d1) (ds.map dV) else inV (dV d1) (ds.map dV))))) := rfl
theorem eIxL {ds : List PyData} {i : Int} {P : Vl → Prop} : gIxL (.list ds) (.int i) P = (ob1 (atI ds i) fun d => P (.dat d)) := rfl
theorem eIxT {ds : List PyData} {i : Int} {P : Vl → Prop} : gIxT (.tuple ds) (.int i) P = (ob1 (atI ds i) fun d => P (.dat d)) := rfl
theorem eIx1 {ds : List PyData} {i : Int} {P : Vl → Prop} : gIx (.list ds) (.int i) P = (ob1 (atI ds i) fun d => P (.dat d)) := rfl
theorem eIx2 {ds : List PyData} {i : Int} {P : Vl → Prop} : gIx (.tuple ds) (.int i) P = (ob1 (atI ds i) fun d => P (.dat d)) := rfl
theorem eIxS {z : Str} {i : Int} {P : Vl → Prop} : gIxS (.str z) (.int i) P = (z.length ≤ sizeLine ∧ ob1 (atI z.cps.toList i) fun c => P (.dat (.str ⟨#[c]⟩))) := rfl
theorem eIsN {neg : Bool} {d1 : PyData} {P : Vl → Prop} : gIsN neg d1 .none P = (P (.dat (.bool (if neg then !isNone d1 else isNone d1)))) := rfl
theorem eCat {ds es : List PyData} {P : Vl → Prop} : gCat (.list ds) (.list es) P = (ds.length + es.length ≤ sizeLine ∧ P (.ob (.lst (ds ++ es)))) := rfl
theorem eCatT {ds es : List PyData} {P : Vl → Prop} : gCatT (.tuple ds) (.tuple es) P = (ds.length + es.length ≤ sizeLine ∧ P (.dat (.tuple (ds ++ es)))) := rfl
theorem eLen_list {ds : List PyData} {P : Vl → Prop} : gLen (.list ds) P = (P (.dat (.int ds.length))) := rfl
theorem eTupOf_list {ds : List PyData} {P : Vl → Prop} : gTupOf (.list ds) P = (P (.dat (.tuple ds))) := rfl
theorem eListOf_list {ds : List PyData} {P : Vl → Prop} : gListOf (.list ds) P = (P (.ob (.lst ds))) := rfl
theorem eLen_tuple {ds : List PyData} {P : Vl → Prop} : gLen (.tuple ds) P = (P (.dat (.int ds.length))) := rfl
theorem eTupOf_tuple {ds : List PyData} {P : Vl → Prop} : gTupOf (.tuple ds) P = (P (.dat (.tuple ds))) := rfl
theorem eListOf_tuple {ds : List PyData} {P : Vl → Prop} : gListOf (.tuple ds) P = (P (.ob (.lst ds))) := rfl
theorem eSum {ds : List PyData} {P : Vl → Prop} : gSum (.list ds) P = (ob1 (intsD ds) fun ns => P (.dat (.int ns.sum))) := rfl
theorem eMax {ds : List PyData} {P : Vl → Prop} : gMax (.list ds) P = (ob1 (intsD ds) fun ns => 0 < ns.length ∧ ∀ m, m ∈ ns → (∀ y ∈ ns, y ≤ m) → P (.dat (.int m))) := rfl
theorem eMin {ds : List PyData} {P : Vl → Prop} : gMin (.list ds) P = (ob1 (intsD ds) fun ns => 0 < ns.length ∧ ∀ m, m ∈ ns → (∀ y ∈ ns, m ≤ y) → P (.dat (.int m))) := rfl
theorem eAll {ds : List PyData} {P : Vl → Prop} : gAll (.list ds) P = (ob1 (boolsD ds) fun ns => P (.dat (.bool (ns.all id)))) := rfl
theorem eAny {ds : List PyData} {P : Vl → Prop} : gAny (.list ds) P = (ob1 (boolsD ds) fun ns => P (.dat (.bool (ns.any id)))) := rfl
theorem eSorted {ds : List PyData} {P : Vl → Prop} : gSorted (.list ds) P = (ob1 (intsD ds) fun ns => ∀ ns' : List Int, ns'.Perm ns → ns'.Pairwise (· ≤ ·) → P (.ob (.lst (ns'.map PyData.int)))) := rfl
theorem eSortSet {ds : List PyData} {P : Vl → Prop} : gSortSet (.list ds) P = (ob1 (intsD ds) fun ns => ns.length < 64 ∧ ∀ ns' : List Int, ns'.Pairwise (· < ·) → (∀ k, k ∈ ns' ↔ k ∈ ns) → P (.ob (.lst (ns'.map PyData.int)))) := rfl
theorem eInt_int {i : Int} {P : Vl → Prop} : gInt (.int i) P = (P (.dat (.int i))) := rfl
theorem eInt_bool {b : Bool} {P : Vl → Prop} : gInt (.bool b) P = (P (.dat (.int (if b then 1 else 0)))) := rfl
theorem eAbs {i : Int} {P : Vl → Prop} : gAbs (.int i) P = (P (.dat (.int (if i < 0 then -i else i)))) := rfl
theorem ety_none  : tyD .none = ("NoneType") := rfl
theorem eno_none  : isNone .none = (true) := rfl
theorem efl_none  : flatD .none = (true) := rfl
theorem ety_bool {b : Bool} : tyD (.bool b) = ("bool") := rfl
theorem eno_bool {b : Bool} : isNone (.bool b) = (false) := rfl
theorem efl_bool {b : Bool} : flatD (.bool b) = (true) := rfl
theorem ety_int {i : Int} : tyD (.int i) = ("int") := rfl
theorem eno_int {i : Int} : isNone (.int i) = (false) := rfl
theorem efl_int {i : Int} : flatD (.int i) = (true) := rfl
theorem ety_str {x : Str} : tyD (.str x) = ("str") := rfl
theorem eno_str {x : Str} : isNone (.str x) = (false) := rfl
theorem efl_str {x : Str} : flatD (.str x) = (true) := rfl
theorem ety_list {ds : List PyData} : tyD (.list ds) = ("list") := rfl
theorem eno_list {ds : List PyData} : isNone (.list ds) = (false) := rfl
theorem efl_list {ds : List PyData} : flatD (.list ds) = (false) := rfl
theorem ety_tuple {ds : List PyData} : tyD (.tuple ds) = ("tuple") := rfl
theorem eno_tuple {ds : List PyData} : isNone (.tuple ds) = (false) := rfl
theorem efl_tuple {ds : List PyData} : flatD (.tuple ds) = (false) := rfl
theorem etr_none  : truD .none = (some false) := rfl
theorem etr_bool {b : Bool} : truD (.bool b) = (some b) := rfl
theorem etr_int {i : Int} : truD (.int i) = (some (i != 0)) := rfl
theorem etr_list {ds : List PyData} : truD (.list ds) = (some (!ds.isEmpty)) := rfl
theorem etr_tuple {ds : List PyData} : truD (.tuple ds) = (some (!ds.isEmpty)) := rfl
theorem evd_non  : vD .non = (.none) := rfl
theorem evd_bl {b : Bool} : vD (.bl b) = (.bool b) := rfl
theorem evd_int {i : Int} : vD (.int i) = (.int i) := rfl
theorem evd_str {x : Str} : vD (.str x) = (.str x) := rfl
theorem etk_ob {ds : List PyData} {e : En} : trk (.ob (.lst ds)) e = (some ds) := rfl
theorem cast_0 : ((0 : Nat) : Int) = 0 := rfl
theorem cast_1 : ((1 : Nat) : Int) = 1 := rfl
theorem cast_2 : ((2 : Nat) : Int) = 2 := rfl
theorem cast_3 : ((3 : Nat) : Int) = 3 := rfl
theorem cast_4 : ((4 : Nat) : Int) = 4 := rfl
theorem cast_5 : ((5 : Nat) : Int) = 5 := rfl
theorem cast_6 : ((6 : Nat) : Int) = 6 := rfl
theorem cast_7 : ((7 : Nat) : Int) = 7 := rfl
theorem cast_8 : ((8 : Nat) : Int) = 8 := rfl
theorem ix_1_0 : ixN 1 0 = some 0 := rfl
theorem ix_2_0 : ixN 2 0 = some 0 := rfl
theorem ix_2_1 : ixN 2 1 = some 1 := rfl
theorem ix_3_0 : ixN 3 0 = some 0 := rfl
theorem ix_3_1 : ixN 3 1 = some 1 := rfl
theorem ix_3_2 : ixN 3 2 = some 2 := rfl
theorem ix_4_0 : ixN 4 0 = some 0 := rfl
theorem ix_4_1 : ixN 4 1 = some 1 := rfl
theorem ix_4_2 : ixN 4 2 = some 2 := rfl
theorem ix_4_3 : ixN 4 3 = some 3 := rfl
theorem at_0 {α : Type} {x : α} {r : List α} : atI (x :: r) 0 = some x := atI_nat (j := 0) rfl
theorem at_1 {α : Type} {x y : α} {r : List α} : atI (x :: y :: r) 1 = some y := atI_nat (j := 1) rfl
theorem at_2 {α : Type} {x y z : α} {r : List α} : atI (x :: y :: z :: r) 2 = some z := atI_nat (j := 2) rfl
theorem at_3 {α : Type} {x y z u : α} {r : List α} : atI (x :: y :: z :: u :: r) 3 = some u := atI_nat (j := 3) rfl
theorem shaped_int (i : Int) : SeqAt.shaped (.int i) = true := by unfold SeqAt.shaped; simp [PyData.canLay0, PyData.depth]
theorem shaped_bool (b : Bool) : SeqAt.shaped (.bool b) = true := by unfold SeqAt.shaped; simp [PyData.canLay0, PyData.depth]
theorem shaped_none : SeqAt.shaped .none = true := by unfold SeqAt.shaped; simp [PyData.canLay0, PyData.depth]
theorem shaped_str (x : Str) : SeqAt.shaped (.str x) = PyData.strOk x := by unfold SeqAt.shaped; simp [PyData.canLay0, PyData.depth]
theorem eqv_int (i j : Int) : PyData.eqv (.int i) (.int j) = decide (i = j) := by rw [PyData.eqv]; exact (Bool.beq_eq_decide_eq i j)
theorem eqv_bool (i j : Bool) : PyData.eqv (.bool i) (.bool j) = decide (i = j) := by rw [PyData.eqv]; exact (Bool.beq_eq_decide_eq i j)
theorem eqv_str (i j : Str) : PyData.eqv (.str i) (.str j) = decide (i = j) := by
  rw [PyData.eqv]
  exact Bool.beq_eq_decide_eq i j
theorem eqv_nn : PyData.eqv .none .none = true := by rw [PyData.eqv]
theorem map_get {α β : Type} {l : List α} {g : α → β} {i : Nat} {d : β} (h : (l.map g)[i]? = some d) : ∃ x, l[i]? = some x ∧ g x = d := by
  rw [List.getElem?_map] at h
  cases c : l[i]? with
  | none => rw [c] at h; cases h
  | some x => rw [c] at h; exact ⟨x, rfl, Option.some.inj h⟩
theorem range_len {lo : Int} {n : Nat} : (rangeD lo n).length = n := by simp [rangeD]
theorem lc_acc {Gt : WG} {T : WT} {E : WE} {vs : List Nat} {its : List PyData} {e1 e0 : En} {P : Vl → En → Prop} (acc : Nat → List PyData) (h0 : acc 0 = []) (he : e0 = wipeE e1 vs) (hl : ∀ i, i < its.length → (acc i).length ≤ 100000)
    (hs : ∀ i d, its[i]? = some d → Gt (.dat d) e0 fun e3 => T e3 fun b e4 => if b = true then wFz E e4 fun y e5 => acc (i + 1) = acc i ++ [y] ∧ wipeE e5 vs = e0 else acc (i + 1) = acc i ∧ wipeE e4 vs = e0)
    (hP : P (.ob (.lst (acc its.length))) (back e1 vs (wipeE e0 vs))) : LcB Gt T E vs P its e1 := by
  refine ⟨fun i ac e => acc i = ac ∧ e = e0, ⟨h0, he.symm⟩, ?_, ?_⟩
  · rintro i d ac e2 hd ⟨rfl, rfl⟩
    exact ⟨hl i (List.getElem?_eq_some_iff.mp hd).1, hs i d hd⟩
  · rintro ac e2 ⟨rfl, rfl⟩
    exact ⟨by rw [he, wipeE_len], hP⟩
def Fine : Nat → PyData → Prop
  | _, .none => True
  | _, .bool _ => True
  | _, .int _ => True
  | _, .str x => PyData.strOk x = true
  | m + 1, .tuple ds => ds.length ≤ 40000 ∧ ∀ d ∈ ds, Fine m d
  | m + 1, .list ds => ds.length ≤ 40000 ∧ ∀ d ∈ ds, Fine m d
  | 0, .tuple _ => False
  | 0, .list _ => False
  | _, .dict _ => False
theorem Fine.small : ∀ {m : Nat} {d : PyData}, Fine m d → Small m d
  | m, .none, _ => ⟨by rw [PyData.canLay0], by rw [PyData.depth]; exact Nat.zero_le _⟩
  | m, .bool _, _ => ⟨by rw [PyData.canLay0], by rw [PyData.depth]; exact Nat.zero_le _⟩
  | m, .int _, _ => ⟨by rw [PyData.canLay0], by rw [PyData.depth]; exact Nat.zero_le _⟩
  | m, .str x, h => ⟨by rw [PyData.canLay0]; unfold Fine at h; exact h, by rw [PyData.depth]; exact Nat.zero_le _⟩
  | m + 1, .tuple ds, h => by
    unfold Fine at h
    exact Small.tuple fun d hd => Fine.small (h.2 d hd)
  | m + 1, .list ds, h => by
    unfold Fine at h
    exact Small.list fun d hd => Fine.small (h.2 d hd)
  | 0, .tuple _, h => by unfold Fine at h; exact h.elim
  | 0, .list _, h => by unfold Fine at h; exact h.elim
  | m, .dict _, h => by cases m <;> (unfold Fine at h; exact h.elim)
theorem Fine.ok {m : Nat} {d : PyData} (h : Fine m d) (hm : m ≤ 64) : SeqAt.shaped d = true := h.small.ok hm
theorem Fine.mono : ∀ {m n : Nat} {d : PyData}, Fine m d → m ≤ n → Fine n d
  | m, n, .none, _, _ => by cases n <;> (unfold Fine; trivial)
  | m, n, .bool _, _, _ => by cases n <;> (unfold Fine; trivial)
  | m, n, .int _, _, _ => by cases n <;> (unfold Fine; trivial)
  | m, n, .str x, h, _ => by cases n <;> (unfold Fine at h ⊢; exact h)
  | m + 1, 0, .tuple ds, h, hn => by omega
  | m + 1, n + 1, .tuple ds, h, hn => by
    unfold Fine at h ⊢
    exact ⟨h.1, fun d hd => Fine.mono (h.2 d hd) (by omega)⟩
  | m + 1, 0, .list ds, h, hn => by omega
  | m + 1, n + 1, .list ds, h, hn => by
    unfold Fine at h ⊢
    exact ⟨h.1, fun d hd => Fine.mono (h.2 d hd) (by omega)⟩
  | 0, n, .tuple _, h, _ => by unfold Fine at h; exact h.elim
  | 0, n, .list _, h, _ => by unfold Fine at h; exact h.elim
  | m, n, .dict _, h, _ => by cases m <;> (unfold Fine at h; exact h.elim)
theorem Fine.int {m : Nat} (i : Int) : Fine m (.int i) := by cases m <;> (unfold Fine; trivial)
theorem Fine.bool {m : Nat} (i : Bool) : Fine m (.bool i) := by cases m <;> (unfold Fine; trivial)
theorem Fine.non {m : Nat} : Fine m .none := by cases m <;> (unfold Fine; trivial)
theorem Fine.str {m : Nat} {x : Str} (h : PyData.strOk x = true) : Fine m (.str x) := by cases m <;> (unfold Fine; exact h)
theorem Fine.tup {m : Nat} {ds : List PyData} (h : ds.length ≤ 40000) (hd : ∀ d ∈ ds, Fine m d) : Fine (m + 1) (.tuple ds) := by
  unfold Fine
  exact ⟨h, hd⟩
theorem Fine.lst {m : Nat} {ds : List PyData} (h : ds.length ≤ 40000) (hd : ∀ d ∈ ds, Fine m d) : Fine (m + 1) (.list ds) := by
  unfold Fine
  exact ⟨h, hd⟩
theorem shaped_nil : SeqAt.shaped (.list []) = true := (Fine.lst (m := 0) (ds := []) (by simp) (by simp)).ok (by decide)
theorem shaped_nilT : SeqAt.shaped (.tuple []) = true := (Fine.tup (m := 0) (ds := []) (by simp) (by simp)).ok (by decide)
theorem eqv_lnil (ds : List PyData) : PyData.eqv (.list ds) (.list []) = ds.isEmpty := by
  rw [PyData.eqv]
  cases ds <;> simp [PyData.eqvAll]
theorem eqv_tnil (ds : List PyData) : PyData.eqv (.tuple ds) (.tuple []) = ds.isEmpty := by
  rw [PyData.eqv]
  cases ds <;> simp [PyData.eqvAll]
abbrev FSp := En → (Vl → En → Prop) → Prop
def spD (K : PySem.W.Frag) (F : FSp) : Sp := fun vs H Q _ => ∃ (args : En) (A : List Addr) (Hz : Hp) (P : Vl → En → Prop), Sy ⟨K, A, Hz, H, vs.length⟩ [] [] args (vs.map some) Hz H ∧ args.length = vs.length ∧
  F args P ∧ ∀ b outs, P b outs → ∀ v Hz' H', Sy ⟨K, A, Hz, H, vs.length⟩ (tmp b []) (tmv b v []) outs (vs.map some) Hz' H' → Val ⟨K, A, Hz, H, vs.length⟩ b v [] Hz' → Q v H'
theorem spD_len {K : PySem.W.Frag} {F : FSp} {n : Nat} (hF : ∀ args P, F args P → args.length = n) {vs : List V} {H : Hp} {Q : VK} {E : XK} (h : spD K F vs H Q E) : vs.length = n := by
  obtain ⟨args, A, Hz, P, y, hl, hf, _⟩ := h
  rw [← hl]
  exact hF _ _ hf
abbrev GSp := En → Gh → (Vl → En → Gh → Prop) → Prop
def spG (K : PySem.W.Frag) (F : GSp) : Sp := fun vs H Q _ => ∃ (args : En) (G : Gh) (A : List Addr) (Hz : Hp) (P : Vl → En → Gh → Prop), Sy ⟨K, A, Hz, H, vs.length⟩ [] [] (args ++ [some (.gs G)]) (vs.map some) Hz H ∧ args.length = vs.length ∧
  F args G P ∧ ∀ b outs G', P b outs G' → outs.length = vs.length → ∀ v Hz' H', Sy ⟨K, A, Hz, H, vs.length⟩ (tmp b []) (tmv b v []) (outs ++ [some (.gs G')]) (vs.map some) Hz' H' → Val ⟨K, A, Hz, H, vs.length⟩ b v [] Hz' → Q v H'
theorem spG_len {K : PySem.W.Frag} {F : GSp} {n : Nat} (hF : ∀ args G P, F args G P → args.length = n) {vs : List V} {H : Hp} {Q : VK} {E : XK} (h : spG K F vs H Q E) : vs.length = n := by
  obtain ⟨args, G, A, Hz, P, y, hl, hf, _⟩ := h
  rw [← hl]
  exact hF _ _ _ hf
def out1 : Option B → Option B → Option B
  | some (.ob (some j) _), some (.ob (some j') o) => if j = j' then some (.ob (some j) o) else none
  | _, _ => none
def outsOf : En → En → En
  | [], _ => []
  | _ :: as, [] => none :: outsOf as []
  | a :: as, x :: es => out1 a x :: outsOf as es
theorem outs_nil {e : En} : outsOf [] e = [] := by cases e <;> rfl
theorem outs_cons {a x : Option B} {as es : En} : outsOf (a :: as) (x :: es) = out1 a x :: outsOf as es := rfl
theorem out1_dat {d : PyData} {x : Option B} : out1 (some (.dat d)) x = none := by cases x <;> rfl
theorem out1_none {x : Option B} : out1 none x = none := by cases x <;> rfl
theorem out1_ob {j : Nat} {o o' : Ob} : out1 (some (.ob (some j) o)) (some (.ob (some j) o')) = some (.ob (some j) o') := by simp [out1]
theorem outsOf_len : ∀ (as es : En), (outsOf as es).length = as.length
  | [], _ => by rw [outs_nil]
  | _ :: as, [] => by rw [outsOf, List.length_cons, outsOf_len as [], List.length_cons]
  | _ :: as, _ :: es => by rw [outsOf, List.length_cons, outsOf_len as es, List.length_cons]
inductive Gv (A : List Addr) : En → St → Prop
  | nil : Gv A [] []
  | no {x : Option V} {L : En} {W : St} : Gv A L W → Gv A (none :: L) (x :: W)
  | dat {x : Option V} {d : PyData} {L : En} {W : St} : Gv A L W → Gv A (some (.dat d) :: L) (x :: W)
  | ob {a : Addr} {t : Option Nat} {o : Ob} {L : En} {W : St} : (∀ j, t = some j → A[j]? = some a) → Gv A L W → Gv A (some (.ob t o) :: L) (some (.ref a) :: W)
section
variable {f f' : Fr} {Hz H Hz' H' : Hp}
theorem Pr.gv {L : En} {W : St} {O : List Addr} (h : Pr f Hz H L W O) : ∀ {L1 L2 : En}, L = L1 ++ L2 → L1.length = W.length → Gv f.A L1 W := by
  induction h with
  | nil =>
    intro L1 L2 e hl
    obtain rfl := List.length_eq_zero_iff.mp hl
    exact .nil
  | gs l _ _ =>
    intro L1 L2 e hl
    obtain rfl := List.length_eq_zero_iff.mp hl
    exact .nil
  | skip p ih =>
    intro L1 L2 e hl
    cases L1 with
    | nil => cases hl
    | cons x L1 => cases e; exact .no (ih rfl (Nat.succ.inj hl))
  | dat d p ih =>
    intro L1 L2 e hl
    cases L1 with
    | nil => cases hl
    | cons x L1 => cases e; exact .dat (ih rfl (Nat.succ.inj hl))
  | ob q1 q2 q3 p ih =>
    intro L1 L2 e hl
    cases L1 with
    | nil => cases hl
    | cons x L1 => cases e; exact .ob q3 (ih rfl (Nat.succ.inj hl))
theorem pr_outs : ∀ {args e : En} {W σ : St} {O : List Addr}, Gv f.A args W → Pr f Hz' H' e σ O → ∃ O', O'.Sublist O ∧ Pr f Hz' H' (outsOf args e) W O'
  | [], _, _, _, _, .nil, h => ⟨[], List.nil_sublist _, by rw [outs_nil]; exact .nil⟩
  | _ :: as, [], _, _, _, h0, .nil => by
    cases h0 with
    | no p =>
      obtain ⟨O', h1, h2⟩ := pr_outs p .nil
      exact ⟨O', h1, by unfold outsOf; exact .skip h2⟩
    | dat p =>
      obtain ⟨O', h1, h2⟩ := pr_outs p .nil
      exact ⟨O', h1, by unfold outsOf; exact .skip h2⟩
    | ob _ p =>
      obtain ⟨O', h1, h2⟩ := pr_outs p .nil
      exact ⟨O', h1, by unfold outsOf; exact .skip h2⟩
  | a :: as, _ :: _, _, _, _, h0, .gs l _ _ => by
    have key : ∀ {w : Option V} {W : St} (a : Option B), Gv f.A as W → ∃ O2, O2.Sublist (l.map (·.1)) ∧ Pr f Hz' H' (none :: outsOf as []) (w :: W) O2 := fun a p => by
      obtain ⟨O2, h1, h2⟩ := pr_outs p (Pr.nil (f := f) (Hz := Hz') (H := H'))
      have : O2 = [] := List.sublist_nil.mp h1
      subst this
      exact ⟨[], List.nil_sublist _, .skip h2⟩
    cases h0 with
    | no p => exact key none p
    | dat p => rename_i x d W; exact key (some (.dat d)) p
    | @ob a0 t o _ W q p =>
      have e1 : ∀ G, outsOf (some (.ob t o) :: as) [some (.gs G)] = none :: outsOf as [] := fun G => by cases t <;> rfl
      rw [e1]
      exact key none p
  | a :: as, x :: es, _, _, _, h0, h => by
    have key : ∀ {w : Option V} {W σ' : St} {O' : List Addr}, Gv f.A as W → Pr f Hz' H' es σ' O' → ∃ O2, O2.Sublist O' ∧ Pr f Hz' H' (none :: outsOf as es) (w :: W) O2 := fun p p' => by
      obtain ⟨O2, h1, h2⟩ := pr_outs p p'
      exact ⟨O2, h1, .skip h2⟩
    cases h0 with
    | no p =>
      have e1 : outsOf (none :: as) (x :: es) = none :: outsOf as es := by cases x <;> rfl
      rw [e1]
      cases h with
      | gs l h1 h2 =>
        obtain ⟨O2, c1, c2⟩ := key (w := _) p (Pr.nil (f := f) (Hz := Hz') (H := H'))
        obtain rfl := List.sublist_nil.mp c1
        exact ⟨[], List.nil_sublist _, c2⟩
      | skip p' => exact key p p'
      | dat _ p' => exact key p p'
      | ob _ _ _ p' =>
        obtain ⟨O2, h1, h2⟩ := key (w := _) p p'
        exact ⟨O2, h1.cons _, h2⟩
    | dat p =>
      have e1 : ∀ d, outsOf (some (.dat d) :: as) (x :: es) = none :: outsOf as es := fun d => by cases x <;> rfl
      rw [e1]
      cases h with
      | gs l h1 h2 =>
        obtain ⟨O2, c1, c2⟩ := key (w := _) p (Pr.nil (f := f) (Hz := Hz') (H := H'))
        obtain rfl := List.sublist_nil.mp c1
        exact ⟨[], List.nil_sublist _, c2⟩
      | skip p' => exact key p p'
      | dat _ p' => exact key p p'
      | ob _ _ _ p' =>
        obtain ⟨O2, h1, h2⟩ := key (w := _) p p'
        exact ⟨O2, h1.cons _, h2⟩
    | @ob a0 t0 o0 _ _ q3 p =>
      cases h with
      | gs l h1 h2 =>
        have e1 : ∀ G, outsOf (some (.ob t0 o0) :: as) [some (.gs G)] = none :: outsOf as [] := fun G => by cases t0 <;> rfl
        rw [e1]
        obtain ⟨O2, c1, c2⟩ := key (w := _) p (Pr.nil (f := f) (Hz := Hz') (H := H'))
        obtain rfl := List.sublist_nil.mp c1
        exact ⟨[], List.nil_sublist _, c2⟩
      | skip p' =>
        have e1 : outsOf (some (.ob t0 o0) :: as) (none :: es) = none :: outsOf as es := by cases t0 <;> rfl
        rw [e1]
        exact key p p'
      | @dat v d _ _ _ _ p' =>
        have e1 : outsOf (some (.ob t0 o0) :: as) (some (.dat d) :: es) = none :: outsOf as es := by cases t0 <;> rfl
        rw [e1]
        exact key p p'
      | @ob a1 t1 o1 _ _ O1 g1 g2 g3 p' =>
        obtain ⟨O2, h1, h2⟩ := pr_outs p p'
        cases t0 with
        | none =>
          have e1 : outsOf (some (.ob none o0) :: as) (some (.ob t1 o1) :: es) = none :: outsOf as es := by cases t1 <;> rfl
          rw [e1]
          exact ⟨O2, h1.cons _, .skip h2⟩
        | some j =>
          cases t1 with
          | none => exact ⟨O2, h1.cons _, .skip h2⟩
          | some j' =>
            show ∃ O', O'.Sublist (a1 :: O1) ∧ Pr f Hz' H' ((if j = j' then some (.ob (some j) o1) else none) :: outsOf as es) _ O'
            by_cases c : j = j'
            · subst c
              rw [if_pos rfl]
              have h5 := q3 j rfl
              have h6 := g3 j rfl
              rw [h5] at h6
              cases h6
              exact ⟨a0 :: O2, h1.cons₂ _, .ob g1 g2 g3 h2⟩
            · rw [if_neg c]
              exact ⟨O2, h1.cons _, .skip h2⟩
theorem Pr.fr {L : En} {W : St} {O : List Addr} (hK : f'.K = f.K) (hA : f'.A = f.A) (h0 : f'.H0 = f.H0) (h : Pr f Hz H L W O) : Pr f' Hz H L W O := by
  induction h with
  | nil => exact .nil
  | gs l h g => exact .gs l h ⟨by rw [hK]; exact g.ok, by rw [hA, h0]; exact g.own⟩
  | skip p ih => exact .skip ih
  | dat d p ih => exact .dat (by rw [hK]; exact d) ih
  | ob q1 q2 q3 p ih => exact .ob (by rw [hK]; exact q1) (by rw [h0]; exact q2) (by rw [hA]; exact q3) ih
theorem Pr.n {m : Nat} {L : En} {W : St} {O : List Addr} (h : Pr f Hz H L W O) : Pr { f with n := m } Hz H L W O := Pr.fr (f := f) (f' := { f with n := m }) rfl rfl rfl h
theorem Sy.outs {L e args : En} {W σ W0 : St} (y : Sy f L W e σ Hz' H') (g : Gv f.A args W0) (hf : f' = { f with n := W0.length }) : Sy f' L W (outsOf args e) W0 Hz' H' := by
  subst hf
  obtain ⟨⟨O1, O2, p1, p2, nd, fr⟩, sm, tz, nw, kp, ka, az, tp, ln⟩ := y
  obtain ⟨O', h1, h2⟩ := pr_outs g p2
  have sub : (O1 ++ O').Sublist (O1 ++ O2) := List.Sublist.append (List.Sublist.refl _) h1
  exact ⟨⟨O1, O', p1.n, h2.n, sub.nodup nd, fun a ha => fr a (sub.subset ha)⟩, sm, tz, nw, kp, ka, az, tp, rfl⟩
theorem Pr.split {L : En} {W : St} {O : List Addr} (h : Pr f Hz H L W O) : ∀ {n : Nat} {G : Gh}, L[n]? = some (some (.gs G)) → ∃ L0 l r, L = L0 ++ [some (.gs G)] ∧ L0.length = W.length ∧ n = W.length ∧ G = lkp l ∧ Pr f Hz H L0 W r ∧ PG f Hz H l ∧ O = r ++ l.map (·.1) := by
  induction h with
  | nil => intro n G e; cases e
  | gs l hl g =>
    intro n G e
    cases n with
    | zero =>
      cases e
      exact ⟨[], l, [], rfl, rfl, rfl, hl, .nil, g, rfl⟩
    | succ n => cases e
  | skip p ih =>
    intro n G e
    cases n with
    | zero => cases e
    | succ n =>
      obtain ⟨L0, l, r, rfl, h2, h3, h4, h5, h6, rfl⟩ := ih e
      exact ⟨none :: L0, l, r, rfl, by simp [h2], by simp [h3], h4, .skip h5, h6, rfl⟩
  | dat d p ih =>
    intro n G e
    cases n with
    | zero => cases e
    | succ n =>
      obtain ⟨L0, l, r, rfl, h2, h3, h4, h5, h6, rfl⟩ := ih e
      exact ⟨_ :: L0, l, r, rfl, by simp [h2], by simp [h3], h4, .dat d h5, h6, rfl⟩
  | @ob a t o L W O q1 q2 q3 p ih =>
    intro n G e
    cases n with
    | zero => cases e
    | succ n =>
      obtain ⟨L0, l, r, rfl, h2, h3, h4, h5, h6, rfl⟩ := ih e
      exact ⟨_ :: L0, l, a :: r, rfl, by simp [h2], by simp [h3], h4, .ob q1 q2 q3 h5, h6, rfl⟩
theorem Pr.join {L : En} {W : St} {O : List Addr} (h : Pr f Hz H L W O) (hl : L.length = W.length) {l : List (Addr × Cell)} (g : PG f Hz H l) : Pr f Hz H (L ++ [some (.gs (lkp l))]) W (O ++ l.map (·.1)) := by
  induction h with
  | nil => exact .gs l rfl g
  | gs _ _ _ => cases hl
  | skip p ih => exact .skip (ih (Nat.succ.inj hl))
  | dat d p ih => exact .dat d (ih (Nat.succ.inj hl))
  | ob q1 q2 q3 p ih => exact .ob q1 q2 q3 (ih (Nat.succ.inj hl))
theorem Pr.more {e : En} {σ : St} {O : List Addr} (h : Pr f Hz H e σ O) (hl : e.length = σ.length) (n : Nat) : Pr f Hz H (e ++ List.replicate n none) (σ ++ List.replicate n none) O := by
  induction h with
  | nil =>
    rw [List.nil_append, List.nil_append]
    induction n with
    | zero => exact .nil
    | succ n ih => exact .skip ih
  | gs _ _ _ => cases hl
  | skip _ ih => exact .skip (ih (Nat.succ.inj hl))
  | dat d _ ih => exact .dat d (ih (Nat.succ.inj hl))
  | ob a b c _ ih => exact .ob a b c (ih (Nat.succ.inj hl))
theorem Sy.more {L e : En} {W σ : St} (y : Sy f L W e σ Hz H) (hl : e.length = σ.length) (n : Nat) (hf : f' = { f with n := σ.length + n }) : Sy f' L W (e ++ List.replicate n none) (σ ++ List.replicate n none) Hz H := by
  subst hf
  obtain ⟨⟨O1, O2, p1, p2, nd, fr⟩, sm, tz, nw, kp, ka, az, tp, ln⟩ := y
  exact ⟨⟨O1, O2, p1.n, (p2.more hl n).n, nd, fr⟩, sm, tz, nw, kp, ka, az, tp, by simp⟩
theorem Sy.moreG {L e : En} {W σ : St} {G : Gh} (y : Sy f L W (e ++ [some (.gs G)]) σ Hz H) (hl : e.length = σ.length) (n : Nat) (hf : f' = { f with n := σ.length + n }) :
    Sy f' L W (e ++ List.replicate n none ++ [some (.gs G)]) (σ ++ List.replicate n none) Hz H := by
  subst hf
  obtain ⟨⟨O1, O2, p1, p2, nd, fr⟩, sm, tz, nw, kp, ka, az, tp, ln⟩ := y
  obtain ⟨e0, l, r, h1, h2, h3, rfl, h5, h6, rfl⟩ := p2.split (n := e.length) (by rw [List.getElem?_append_right (Nat.le_refl _), Nat.sub_self]; rfl)
  have e1 : e = e0 := (List.append_inj' h1 rfl).1
  subst e1
  have q := (h5.more hl n).join (by simp [hl]) h6
  exact ⟨⟨O1, _, p1.n, q.n, nd, fr⟩, sm, tz, nw, kp, ka, az, tp, by simp⟩
end
theorem outs_app : ∀ {args e e0 t : En}, e = e0 ++ t → args.length ≤ e0.length → outsOf args e = outsOf args e0
  | [], e, e0, t, _, _ => by rw [outs_nil, outs_nil]
  | a :: as, e, [], t, _, h => by cases h
  | a :: as, e, x :: e0, t, he, h => by
    subst he
    rw [List.cons_append, outsOf, outsOf, outs_app rfl (Nat.le_of_succ_le_succ h)]
def retP (args : En) (P : Vl → En → Prop) : Po := ⟨fun e => P (.dat .none) (outsOf args e), fun b e => notOwn b = true ∧ P b (outsOf args e), fun _ => False, fun _ => False⟩
theorem retP_nx {args : En} {P : Vl → En → Prop} {e : En} : (retP args P).nx e = P (.dat .none) (outsOf args e) := rfl
theorem retP_rtD {args : En} {P : Vl → En → Prop} {d : PyData} {e : En} : (retP args P).rt (.dat d) e = P (.dat d) (outsOf args e) := by simp [retP, notOwn]
theorem retP_rtO {args : En} {P : Vl → En → Prop} {o : Ob} {e : En} : (retP args P).rt (.ob o) e = P (.ob o) (outsOf args e) := by simp [retP, notOwn]
theorem notOwn_dat {d : PyData} : notOwn (.dat d) = true := rfl
theorem notOwn_ob {o : Ob} : notOwn (.ob o) = true := rfl
def gsAt (P : Gh → Prop) : Option (Option B) → Prop
  | some (some (.gs G)) => P G
  | _ => False
theorem gsAt_gs {P : Gh → Prop} {G : Gh} : gsAt P (some (some (.gs G))) = P G := rfl
theorem gsAt_ex {P : Gh → Prop} {x : Option (Option B)} (h : gsAt P x) : ∃ G, x = some (some (.gs G)) ∧ P G := by
  unfold gsAt at h
  split at h
  · exact ⟨_, rfl, h⟩
  · exact h.elim
def retG (n : Nat) (args : En) (P : Vl → En → Gh → Prop) : Po := ⟨fun e => gsAt (fun G => P (.dat .none) (outsOf args e) G) e[n]?, fun b e => notOwn b = true ∧ gsAt (fun G => P b (outsOf args e) G) e[n]?, fun _ => False, fun _ => False⟩
theorem retG_nx {n : Nat} {args : En} {P : Vl → En → Gh → Prop} {e : En} : (retG n args P).nx e = gsAt (fun G => P (.dat .none) (outsOf args e) G) e[n]? := rfl
theorem retG_rtD {n : Nat} {args : En} {P : Vl → En → Gh → Prop} {d : PyData} {e : En} : (retG n args P).rt (.dat d) e = gsAt (fun G => P (.dat d) (outsOf args e) G) e[n]? := by simp [retG, notOwn]
theorem retG_rtO {n : Nat} {args : En} {P : Vl → En → Gh → Prop} {o : Ob} {e : En} : (retG n args P).rt (.ob o) e = gsAt (fun G => P (.ob o) (outsOf args e) G) e[n]? := by simp [retG, notOwn]
theorem fn_run {K : PySem.W.Frag} {F : FSp} {t : TS} {S : WS} {N : List Str} {vs : List V} {H : Hp} {Q : VK} {E : XK} (h : spD K F vs H Q E) (hs : ∀ A Hz, SS ⟨K, A, Hz, H, N.length⟩ t S)
    (hw : ∀ args P, args.length = vs.length → F args P → S (retP args P) (args ++ List.replicate (N.length - args.length) none)) (hN : vs.length ≤ N.length) : t { nx := fun _ H' => Q .non H', rt := Q } (start N vs) H := by
  obtain ⟨args, A, Hz, P, y, hl, hF, hQ⟩ := h
  have g : Gv A args (vs.map some) := by
    obtain ⟨O1, O2, p1, p2, _⟩ := y.ex
    exact p2.gv (L2 := []) (by rw [List.append_nil]) (by rw [List.length_map]; exact hl)
  have hw' := hw args _ hl hF
  rw [hl] at hw'
  refine (hs A Hz).run hw' (y.more (by rw [List.length_map]; exact hl) (N.length - vs.length) (by rw [List.length_map, Nat.add_sub_cancel' hN])) ⟨?_, ?_, fun a => a.elim, fun a => a.elim⟩
  · intro e σ Hz' H' hP s1 y1
    exact hQ _ _ hP .non Hz' H' (y1.outs g (by rw [List.length_map])) Dp.non
  · intro b e σ v Hz' H' hP s1 y1 l1
    exact hQ _ _ hP.2 v Hz' H' (y1.outs g (by rw [List.length_map])) (val_not rfl l1 hP.1)
theorem fnG_run {K : PySem.W.Frag} {F : GSp} {t : TS} {S : WS} {N : List Str} {vs : List V} {H : Hp} {Q : VK} {E : XK} (h : spG K F vs H Q E) (hs : ∀ A Hz, SS ⟨K, A, Hz, H, N.length⟩ t S)
    (hw : ∀ args G P, args.length = vs.length → F args G P → S (retG N.length args P) (args ++ List.replicate (N.length - args.length) none ++ [some (.gs G)])) (hN : vs.length ≤ N.length) : t { nx := fun _ H' => Q .non H', rt := Q } (start N vs) H := by
  obtain ⟨args, G, A, Hz, P, y, hl, hF, hQ⟩ := h
  have hl' : args.length = (vs.map some).length := by rw [List.length_map]; exact hl
  have g : Gv A args (vs.map some) := by
    obtain ⟨O1, O2, p1, p2, _⟩ := y.ex
    exact p2.gv rfl hl'
  have hw' := hw args G _ hl hF
  rw [hl] at hw'
  have key : ∀ {L : En} {W : St} {e : En} {σ : St} {G' : Gh} {Hz' H' : Hp}, Sy ⟨K, A, Hz, H, N.length⟩ L W e σ Hz' H' → e[N.length]? = some (some (.gs G')) → Sy ⟨K, A, Hz, H, vs.length⟩ L W (outsOf args e ++ [some (.gs G')]) (vs.map some) Hz' H' := fun y1 he => by
    obtain ⟨⟨O1, O2, p1, p2, nd, fr⟩, sm, tz, nw, kp, ka, az, tp, ln⟩ := y1
    obtain ⟨e0, l, r, h1, h2, h3, h4, h5, h6, h7⟩ := p2.split he
    subst h4 h7
    obtain ⟨O', c1, c2⟩ := pr_outs g p2
    obtain ⟨O3, c3, c4⟩ := pr_outs g h5
    subst h1
    have eo : outsOf args (e0 ++ [some (B.gs (lkp l))]) = outsOf args e0 := outs_app rfl (by rw [h2, ln, hl]; exact hN)
    rw [eo]
    have q := c4.join (by rw [outsOf_len, hl']) h6
    have sub : (O1 ++ (O3 ++ l.map (·.1))).Sublist (O1 ++ (r ++ l.map (·.1))) := List.Sublist.append (List.Sublist.refl _) (List.Sublist.append c3 (List.Sublist.refl _))
    exact ⟨⟨O1, _, p1.n, q.n, sub.nodup nd, fun a ha => fr a (sub.subset ha)⟩, sm, tz, nw, kp, ka, az, tp, by rw [List.length_map]⟩
  refine (hs A Hz).run hw' (y.moreG hl' (N.length - vs.length) (by rw [List.length_map, Nat.add_sub_cancel' hN])) ⟨?_, ?_, fun a => a.elim, fun a => a.elim⟩
  · intro e σ Hz' H' hP s1 y1
    obtain ⟨G', he, hP⟩ := gsAt_ex hP
    exact hQ _ _ _ hP (by rw [outsOf_len, hl]) .non Hz' H' (key y1 he) Dp.non
  · intro b e σ v Hz' H' hP s1 y1 l1
    obtain ⟨G', he, hP2⟩ := gsAt_ex hP.2
    exact hQ _ _ _ hP2 (by rw [outsOf_len, hl]) v Hz' H' (key y1 he) (val_not rfl l1 hP.1)
section
variable {f : Fr} {ta : TA} {A : WA} {F : FSp} {E : XK}
def dats (ds : List PyData) : En := ds.map fun d => some (.dat d)
theorem dats_len (ds : List PyData) : (dats ds).length = ds.length := by simp [dats]
theorem pr_dats {f' : Fr} {Hz H : Hp} (hK : f'.K = f.K) : ∀ {ds : List PyData} {vs : List V}, DpAll f.K Hz vs ds → Pr f' Hz H (dats ds) (vs.map some) []
  | [], _, .nil => .nil
  | d :: ds, _, .cons h1 h2 => .dat (by rw [hK]; exact h1) (pr_dats hK h2)
theorem Sy.called {L e : En} {W σ : St} {Hz H Hz' H' : Hp} {A' : List Addr} {m : Nat} {b : Vl} {v : V} {outs : En} {W0 : St} (y : Sy f L W e σ Hz H) (y' : Sy ⟨f.K, A', Hz, H, m⟩ (tmp b []) (tmv b v []) outs W0 Hz' H')
    {O1 O2 : List Addr} (p1 : Pr f Hz H L W O1) (p2 : Pr f Hz H e σ O2) (nd : (O1 ++ O2).Nodup) (fr : ∀ a ∈ O1 ++ O2, Hz a = none) (dj : ∀ a ∈ O1 ++ O2, a ∉ A') (hA : ∀ a ∈ A', a ∉ f.A → f.H0 a = none) (hb : notOwn b = true) :
    Sy f (tmp b L) (tmv b v W) e σ Hz' H' ∧ Same Hz Hz' ∧ ∃ O1', Pr f Hz' H' (tmp b L) (tmv b v W) O1' ∧ Pr f Hz' H' e σ O2 ∧ (O1' ++ O2).Nodup ∧ (∀ a ∈ O1' ++ O2, Hz' a = none ∧ (a ∈ O1 ++ O2 ∨ H a = none)) := by
  have s1 : Same Hz Hz' := y'.tz
  have keep : ∀ a ∈ O1 ++ O2, H' a = H a := fun a ha => by
    have h1 : H a ≠ none := by
      rcases List.mem_append.mp ha with q | q
      · exact p1.there a q
      · exact p2.there a q
    cases c : H a with
    | none => exact absurd c h1
    | some u => exact y'.kp a u (dj a ha) c
  have hz : ∀ a ∈ O1 ++ O2, Hz' a = none := fun a ha => by
    cases c : Hz' a with
    | none => rfl
    | some u =>
      rcases y'.nw a (by rw [c]; exact Option.some_ne_none _) with q | q
      · exact absurd (fr a ha) q
      · rcases List.mem_append.mp ha with r | r
        · exact absurd q (p1.there a r)
        · exact absurd q (p2.there a r)
  have k1 := p1.keep s1 (fun a ha => keep a (List.mem_append_left _ ha))
  have k2 := p2.keep s1 (fun a ha => keep a (List.mem_append_right _ ha))
  have base : ∀ {L1 : En} {W1 : St} {O : List Addr}, Pr f Hz' H' L1 W1 O → (O ++ O2).Nodup → (∀ a ∈ O ++ O2, Hz' a = none) → Sy f L1 W1 e σ Hz' H' := fun q1 q2 q3 =>
    ⟨⟨_, O2, q1, k2, q2, q3⟩, y'.sm, same_trans y.tz s1, fun a h => by
      rcases y'.nw a h with q | q
      · exact y.nw a q
      · right
        cases c : f.H0 a with
        | none => rfl
        | some u => exact absurd q (y.ka a (by rw [c]; exact Option.some_ne_none _)), fun a u h1 h2 => by
      by_cases c : a ∈ A'
      · rw [hA a c h1] at h2
        cases h2
      · exact y'.kp a u c (y.kp a u h1 h2), fun a h => y'.ka a (y.ka a h), fun a h => by
      obtain ⟨q1, q2⟩ := y.az a h
      refine ⟨q1, ?_⟩
      cases c : Hz' a with
      | none => rfl
      | some u =>
        rcases y'.nw a (by rw [c]; exact Option.some_ne_none _) with r | r
        · exact absurd q2 r
        · exact absurd r (y.ka a q1), y'.tp, y.ln⟩
  cases b with
  | own i => cases hb
  | gob n a => cases hb
  | dat d => exact ⟨base k1 nd hz, s1, O1, k1, k2, nd, fun a ha => ⟨hz a ha, .inl ha⟩⟩
  | ob o =>
    obtain ⟨R1, R2, r1, r2, rd, rf⟩ := y'.ex
    cases r1 with
    | @ob ra _ _ _ _ Rr q1 q2 q3 q4 =>
      have hn : H ra = none := q2 rfl
      have h0 : f.H0 ra = none := by
        cases c : f.H0 ra with
        | none => rfl
        | some u => exact absurd hn (y.ka ra (by rw [c]; exact Option.some_ne_none _))
      have pn : Pr f Hz' H' (some (.ob none o) :: L) (some (.ref ra) :: W) (ra :: O1) := .ob q1 (fun _ => h0) (fun j z => by cases z) k1
      have nin : ra ∉ O1 ++ O2 := fun c => by
        rcases List.mem_append.mp c with r | r
        · exact p1.there ra r hn
        · exact p2.there ra r hn
      have nd2 : ((ra :: O1) ++ O2).Nodup := List.nodup_cons.mpr ⟨nin, nd⟩
      have hz2 : ∀ a ∈ (ra :: O1) ++ O2, Hz' a = none := fun a ha => by
        rcases List.mem_cons.mp ha with rfl | ha
        · exact rf a List.mem_cons_self
        · exact hz a ha
      refine ⟨base pn nd2 hz2, s1, ra :: O1, pn, k2, nd2, fun a ha => ⟨hz2 a ha, ?_⟩⟩
      rcases List.mem_cons.mp ha with rfl | ha
      · exact .inr hn
      · exact .inl ha
def wCall (F : FSp) (A : WA) (e : En) (P : Vl → En → Prop) : Prop := A e fun ds e1 => F (dats ds) fun b _ => notOwn b = true ∧ P b e1
theorem se_call (h : SA f ta A) : SE f (tCall (spD f.K F) [] E ta) (wCall F A) := ⟨fun {L W e σ Hz H Post Q} w y k => h.run w y fun ds e1 vs Hz1 H1 w1 s1 y1 d1 => by
  rw [List.append_nil]
  have yc : Sy ⟨f.K, [], Hz1, H1, vs.length⟩ [] [] (dats ds) (vs.map some) Hz1 H1 := ⟨⟨[], [], .nil, pr_dats rfl d1, List.nodup_nil, fun a ha => by cases ha⟩, y1.sm, same_refl, fun b h => .inl h, fun b u _ h => h, fun b h => h, (fun a ha => by cases ha), y1.tp, by rw [List.length_map]⟩
  refine ⟨dats ds, [], Hz1, _, yc, by rw [dats_len, dps_len d1], w1, fun b o hb v Hz' H' y' l' => ?_⟩
  obtain ⟨O1, O2, p1, p2, nd, fr⟩ := y1.ex
  obtain ⟨y2, s2, _⟩ := y1.called y' p1 p2 nd fr (fun a _ c => by cases c) (fun a c => by cases c) hb.1
  exact k _ _ _ _ _ hb.2 (same_trans s1 s2) y2 (by
    cases b with
    | dat d => exact l'
    | ob o => trivial
    | own i => cases hb.1
    | gob n a => cases hb.1)⟩
def out0 : En → Option Ob
  | some (.ob (some 0) o) :: _ => some o
  | _ => none
theorem out0_get {outs : En} {o : Ob} (h : out0 outs = some o) : outs[0]? = some (some (.ob (some 0) o)) := by
  unfold out0 at h
  split at h
  · cases h
    rfl
  · cases h
def wCallO (F : FSp) (i : Nat) (A : WA) (e : En) (P : Vl → En → Prop) : Prop := match e[i]? with
  | some (some (.ob _ _)) => A e fun ds e1 => match e1[i]? with
    | some (some (.ob t o)) => F (some (.ob (some 0) o) :: dats ds) fun b outs => notOwn b = true ∧ ob1 (out0 outs) fun o' => P b (e1.set i (some (.ob t o')))
    | _ => False
  | _ => False
theorem se_callO {i : Nat} (h : SA f ta A) : SE f (tCall (spD f.K F) [] E (tCons (tVar i) ta)) (wCallO F i A) := ⟨fun {L W e σ Hz H Post Q} w y k => by
  unfold wCallO at w
  split at w
  · rename_i t0 o0 q0
    obtain ⟨a, ha, _, _⟩ := y.ob q0
    refine ⟨_, ha, h.run w y fun ds e1 vs Hz1 H1 w1 s1 y1 d1 => ?_⟩
    split at w1
    · rename_i t o q
      rw [List.append_nil]
      obtain ⟨O1, O2, p1, p2, nd, fr⟩ := y1.ex
      obtain ⟨a', O', h1, h2, h3, h4, h5, h6⟩ := p2.take q
      rw [ha] at h1
      cases h1
      have hz : Hz1 a = none := fr a (List.mem_append_right _ (h5.mem_iff.mpr List.mem_cons_self))
      have yc : Sy ⟨f.K, [a], Hz1, H1, (V.ref a :: vs).length⟩ [] [] (some (.ob (some 0) o) :: dats ds) ((V.ref a :: vs).map some) Hz1 H1 :=
        ⟨⟨[], [a], .nil, .ob h2 (fun z => by cases z) (fun j z => by cases z; rfl) (pr_dats rfl d1), by simp, fun b hb => by
          rw [List.nil_append, List.mem_singleton] at hb
          rw [hb]
          exact hz⟩, y1.sm, same_refl, fun b h => .inl h, fun b u _ h => h, fun b h => h, fun b hb => by
          rw [List.mem_singleton] at hb
          rw [hb]
          exact ⟨h2.there, hz⟩, y1.tp, by rw [List.length_map]⟩
      refine ⟨_, [a], Hz1, _, yc, by rw [List.length_cons, dats_len, List.length_cons, dps_len d1], w1, fun b outs hb v Hz' H' y' l' => ?_⟩
      obtain ⟨hb1, hb2⟩ := hb
      obtain ⟨o', qo, hb2⟩ := ob1_ex hb2
      replace qo := out0_get qo
      · have nd1 := perm_nodup nd h5
        have pm : (O1 ++ (a :: O')).Perm (a :: (O1 ++ O')) := List.perm_middle
        have nd2 := pm.nodup_iff.mp nd1
        have ndx := List.nodup_cons.mp nd2
        have yx : Sy f L W (e1.set i none) σ Hz1 H1 := ⟨⟨O1, O', p1, h6, ndx.2, fun b hb => fr b (by
          rcases List.mem_append.mp hb with r | r
          · exact List.mem_append_left _ r
          · exact List.mem_append_right _ (h5.mem_iff.mpr (List.mem_cons_of_mem _ r)))⟩, y1.sm, y1.tz, y1.nw, y1.kp, y1.ka, y1.az, y1.tp, y1.ln⟩
        obtain ⟨y2, s2, O1', g1, g2, g3, g4⟩ := yx.called y' p1 h6 ndx.2 (fun b hb => fr b (by
          rcases List.mem_append.mp hb with r | r
          · exact List.mem_append_left _ r
          · exact List.mem_append_right _ (h5.mem_iff.mpr (List.mem_cons_of_mem _ r)))) (fun b hb c => by
            rw [List.mem_singleton] at c
            exact ndx.1 (c ▸ hb)) (fun b hb c => by
            rw [List.mem_singleton] at hb
            rw [hb] at c ⊢
            cases t with
            | none => exact h3 rfl
            | some j => exact absurd (List.mem_of_getElem? (h4 j rfl)) c) hb1
        obtain ⟨ax, x1, x2, x3⟩ := y'.ob qo
        have ea : ax = a := by
          have z : ((V.ref a :: vs).map some)[0]? = some (some (V.ref a)) := rfl
          rw [z] at x1
          cases x1
          rfl
        subst ea
        have hi : i < (e1.set i none).length := by rw [List.length_set]; exact (List.getElem?_eq_some_iff.mp q).1
        obtain ⟨O3, c1, c2⟩ := g2.putO (i := i) x2 h3 h4 (by rw [List.getElem?_set_self (by rw [List.length_set] at hi; exact hi)])
        rw [List.set_set, set_self_some ha] at c2
        have na : ax ∉ O1' ++ O' := fun c => by
          rcases (g4 ax c).2 with r | r
          · exact ndx.1 r
          · exact h2.there r
        have pm2 : (O1' ++ O3).Perm (ax :: (O1' ++ O')) := (c1.append_left O1').trans List.perm_middle
        have y3 : Sy f (tmp b L) (tmv b v W) (e1.set i (some (.ob t o'))) σ Hz' H' := ⟨⟨O1', O3, g1, c2, pm2.nodup_iff.mpr (List.nodup_cons.mpr ⟨na, g3⟩), fun z hz => by
          rcases List.mem_cons.mp (pm2.mem_iff.mp hz) with rfl | r
          · exact x3
          · exact (g4 z r).1⟩, y2.sm, y2.tz, y2.nw, y2.kp, y2.ka, y2.az, y2.tp, y2.ln⟩
        exact k _ _ _ _ _ hb2 (same_trans s1 s2) y3 (by
          cases b with
          | dat d => exact l'
          | ob o => trivial
          | own i => cases hb1
          | gob n a => cases hb1)
    · exact w1.elim
  · exact w.elim⟩
def wCallG (F : GSp) (n : Nat) (A : WA) (e : En) (P : Vl → En → Prop) : Prop := A e fun ds e1 => gsAt (fun G => F (dats ds) G fun b _ G' => notOwn b = true ∧ P b (e1.set n (some (.gs G')))) e1[n]?
end
end DL


set_option Elab.async false
set_option linter.all false
set_option maxRecDepth 100000
set_option maxHeartbeats 4000000
namespace DL
open PySem L2 TG
open Classical in
section
variable {K : PySem.W.Frag} {A : List Addr} {Hz H H' : Hp} {args : En} {W : St}
end
def rowL (ns : List Int) (i s t : Int) : List PyData := [.list (ns.map PyData.int), .int i, .int s, .int t]
def IsRow (o : Ob) : Prop := ∃ (ns : List Int) (i s t : Int), o = .lst (rowL ns i s t) ∧ ns.length ≤ 63 ∧ 0 ≤ i
def F_law_taken : FSp := fun args P => ∃ (o : Ob) (m : Int), args = [some (.ob (some 0) o), some (.dat (.int m))] ∧ IsRow o ∧ (0 < m ∧ m < 1073741824) ∧ ∀ (d : Int) (o' : Ob), IsRow o' → 0 ≤ d → d < m → P (.dat (.int d)) [some (.ob (some 0) o'), none]
theorem rowL_eq (ns : List Int) (i s t : Int) : rowL ns i s t = [.list (ns.map PyData.int), .int i, .int s, .int t] := rfl
def F_law_pick : FSp := fun args P => ∃ (o : Ob) (ds : List PyData), args = [some (.ob (some 0) o), some (.dat (.list ds))] ∧ IsRow o ∧ (0 < ds.length ∧ ds.length < 1000) ∧ ∀ (d : PyData) (o' : Ob), IsRow o' → d ∈ ds → P (.dat d) [some (.ob (some 0) o'), none]
end DL


set_option Elab.async false
set_option linter.all false
set_option maxRecDepth 100000
set_option maxHeartbeats 4000000
namespace DL
open PySem L2 TG
def valD {κ : Type} [DecidableEq κ] (kvs : List (κ × PyData)) (k : κ) : Option PyData := (kvs.find? fun kv => decide (kv.1 = k)).map (·.2)
def putD {κ : Type} [DecidableEq κ] (kvs : List (κ × PyData)) (k : κ) (d : PyData) : List (κ × PyData) :=
  if (kvs.any fun kv => decide (kv.1 = k)) = true then kvs.map (fun kv => if kv.1 = k then (kv.1, d) else kv) else kvs ++ [(k, d)]
def mergeD (kvs more : List (Key × PyData)) : List (Key × PyData) := more.foldl (fun acc kv => putD acc kv.1 kv.2) kvs
section
variable {κ : Type} [DecidableEq κ] {K : PySem.W.Frag} {Hz : Hp}
theorem KvR.nil : KvR K Hz ([] : List (κ × V)) [] := ⟨rfl, .nil⟩
theorem kv_cons {p : κ × V} {q : κ × PyData} {ks : List (κ × V)} {kvs : List (κ × PyData)} (h : KvR K Hz (p :: ks) (q :: kvs)) : p.1 = q.1 ∧ Dp K Hz p.2 q.2 ∧ KvR K Hz ks kvs := by
  obtain ⟨h1, h2⟩ := h
  simp only [List.map_cons, List.cons.injEq] at h1
  simp only [List.map_cons] at h2
  cases h2 with
  | cons a b => exact ⟨h1.1, a, h1.2, b⟩
theorem KvR.cons {p : κ × V} {q : κ × PyData} {ks : List (κ × V)} {kvs : List (κ × PyData)} (h1 : p.1 = q.1) (h2 : Dp K Hz p.2 q.2) (h : KvR K Hz ks kvs) : KvR K Hz (p :: ks) (q :: kvs) :=
  ⟨by simp only [List.map_cons, h1, h.1], .cons h2 h.2⟩
theorem KvR.any : ∀ {ks : List (κ × V)} {kvs : List (κ × PyData)} (h : KvR K Hz ks kvs) (k : κ), (ks.any fun kv => decide (kv.1 = k)) = kvs.any fun kv => decide (kv.1 = k)
  | [], [], h, k => rfl
  | [], _ :: _, h, k => by cases h.1
  | _ :: _, [], h, k => by cases h.1
  | p :: ks, q :: kvs, h, k => by
    obtain ⟨h1, h2, h3⟩ := kv_cons h
    rw [List.any_cons, List.any_cons, h1, KvR.any h3 k]
theorem KvR.map : ∀ {ks : List (κ × V)} {kvs : List (κ × PyData)} (h : KvR K Hz ks kvs) {k : κ} {v : V} {d : PyData}, Dp K Hz v d →
    KvR K Hz (ks.map fun kv => if kv.1 = k then (kv.1, v) else kv) (kvs.map fun kv => if kv.1 = k then (kv.1, d) else kv)
  | [], [], h, k, v, d, hd => .nil
  | [], _ :: _, h, k, v, d, hd => by cases h.1
  | _ :: _, [], h, k, v, d, hd => by cases h.1
  | p :: ks, q :: kvs, h, k, v, d, hd => by
    obtain ⟨h1, h2, h3⟩ := kv_cons h
    have ih := KvR.map h3 (k := k) hd
    rw [List.map_cons, List.map_cons]
    by_cases c : p.1 = k
    · rw [if_pos c, if_pos (h1 ▸ c)]
      exact .cons h1 hd ih
    · rw [if_neg c, if_neg (h1 ▸ c)]
      exact .cons h1 h2 ih
theorem KvR.len {ks : List (κ × V)} {kvs : List (κ × PyData)} (h : KvR K Hz ks kvs) : ks.length = kvs.length := by
  have := congrArg List.length h.1
  rwa [List.length_map, List.length_map] at this
theorem KvR.mono {Hz' : Hp} {ks : List (κ × V)} {kvs : List (κ × PyData)} (h : KvR K Hz ks kvs) (s : Same Hz Hz') : KvR K Hz' ks kvs := ⟨h.1, dps_mono s _ _ h.2⟩
end
def keyD : PyData → Option Key
  | .int i => some (.inl i)
  | .str x => some (.inr x)
  | _ => none
theorem keyD_int {i : Int} : keyD (.int i) = some (.inl i) := rfl
theorem keyD_str {x : Str} : keyD (.str x) = some (.inr x) := rfl
def dkC : Option Cell → Option (List (Key × PyData))
  | some (.ob (.dK kvs)) => some kvs
  | _ => none
def dkG : Option (Option B) → Addr → Option (List (Key × PyData))
  | some (some (.gs G)), a => dkC (G a)
  | _, _ => none
def dkOf : Vl → En → Option (List (Key × PyData))
  | .ob (.dK kvs), _ => some kvs
  | .own i, e => match e[i]? with
    | some (some (.ob _ (.dK kvs))) => some kvs
    | _ => none
  | .gob n a, e => dkG e[n]? a
  | _, _ => none
theorem dk_gob {n : Nat} {a : Addr} {e : En} : dkOf (.gob n a) e = dkG e[n]? a := rfl
theorem dkG_gs {G : Gh} {a : Addr} : dkG (some (some (.gs G))) a = dkC (G a) := rfl
theorem dkC_dK {kvs : List (Key × PyData)} : dkC (some (.ob (.dK kvs))) = some kvs := rfl
def dkS : Option (Option B) → Option (List (Key × PyData))
  | some (some (.ob _ (.dK kvs))) => some kvs
  | _ => none
theorem dk_ob {kvs : List (Key × PyData)} {e : En} : dkOf (.ob (.dK kvs)) e = some kvs := rfl
theorem dk_own {i : Nat} {e : En} : dkOf (.own i) e = dkS e[i]? := by unfold dkOf dkS; rfl
theorem dkS_ob {t : Option Nat} {kvs : List (Key × PyData)} : dkS (some (some (.ob t (.dK kvs)))) = some kvs := rfl
section
variable {f : Fr} {td ty te : TE} {Ed Ey E : WE}
theorem Sy.dk {L e : En} {W σ : St} {Hz H : Hp} {b : Vl} {v : V} {kvs : List (Key × PyData)} (y : Sy f (tmp b L) (tmv b v W) e σ Hz H) (hv : Val f b v σ Hz) (h : dkOf b e = some kvs) : ∃ a ks, v = .ref a ∧ H a = some (.dK ks) ∧ KvR f.K Hz ks kvs := by
  cases b with
  | dat d' => cases h
  | ob o =>
    cases o with
    | dK ds =>
      cases h
      obtain ⟨a, ea, ⟨xs, h1, h2⟩, _⟩ := Sy.top y
      cases ea
      exact ⟨a, xs, rfl, h1, h2⟩
    | _ => cases h
  | own i =>
    rw [dk_own] at h
    generalize q : e[i]? = x at h
    unfold dkS at h
    split at h
    · cases h
      obtain ⟨a, e1, ⟨xs, h1, h2⟩, _⟩ := y.ob q
      have hv' : σ[i]? = some (some v) := hv
      rw [hv'] at e1
      cases e1
      exact ⟨a, xs, rfl, h1, h2⟩
    · cases h
  | gob n a =>
    have hv' : v = .ref a := hv
    subst hv'
    rw [dk_gob] at h
    generalize q : e[n]? = x at h
    unfold dkG at h
    split at h
    · rename_i G
      generalize q2 : G a = c at h
      unfold dkC at h
      split at h
      · cases h
        obtain ⟨ks, h1, h2⟩ := (Sy.gget (Sy.un (b := .gob n a) y) q q2).1
        exact ⟨a, ks, rfl, h1, h2⟩
      · cases h
    · cases h
def wDNewK (e : En) (P : Vl → En → Prop) : Prop := P (.ob (.dK [])) e
def wDGet (Ed Ey : WE) (e : En) (P : Vl → En → Prop) : Prop := Ed e fun b e1 => wFz Ey e1 fun d e2 => ob1 (keyD d) fun k => ob1 (dkOf b e2) fun kvs => ob1 (valD kvs k) fun d => P (.dat d) e2
def wDIn (neg : Bool) (Ey Ed : WE) (e : En) (P : Vl → En → Prop) : Prop := wFz Ey e fun d e1 => Ed e1 fun b e2 => ob1 (keyD d) fun k => ob1 (dkOf b e2) fun kvs => P (.dat (.bool (if neg then !(valD kvs k).isSome else (valD kvs k).isSome))) e2
def putS (P : Po) (j : Nat) (k : Key) (d : PyData) (e : En) : Option (Option B) → Prop
  | some (some (.ob t (.dK kvs))) => kvs.length ≤ 100000 ∧ P.nx (e.set j (some (.ob t (.dK (putD kvs k d)))))
  | _ => False
theorem putS_ob {P : Po} {j : Nat} {k : Key} {d : PyData} {e : En} {t : Option Nat} {kvs : List (Key × PyData)} : putS P j k d e (some (some (.ob t (.dK kvs)))) = (kvs.length ≤ 100000 ∧ P.nx (e.set j (some (.ob t (.dK (putD kvs k d)))))) := rfl
def wDPut (j : Nat) (Ey Ev : WE) (P : Po) (e : En) : Prop := wFz Ev e fun d e1 => wVar j e1 fun _ e1 => wFz Ey e1 fun dk e2 => ob1 (keyD dk) fun k => putS P j k d e2 e2[j]?
def wPairs : List (WE × WE) → En → (List (PyData × PyData) → En → Prop) → Prop
  | [], e, P => P [] e
  | (Ek, Ev) :: r, e, P => wFz Ek e fun k e1 => wFz Ev e1 fun v e2 => wPairs r e2 fun ps e3 => P ((k, v) :: ps) e3
inductive SP (f : Fr) : List (TE × TE) → List (WE × WE) → Prop
  | nil : SP f [] []
  | cons {tk tv : TE} {Ek Ev : WE} {trs : List (TE × TE)} {Es : List (WE × WE)} : SE f tk Ek → SE f tv Ev → SP f trs Es → SP f ((tk, tv) :: trs) ((Ek, Ev) :: Es)
theorem SP.run {trs : List (TE × TE)} {Es : List (WE × WE)} (h : SP f trs Es) : ∀ {L W e σ Hz H Post Q}, wPairs Es e Post → Sy f L W e σ Hz H →
    (∀ ps e' vs Hz' H', Post ps e' → Same Hz Hz' → Sy f L W e' σ Hz' H' → DpAll f.K Hz' (vs.map (·.1)) (ps.map (·.1)) → DpAll f.K Hz' (vs.map (·.2)) (ps.map (·.2)) → Q vs H') → tPairs trs σ H Q := by
  induction h with
  | nil => intro L W e σ Hz H Post Q w y k; exact k _ _ _ _ _ w same_refl y .nil .nil
  | cons h1 h2 _ ih =>
    intro L W e σ Hz H Post Q w y k
    exact fz_run h1 w y fun d1 e1 v1 Hz1 H1 w1 s1 y1 q1 => fz_run h2 w1 y1 fun d2 e2 v2 Hz2 H2 w2 s2 y2 q2 => ih w2 y2 fun ps e3 vs Hz3 H3 w3 s3 y3 q3 q4 =>
      k _ _ _ _ _ w3 (same_trans s1 (same_trans s2 s3)) y3 (.cons (dp_mono (same_trans s2 s3) _ _ q1) q3) (.cons (dp_mono s3 _ _ q2) q4)
def keysD : List (PyData × PyData) → Option (List (Key × PyData))
  | [] => some []
  | (k, v) :: r => match keyD k, keysD r with
    | some k, some r => some ((k, v) :: r)
    | _, _ => none
def wDisp (Es : List (WE × WE)) (e : En) (P : Vl → En → Prop) : Prop := wPairs Es e fun ps e1 => ob1 (keysD ps) fun kvs => ps.length ≤ 15 ∧ P (.ob (.dK (mergeD [] kvs))) e1
end
def keyT : PyData → Option NestedKey
  | .tuple ds => (keysN ds).map NestedKey.tup
  | _ => none
abbrev nk (a b : Int) : NestedKey := .tup [.num a, .num b]
theorem keyT_2 (a b : Int) : keyT (.tuple [.int a, .int b]) = some (nk a b) := by simp [keyT, keysN, keyN]
theorem nk_depth (a b : Int) : (nk a b).depth ≤ 8 := by simp [NestedKey.depth, NestedKey.depthAll]
def dnS (P : Program) (w : World) (x : Option (Option B)) (g : List (NestedKey × PyData) → Prop) : Prop := ∃ t kvs, x = some (some (.ob t (.dN P w kvs))) ∧ g kvs
theorem dnS_ob {P : Program} {w : World} {t : Option Nat} {kvs : List (NestedKey × PyData)} {g : List (NestedKey × PyData) → Prop} : dnS P w (some (some (.ob t (.dN P w kvs)))) g = g kvs := by
  unfold dnS
  apply propext
  constructor
  · rintro ⟨t', kvs', e, h⟩
    cases e
    exact h
  · intro h
    exact ⟨t, kvs, rfl, h⟩
section
variable {f : Fr} {P : Program} {w : World} {td ty te tx : TE} {Ed Ey E Ex : WE}
def wNNew (P : Program) (w : World) (e : En) (Q : Vl → En → Prop) : Prop := Q (.ob (.dN P w [])) e
def wNGet (P : Program) (w : World) (j : Nat) (Ey : WE) (e : En) (Q : Vl → En → Prop) : Prop := wVar j e fun _ e => wFz Ey e fun d e2 => ob1 (keyT d) fun k => k.depth ≤ 8 ∧ dnS P w e2[j]? fun kvs => ob1 (valD kvs k) fun d => Q (.dat d) e2
def wNIn (P : Program) (w : World) (neg : Bool) (Ey : WE) (j : Nat) (e : En) (Q : Vl → En → Prop) : Prop := wFz Ey e fun d e1 => wVar j e1 fun _ e2 => ob1 (keyT d) fun k => k.depth ≤ 8 ∧ dnS P w e2[j]? fun kvs => Q (.dat (.bool (if neg then !(valD kvs k).isSome else (valD kvs k).isSome))) e2
def wNPut (P : Program) (w : World) (j : Nat) (Ey Ev : WE) (Q : Po) (e : En) : Prop := wFz Ev e fun d e1 => wVar j e1 fun _ e1 => wFz Ey e1 fun dk e2 => ob1 (keyT dk) fun k => k.depth ≤ 8 ∧ ∃ t kvs, e2[j]? = some (some (.ob t (.dN P w kvs))) ∧ kvs.length ≤ 100000 ∧ Q.nx (e2.set j (some (.ob t (.dN P w (putD kvs k d)))))
def wNGet2 (P : Program) (w : World) (j : Nat) (Ey Ex : WE) (e : En) (Q : Vl → En → Prop) : Prop := dnS P w e[j]? fun _ => wFz Ey e fun d e2 => wFz Ex e2 fun dx e3 => ob1 (keyT d) fun k => k.depth ≤ 8 ∧ dnS P w e3[j]? fun kvs => Q (.dat ((valD kvs k).getD dx)) e3
end
def F_law : FSp := fun args P => ∃ ns : List Int, args = [some (.dat (.list (ns.map PyData.int)))] ∧ ns.length ≤ 63 ∧ P (.dat (.bool true)) [none]
theorem isRow_new {ns : List Int} {s : Int} (h : ns.length ≤ 63) : IsRow (.lst [.list (ns.map PyData.int), .int 0, .int s, .int 0]) := ⟨ns, 0, s, 0, rfl, h, Int.le_refl 0⟩
end DL


set_option Elab.async false
set_option linter.all false
set_option maxRecDepth 100000
set_option maxHeartbeats 4000000
namespace DL
open PySem L2 TG
section
variable {f : Fr} {te : TE} {E : WE} {tt tt1 : TT} {T T1 : WT} {wi wi1 : TI} {G G1 : WI} {g g1 : TG} {Gt Gt1 : WG} {sl sl1 : List Nat}
def wRep (Ea Eb : WE) (e : En) (P : Vl → En → Prop) : Prop := Ea e fun b1 e1 => wFz Eb e1 fun d e2 => ob1 (trk b1 e2) fun ds => match d with
  | .int k => (-(2 ^ 63) ≤ k ∧ k < 2 ^ 63) ∧ ds.length * k.toNat ≤ 100000 ∧ P (.ob (.lst (List.replicate k.toNat ds).flatten)) e2
  | _ => False
end
end DL


set_option Elab.async false
set_option linter.all false
set_option maxRecDepth 100000
set_option maxHeartbeats 4000000
namespace DL
open PySem L2 TG
def keysL : List PyData → Option (List Key)
  | [] => some []
  | d :: r => match keyD d, keysL r with
    | some k, some ks => some (k :: ks)
    | _, _ => none
theorem keysL_2 (a b : Int) : keysL [.int a, .int b] = some [.inl a, .inl b] := rfl
def dtOf : Vl → En → Option (List (List Key × PyData))
  | .ob (.dT kvs), _ => some kvs
  | .own i, e => match e[i]? with
    | some (some (.ob _ (.dT kvs))) => some kvs
    | _ => none
  | _, _ => none
def dtS : Option (Option B) → Option (List (List Key × PyData))
  | some (some (.ob _ (.dT kvs))) => some kvs
  | _ => none
theorem dt_own {i : Nat} {e : En} : dtOf (.own i) e = dtS e[i]? := by unfold dtOf dtS; rfl
theorem dt_ob {kvs : List (List Key × PyData)} {e : En} : dtOf (.ob (.dT kvs)) e = some kvs := rfl
theorem dtS_ob {t : Option Nat} {kvs : List (List Key × PyData)} : dtS (some (some (.ob t (.dT kvs)))) = some kvs := rfl
section
variable {f : Fr} {td tx : TE} {ta : TA} {Ed Ex : WE} {A : WA}
def wTGet2 (Ed : WE) (A : WA) (Ex : WE) (e : En) (P : Vl → En → Prop) : Prop := Ed e fun b e1 => ob1 (dtOf b e1) fun _ => A e1 fun ds e2 => ds.length ≤ 100000 ∧ wFz Ex e2 fun dx e3 => ob1 (keysL ds) fun k => ob1 (dtOf b e3) fun kvs => P (.dat ((valD kvs k).getD dx)) e3
end
section
end
def gIsB (neg : Bool) (d1 d2 : PyData) (P : Vl → Prop) : Prop := match d1, d2 with
  | .bool a, .bool b => P (.dat (.bool (if neg then !decide (a = b) else decide (a = b))))
  | _, _ => False
theorem eIsB (neg a b : Bool) (P : Vl → Prop) : gIsB neg (.bool a) (.bool b) P = P (.dat (.bool (if neg then !decide (a = b) else decide (a = b)))) := rfl
end DL


set_option Elab.async false
set_option linter.all false
set_option maxRecDepth 100000
set_option maxHeartbeats 4000000
namespace TG
open PySem PySem.Spec PyProof.Rows L2
section
variable {X : Cx}
end
end TG


set_option Elab.async false
set_option linter.all false
set_option maxRecDepth 100000
set_option maxHeartbeats 4000000
namespace TG
open PySem PySem.Spec PyProof.Rows L2 SrtO
section
variable {P : Program} {w : World} {A : Around} {E : Value → Shared → Prop} {s : Shared}
end
end TG


set_option Elab.async false
set_option linter.all false
set_option maxRecDepth 100000
set_option maxHeartbeats 4000000
namespace DL
open PySem L2 TG
def wCut (S U : WS) (P : Po) (e : En) : Prop := ∃ M : En → Prop, S { P with nx := M } e ∧ ∀ e', M e' → U P e'
theorem cut_use {S U : WS} {P : Po} {e : En} (M : En → Prop) (h : S { P with nx := M } e) (h' : ∀ e', M e' → U P e') : wCut S U P e := ⟨M, h, h'⟩
theorem ss_cut {f : Fr} {t u : TS} {S U : WS} (h1 : SS f t S) (h2 : SS f u U) : SS f (tSeq t u) (wCut S U) := ⟨fun {D P e σ Hz H} w y o => by
  obtain ⟨M, a, b⟩ := w
  exact h1.run a y ⟨fun p s1 y1 => h2.run (b _ p) y1 (o.mono s1), o.rt, o.bk, o.ct⟩⟩
def gSortT (d : PyData) (P : Vl → Prop) : Prop := match d with
  | .tuple ds => ob1 (intsD ds) fun ns => ∀ ns' : List Int, ns'.Perm ns → ns'.Pairwise (· ≤ ·) → P (.ob (.lst (ns'.map PyData.int)))
  | _ => False
theorem eSortT {ds : List PyData} {P : Vl → Prop} : gSortT (.tuple ds) P = ob1 (intsD ds) fun ns => ∀ ns' : List Int, ns'.Perm ns → ns'.Pairwise (· ≤ ·) → P (.ob (.lst (ns'.map PyData.int))) := rfl
def wListRg (E : WE) (e : En) (P : Vl → En → Prop) : Prop := wFz E e fun d e1 => match d with
  | .int n => (0 ≤ n ∧ n ≤ 100000) ∧ P (.ob (.lst (rangeD 0 n.toNat))) e1
  | _ => False
def wIfT (T A B : WT) (e : En) (P : Bool → En → Prop) : Prop := T e fun c e1 => if c = true then A e1 P else B e1 P
section
variable {f : Fr} {te : TE} {E : WE} {tt : TT} {T : WT} {wi : TI} {G : WI} {g : TG} {Gt : WG} {sl : List Nat}
end
end DL


set_option Elab.async false
set_option linter.all false
set_option maxRecDepth 100000
set_option maxHeartbeats 4000000
namespace TG
open PySem PySem.Spec PyProof.Rows L2
def IteS (z : Str) : It :=
  ⟨fun i H => i < z.cps.size, fun i H v H' => ∃ T c, v = .ref T ∧ H T = none ∧ H' = upd H T (.tup [.int (i : Nat), .str ⟨#[c]⟩]) ∧ z.cps[i]? = some c, fun i H => z.cps.size = i⟩
theorem strIter_at {h h' : Heap} {a : Addr} {ty : String} {x : Str} {t : Tok} {i : Nat} (y : h.IsStrIter a ty x t i) (k : ∀ o, h.get? a = some o → h'.get? a = some o) : h'.IsStrIter a ty x t i :=
  let ⟨o, ho, r⟩ := y; ⟨o, k o ho, r⟩
theorem drawsS {prog : Program} {w : World} {A : Around} (hh : A.handled = none) (it : Addr) (x : Str) (t : Tok) (ty : String) (hty : ty = "str_ascii_iterator" ∨ ty = "str_iterator") :
    Draws prog w A it [it] x.cps.size (fun i v => ∃ c u, x.cps[i]? = some c ∧ v = .str ⟨#[c]⟩ u) (fun i h => h.IsStrIter it ty x t i) := by
  rcases hty with e | e
  · rw [e]; exact Draws.strAscii hh it x t
  · rw [e]; exact Draws.strWide hh it x t
theorem turn_enumS {P : Program} {w : World} {K : PySem.W.Frag} {elts : List Expr} {kk : Nat} {tpos : Pos} (e it : Addr) (x : Str) (t : Tok) (ty : String) (hty : ty = "str_ascii_iterator" ∨ ty = "str_iterator") :
    Turn P w K (.Tuple elts kk tpos) (IteS x) [e, it] e (fun i h => (∃ old, IsEnum h e it ((i : Nat) : Int) old) ∧ h.IsStrIter it ty x t i ∧ e ≠ it) where
  mem := by simp
  obj := fun i h st b hb => by
    obtain ⟨⟨old, he⟩, ⟨o, ho, hc, hd⟩, _⟩ := st
    have e' : b = e ∨ b = it := by simpa using hb
    rcases e' with z | z
    · rw [z]; exact ⟨_, he, fun v q => nomatch q⟩
    · rw [z]; exact ⟨o, ho, fun v q => by rw [hd] at q; cases q⟩
  keep := fun i h h' st k => let ⟨⟨old, he⟩, hi, hne⟩ := st; ⟨⟨old, k e (by simp) _ he⟩, strIter_at hi fun o q => k it (by simp) o q, hne⟩
  item := by
    intro X hP hw hK hc i pins s σ H E I hf st hg
    subst hP hw hK
    obtain ⟨⟨old, he⟩, hit, hne⟩ := st
    have hel : e < s.heap.objs.size := Heap.lt_size he
    have hil : it < s.heap.objs.size := by obtain ⟨_, q, _⟩ := hit; exact Heap.lt_size q
    have D := drawsS (prog := X.prog) (w := X.w) (A := X.A.in1) (I.ok.hd hc) it x t ty hty
    refine wpAny_pyNext_enum_itemD D he hit hg hne (by simp [hne]) fun x' h' tk hP' ho hit' hT hsz hk => ?_
    obtain ⟨c, u, hcx, rfl⟩ := hP'
    refine ⟨_, rfl, wpAny_letOwnedTupleGo_enum (s := { s with heap := h', toks := tk + 1 }) ho fun h'' he' sb => ?_⟩
    have hT2 : h''.get? s.heap.objs.size = some { cls := .type "tuple", data := .seq #[.int i tk, .str ⟨#[c]⟩ u] } := (sb.2 _ (Nat.ne_of_gt hel)).trans hT
    have new : ObjOk X.prog X.w (upd H s.heap.objs.size (.tup [.int (i : Nat), .str ⟨#[c]⟩])) h'' s.heap.objs.size (.tup [.int (i : Nat), .str ⟨#[c]⟩]) :=
      ⟨by show 2 ≤ sizeLine; decide, [.int i tk, .str ⟨#[c]⟩ u], .cons ⟨_, rfl⟩ (.cons ⟨_, rfl⟩ .nil), ⟨_, hT2, rfl, _, rfl⟩⟩
    have I1 : Inv X pins σ (upd H s.heap.objs.size (.tup [.int (i : Nat), .str ⟨#[c]⟩])) { s with heap := h'', toks := tk + 1 } :=
      I.turnedNew (ch := [e, it]) (fun b ob hb q => (sb.2 b (fun z => hb (by simp [z]))).trans (hk b ob (fun z => hb (by simp [z])) (fun z => hb (by simp [z])) q)) hf (Nat.le_refl _) new
    refine ⟨.ref s.heap.objs.size, _, I1, rfl, ⟨_, c, rfl, I.hok.fresh (Nat.le_refl _), rfl, hcx⟩, ⟨⟨.str ⟨#[c]⟩ u, ?_⟩, strIter_at hit' fun o q => (sb.2 it (Ne.symm hne)).trans q, hne⟩, fun b hb => ?_⟩
    · have e1 : ((i + 1 : Nat) : Int) = (i : Int) + 1 := by omega
      rw [e1]; exact he'
    · have hb' : b < s.heap.objs.size := by
        have e' : b = e ∨ b = it := by simpa using hb
        rcases e' with z | z
        · rw [z]; exact hel
        · rw [z]; exact hil
      rw [upd_ne (Nat.ne_of_lt hb')]
      exact (hf b hb).1
  done := by
    intro X hP hw hK hc i pins s σ H E I hf st hg
    subst hP hw hK
    obtain ⟨⟨old, he⟩, hit, hne⟩ := st
    obtain ⟨f0, f1, f2, f3, f4, f5⟩ := hf it (by simp)
    have D := drawsS (prog := X.prog) (w := X.w) (A := X.A.in1) (I.ok.hd hc) it x t ty hty
    have hi : x.cps.size = i := hg
    rw [← hi] at hit
    exact wpAny_pyNext_enum_endD D he hit fun h' eb => ⟨rfl, I.turned (t' := s.toks) (fun b o hb q => eb b o hb q) f0 f1 f3 f4 f5⟩
  self := fun A i s Q E st h => let ⟨⟨_, he⟩, _⟩ := st; wpAny_pyIter_enum he h
def iEnumS (ta : TA) : TI := fun σ H R => ta σ H fun vs H1 => ∃ z, vs = [.str z] ∧ R (IteS z) H1
theorem pi_enumS {X : Cx} {e : Expr} {ta : TA} {p pos tpos : Pos} {elts : List Expr} {kk : Nat} (hg : Gl X "enumerate") (hm : X.mg "enumerate" = none) (ha : PA X [e] ta) (hs : starEach [e] X.env = [(false, eval e X.env)] := by rfl) :
    PI X (.Tuple elts kk tpos) (.Call (.Name "enumerate" p) [e] [] pos) (iEnumS ta) := by
  refine ⟨fun pins s σ H R I h => ?_⟩
  refine Call_ (ld_blt I hg hm boot_enumerate (PyProof.Rows.callWith_type1 (thn (ha.run pos pins s σ H _ I h) fun us s1 ⟨vs, H1, I1, r1, q1⟩ => ?_) hs rfl))
  obtain ⟨z, ex, q⟩ := q1
  subst ex
  cases r1 with
  | cons r rr =>
    cases rr
    obtain ⟨t, rfl⟩ := r
    refine call_enumerate_str fun h' he hit hsz hk => wpAny_pyIter_enum he ?_
    have I2 : Inv X pins σ H1 { s1 with heap := h' } := I1.kept (t' := s1.toks) hk
    have hty : strIterType z = "str_ascii_iterator" ∨ strIterType z = "str_iterator" := by
      unfold strIterType
      split
      · exact .inl rfl
      · exact .inr rfl
    refine ⟨s1.heap.objs.size + 1, [s1.heap.objs.size + 1, s1.heap.objs.size], _, _, H1, rfl, I2, turn_enumS (s1.heap.objs.size + 1) s1.heap.objs.size z t (strIterType z) hty, ⟨⟨.none, he⟩, hit, Nat.succ_ne_self _⟩, fun b hb => ?_, q⟩
    have e' : b = s1.heap.objs.size + 1 ∨ b = s1.heap.objs.size := by simpa using hb
    have hle : s1.heap.objs.size ≤ b := by
      rcases e' with z | z
      · rw [z]; exact Nat.le_add_right _ _
      · rw [z]; exact Nat.le_refl _
    exact I1.fpOk hle (I1.hok.fresh hle)
end TG


set_option Elab.async false
set_option linter.all false
set_option maxRecDepth 100000
set_option maxHeartbeats 4000000
namespace DL
open PySem L2 TG
variable {f : Fr} {te : TE} {E : WE}
def gAddS (d1 d2 : PyData) (P : Vl → Prop) : Prop := match d1, d2 with
  | .str i, .str j => i.length + j.length ≤ sizeLine ∧ P (.dat (.str (i ++ j)))
  | _, _ => False
theorem eAddS {i j : Str} {P : Vl → Prop} : gAddS (.str i) (.str j) P = (i.length + j.length ≤ sizeLine ∧ P (.dat (.str (i ++ j)))) := rfl
theorem sr_addS : SR f (fun x y H Q => ∃ i j, x = .str i ∧ y = .str j ∧ i.length + j.length ≤ sizeLine ∧ Q (.str (i ++ j)) H) gAddS := ⟨fun {L W e σ Hz H x y d1 d2 Post Q} r1 r2 s h k => by
  unfold gAddS at h
  split at h
  · cases r1
    cases r2
    exact ⟨_, _, rfl, rfl, h.1, k _ _ _ _ h.2 same_refl s (Dp.str _)⟩
  · exact h.elim⟩
def gInS (neg : Bool) (d1 d2 : PyData) (P : Vl → Prop) : Prop := match d1, d2 with
  | .str x, .str z => ∃ c, x = ⟨#[c]⟩ ∧ P (.dat (.bool (if neg then !decide (c ∈ z.cps.toList) else decide (c ∈ z.cps.toList))))
  | _, _ => False
theorem eInS {neg : Bool} {x z : Str} {P : Vl → Prop} : gInS neg (.str x) (.str z) P = (∃ c, x = ⟨#[c]⟩ ∧ P (.dat (.bool (if neg then !decide (c ∈ z.cps.toList) else decide (c ∈ z.cps.toList))))) := rfl
theorem sr_inS : SR f (fun x y H Q => ∃ (c : Nat) (z : Str), x = .str ⟨#[c]⟩ ∧ y = .str z ∧ Q (.bl (decide (c ∈ z.cps.toList))) H) (gInS false) := ⟨fun {L W e σ Hz H x y d1 d2 Post Q} r1 r2 s h k => by
  unfold gInS at h
  split at h
  · obtain ⟨c, rfl, h⟩ := h
    cases r1
    cases r2
    exact ⟨_, _, rfl, rfl, k _ _ _ _ h same_refl s (Dp.bl _)⟩
  · exact h.elim⟩
theorem sr_notInS : SR f (fun x y H Q => ∃ (c : Nat) (z : Str), x = .str ⟨#[c]⟩ ∧ y = .str z ∧ Q (.bl (!decide (c ∈ z.cps.toList))) H) (gInS true) := ⟨fun {L W e σ Hz H x y d1 d2 Post Q} r1 r2 s h k => by
  unfold gInS at h
  split at h
  · obtain ⟨c, rfl, h⟩ := h
    cases r1
    cases r2
    exact ⟨_, _, rfl, rfl, k _ _ _ _ h same_refl s (Dp.bl _)⟩
  · exact h.elim⟩
def gLenS (d : PyData) (P : Vl → Prop) : Prop := match d with
  | .str z => z.length ≤ sizeLine ∧ P (.dat (.int z.length))
  | _ => False
theorem eLenS {z : Str} {P : Vl → Prop} : gLenS (.str z) P = (z.length ≤ sizeLine ∧ P (.dat (.int z.length))) := rfl
theorem sc_lenS : SC f (fun xs H Q => ∃ z, xs = [.str z] ∧ z.length ≤ sizeLine ∧ Q (.int z.length) H) gLenS := ⟨fun {L W e σ Hz H x d Post Q} r s h k => by
  unfold gLenS at h
  split at h
  · cases r
    exact ⟨_, rfl, h.1, k _ _ _ _ h.2 same_refl s (Dp.int _)⟩
  · exact h.elim⟩
def wSlS (E : WE) (A B : WO) (e : En) (P : Vl → En → Prop) : Prop := wFz E e fun d e1 => A e1 fun lo e2 => B e2 fun hi e3 => match d with
  | .str z => z.length ≤ sizeLine ∧ P (.dat (.str (cutS z lo hi))) e3
  | _ => False
theorem se_slS {tl th : TO} {A B : WO} (h : SE f te E) (hl : SO f tl A) (hh : SO f th B) : SE f (tSl rSlS te tl th) (wSlS E A B) := ⟨fun {L W e σ Hz H Post Q} w y k =>
  fz_run h w y fun d e1 v Hz1 H1 w1 s1 y1 d1 => hl.run w1 y1 fun lo e2 Hz2 H2 w2 s2 y2 => hh.run w2 y2 fun hi e3 Hz3 H3 w3 s3 y3 => by
    split at w3
    · cases d1
      exact ⟨_, rfl, w3.1, k _ _ _ _ _ w3.2 (same_trans s1 (same_trans s2 s3)) y3 (Dp.str _)⟩
    · exact w3.elim⟩
def wI2 (g : Int → Int → V) (A : WA) (e : En) (P : Vl → En → Prop) : Prop := A e fun ds e1 => match ds with
  | [.int i, .int j] => P (.dat (vD (g i j))) e1
  | _ => False
def gMx (i j : Int) : V := .int (if j > i then j else i)
def gMn (i j : Int) : V := .int (if j < i then j else i)
def gGcd (i j : Int) : V := .int ((Nat.gcd i.natAbs j.natAbs : Nat) : Int)
theorem evd_mx {i j : Int} : vD (gMx i j) = .int (if j > i then j else i) := rfl
theorem evd_mn {i j : Int} : vD (gMn i j) = .int (if j < i then j else i) := rfl
theorem evd_gcd {i j : Int} : vD (gGcd i j) = .int ((Nat.gcd i.natAbs j.natAbs : Nat) : Int) := rfl
theorem se_gd {v : V} {d : PyData} (h : ∀ H, Dp f.K H v d) : SE f (tC v) (wC d) := ⟨fun w y k => k _ _ _ _ _ w same_refl y (h _)⟩
def sgD (z : Str) : List PyData := z.cps.toList.map fun c => .str ⟨#[c]⟩
theorem sgD_len (z : Str) : (sgD z).length = z.cps.size := by simp [sgD]
theorem sgD_get {z : Str} {i : Nat} {d : PyData} (h : (sgD z)[i]? = some d) : ∃ c, z.cps[i]? = some c ∧ d = .str ⟨#[c]⟩ := by
  unfold sgD at h
  rw [List.getElem?_map] at h
  cases hc : z.cps.toList[i]? with
  | none => rw [hc] at h; cases h
  | some c => rw [hc] at h; cases h; exact ⟨c, by rw [← hc]; simp, rfl⟩
theorem walk_enumS {K : PySem.W.Frag} {Hz : Hp} (z : Str) : Walk K (IteS z) Hz (enumD (sgD z)) where
  stop := fun H s => by show z.cps.size = _; rw [enumD_len, sgD_len]
  go := fun i H hi s => by rw [enumD_len, sgD_len] at hi; exact hi
  yld := fun i H x H' d s y e => by
    obtain ⟨T, c, rfl, h1, rfl, hc⟩ := y
    obtain ⟨dx, e1, rfl⟩ := enumD_get e
    obtain ⟨c', hc', rfl⟩ := sgD_get e1
    rw [hc] at hc'
    cases hc'
    exact .inr ⟨T, _, _, rfl, h1, rfl, rfl, .cons (.int _) (.cons (Dp.str _) .nil)⟩
def wIStr (E : WE) (e : En) (P : List PyData → En → Prop) : Prop := wFz E e fun d e1 => match d with
  | .str z => P (sgD z) e1
  | _ => False
def wIEnumS (E : WE) (e : En) (P : List PyData → En → Prop) : Prop := wFz E e fun d e1 => match d with
  | .str z => P (enumD (sgD z)) e1
  | _ => False
theorem si_enumS (h : SE f te E) : SI f (iEnumS (tCons te tNil)) (wIEnumS E) := ⟨fun {L W e σ Hz H Post R} w y k => fz_run h w y fun d e1 v Hz1 H1 h1 s1 y1 d1 => by
  split at h1
  · cases d1
    exact ⟨_, rfl, k _ _ _ _ _ h1 s1 y1 (walk_enumS _)⟩
  · exact h1.elim⟩
end DL


set_option Elab.async false
set_option linter.all false
set_option maxRecDepth 100000
set_option maxHeartbeats 4000000
namespace DL
open PySem L2 TG
variable {f : Fr} {te to : TE} {E Eo : WE}
def strsD : List PyData → Option (List Str)
  | [] => some []
  | .str i :: ds => (strsD ds).map (i :: ·)
  | _ :: _ => none
theorem strsD_map (ns : List Str) : strsD (ns.map PyData.str) = some ns := by
  induction ns with
  | nil => rfl
  | cons n ns ih => simp [strsD, ih]
def jnS (a : Str) (d2 : PyData) (P : Vl → En → Prop) (e2 : En) : Prop := match d2 with
  | .list ds => ob1 (strsD ds) fun ys => (ys.map (·.length)).sum + ys.length * a.length ≤ 16777216 ∧ P (.dat (.str (Txt.join a ys))) e2
  | .tuple ds => ob1 (strsD ds) fun ys => (ys.map (·.length)).sum + ys.length * a.length ≤ 16777216 ∧ P (.dat (.str (Txt.join a ys))) e2
  | _ => False
theorem eJnL {a : Str} {ds : List PyData} {P : Vl → En → Prop} {e2 : En} : jnS a (.list ds) P e2 = ob1 (strsD ds) fun ys => (ys.map (·.length)).sum + ys.length * a.length ≤ 16777216 ∧ P (.dat (.str (Txt.join a ys))) e2 := rfl
theorem eJnT {a : Str} {ds : List PyData} {P : Vl → En → Prop} {e2 : En} : jnS a (.tuple ds) P e2 = ob1 (strsD ds) fun ys => (ys.map (·.length)).sum + ys.length * a.length ≤ 16777216 ∧ P (.dat (.str (Txt.join a ys))) e2 := rfl
def wJoin (Eo E : WE) (e : En) (P : Vl → En → Prop) : Prop := wFz Eo e fun d1 e1 => match d1 with
  | .str a => wFz E e1 fun d2 e2 => jnS a d2 P e2
  | _ => False
def gStrI (d : PyData) (P : Vl → Prop) : Prop := match d with
  | .int i => i.natAbs.log2 < 1920 ∧ P (.dat (.str (toString i)))
  | _ => False
theorem eStrI {i : Int} {P : Vl → Prop} : gStrI (.int i) P = (i.natAbs.log2 < 1920 ∧ P (.dat (.str (toString i)))) := rfl
def gIntS (d : PyData) (P : Vl → Prop) : Prop := match d with
  | .str a => a.length ≤ 640 ∧ ob1 (PySem.intText? a) fun n => P (.dat (.int n))
  | _ => False
theorem eIntS {a : Str} {P : Vl → Prop} : gIntS (.str a) P = (a.length ≤ 640 ∧ ob1 (PySem.intText? a) fun n => P (.dat (.int n))) := rfl
theorem sc_intS : SC f (fun xs H Q => ∃ a n, xs = [.str a] ∧ PySem.intText? a = some n ∧ a.length ≤ 640 ∧ Q (.int n) H) gIntS := ⟨fun {L W e σ Hz H x d Post Q} r s h k => by
  unfold gIntS at h
  split at h
  · obtain ⟨h1, h⟩ := h
    obtain ⟨n, c, h⟩ := ob1_ex h
    cases r
    exact ⟨_, n, rfl, c, h1, k _ _ _ _ h same_refl s (Dp.int _)⟩
  · exact h.elim⟩
end DL


set_option Elab.async false
set_option linter.all false
set_option maxRecDepth 100000
set_option maxHeartbeats 4000000
namespace DL
open PySem PySem.Spec PyProof.Rows L2 TG
end DL


set_option Elab.async false
set_option linter.all false
set_option maxRecDepth 100000
set_option maxHeartbeats 4000000
namespace TG
open PySem L2
end TG


set_option Elab.async false
set_option linter.all false
set_option maxRecDepth 100000
set_option maxHeartbeats 4000000
namespace DL
open PySem L2 TG
theorem char_inj {a b : Char} (h : a.toNat = b.toNat) : a = b := by
  apply Char.ext
  apply UInt32.toNat_inj.mp
  exact h
theorem ofString_inj {s t : String} (h : Str.ofString s = Str.ofString t) : s = t := by
  rw [Str.ofString_eq_toList, Str.ofString_eq_toList] at h
  injection h with h
  have h2 : s.toList.map Char.toNat = t.toList.map Char.toNat := by
    have := congrArg Array.toList h
    simpa using this
  have inj : ∀ {l m : List Char}, l.map Char.toNat = m.map Char.toNat → l = m := by
    intro l
    induction l with
    | nil => intro m h; cases m with
      | nil => rfl
      | cons _ _ => cases h
    | cons a l ih => intro m h; cases m with
      | nil => cases h
      | cons b m =>
        simp only [List.map_cons, List.cons.injEq] at h
        rw [char_inj h.1, ih h.2]
  exact String.toList_inj.mp (inj h2)
theorem beq_ofString (s t : String) : (Str.ofString s == Str.ofString t) = (s == t) := by
  by_cases h : s = t
  · subst h
    simp
  · rw [beq_eq_false_iff_ne.mpr h, beq_eq_false_iff_ne.mpr (fun c => h (ofString_inj c))]
theorem PF.get {K : PySem.W.Frag} {Hz : Hp} {fs : List (String × PyData)} {vs : List (Str × V)} (h : PF K Hz fs vs) {s : String} {d : PyData} (e : fs.lookup s = some d) : ∃ v, vs.lookup (Str.ofString s) = some v ∧ Dp K Hz v d := by
  induction h with
  | nil => cases e
  | @cons t v d' fs vs q p ih =>
    rw [List.lookup_cons] at e ⊢
    rw [beq_ofString]
    cases c : s == t with
    | true =>
      rw [c] at e
      cases e
      exact ⟨v, rfl, q⟩
    | false =>
      rw [c] at e
      exact ih e
theorem PF.no {K : PySem.W.Frag} {Hz : Hp} {fs : List (String × PyData)} {vs : List (Str × V)} (h : PF K Hz fs vs) {s : String} (e : fs.lookup s = none) : vs.lookup (Str.ofString s) = none := by
  induction h with
  | nil => rfl
  | @cons t v d' fs vs q p ih =>
    rw [List.lookup_cons] at e ⊢
    rw [beq_ofString]
    cases c : s == t with
    | true => rw [c] at e; cases e
    | false => rw [c] at e; exact ih e
def putA (s : String) (d : PyData) : List (String × PyData) → List (String × PyData)
  | [] => [(s, d)]
  | (t, x) :: r => if t = s then (t, d) :: r else (t, x) :: putA s d r
theorem putA_nil {s : String} {d : PyData} : putA s d [] = [(s, d)] := rfl
theorem putA_cons {s t : String} {d x : PyData} {r : List (String × PyData)} : putA s d ((t, x) :: r) = if t = s then (t, d) :: r else (t, x) :: putA s d r := rfl
theorem PF.len {K : PySem.W.Frag} {Hz : Hp} {fs : List (String × PyData)} {vs : List (Str × V)} (h : PF K Hz fs vs) : vs.length = fs.length := by
  induction h with
  | nil => rfl
  | cons _ _ ih => rw [List.length_cons, List.length_cons, ih]
def unp : PyData → Option Addr
  | .dict [(.none, .int (.ofNat a))] => some a
  | _ => none
theorem unp_ptr {a : Addr} : unp (ptr a) = some a := rfl
def ptrK (P : Addr → En → Prop) (b : Vl) (e : En) : Prop := match b with
  | .dat d => ob1 (unp d) fun a => P a e
  | .gob _ a => P a e
  | _ => False
theorem ptrK_dat {P : Addr → En → Prop} {d : PyData} {e : En} : ptrK P (.dat d) e = ob1 (unp d) fun a => P a e := rfl
theorem ptrK_gob {P : Addr → En → Prop} {n : Nat} {a : Addr} {e : En} : ptrK P (.gob n a) e = P a e := rfl
def insAt (C : Addr) (x : Option Cell) (g : List (String × PyData) → Prop) : Prop := ∃ fs, x = some (.ins C fs) ∧ g fs
theorem insAt_ins {C : Addr} {fs : List (String × PyData)} {g : List (String × PyData) → Prop} : insAt C (some (.ins C fs)) g = g fs := by
  apply propext
  constructor
  · rintro ⟨fs', e, h⟩
    cases e
    exact h
  · intro h
    exact ⟨fs, rfl, h⟩
def lstAt (x : Option Cell) (g : List PyData → Prop) : Prop := match x with
  | some (.ob (.lst ds)) => g ds
  | _ => False
theorem lstAt_lst {ds : List PyData} {g : List PyData → Prop} : lstAt (some (.ob (.lst ds))) g = g ds := rfl
def dnAt (P : Program) (w : World) (x : Option Cell) (g : List (NestedKey × PyData) → Prop) : Prop := ∃ kvs, x = some (.ob (.dN P w kvs)) ∧ g kvs
theorem dnAt_dN {P : Program} {w : World} {kvs : List (NestedKey × PyData)} {g : List (NestedKey × PyData) → Prop} : dnAt P w (some (.ob (.dN P w kvs))) g = g kvs := by
  apply propext
  constructor
  · rintro ⟨fs', e, h⟩
    cases e
    exact h
  · intro h
    exact ⟨kvs, rfl, h⟩
def dkAt (x : Option Cell) (g : List (Key × PyData) → Prop) : Prop := match x with
  | some (.ob (.dK kvs)) => g kvs
  | _ => False
theorem dkAt_dK {kvs : List (Key × PyData)} {g : List (Key × PyData) → Prop} : dkAt (some (.ob (.dK kvs))) g = g kvs := rfl
section
variable {f : Fr} {te td ty tx : TE} {E Ed Ey Ex : WE} {ta : TA} {A : WA}
def wFld (n : Nat) (C : Addr) (s : String) (E : WE) (e : En) (P : Vl → En → Prop) : Prop := E e (ptrK fun a e1 => gsAt (fun G => insAt C (G a) fun fs => ob1 (fs.lookup s) fun d => P (.dat d) e1) e1[n]?)
def wDr (n : Nat) (E : WE) (e : En) (P : Vl → En → Prop) : Prop := E e (ptrK fun a e1 => P (.gob n a) e1)
def toGK (n : Nat) (P : Vl → En → Prop) (b : Vl) (e1 : En) : Prop := match b with
  | .ob o => gsAt (fun G => ∀ p, G p = none → P (.dat (ptr p)) (e1.set n (some (.gs (upG G p (.ob o)))))) e1[n]?
  | .dat d => P (.dat d) e1
  | _ => False
theorem toGK_ob {n : Nat} {P : Vl → En → Prop} {o : Ob} {e1 : En} : toGK n P (.ob o) e1 = gsAt (fun G => ∀ p, G p = none → P (.dat (ptr p)) (e1.set n (some (.gs (upG G p (.ob o)))))) e1[n]? := rfl
theorem toGK_dat {n : Nat} {P : Vl → En → Prop} {d : PyData} {e1 : En} : toGK n P (.dat d) e1 = P (.dat d) e1 := rfl
def wToG (n : Nat) (E : WE) (e : En) (P : Vl → En → Prop) : Prop := E e (toGK n P)
def wSFld (n : Nat) (C : Addr) (s : String) (E Eo : WE) (P : Po) (e : En) : Prop := wFz E e fun d e1 => Eo e1 (ptrK fun a e2 => gsAt (fun G => insAt C (G a) fun fs => fs.length < 1000 ∧ P.nx (e2.set n (some (.gs (upG G a (.ins C (putA s d fs))))))) e2[n]?)
def wAppG (n : Nat) (Ed E : WE) (e : En) (P : Vl → En → Prop) : Prop := Ed e (ptrK fun a e1 => gsAt (fun G => lstAt (G a) fun _ => wFz E e1 fun d e2 => gsAt (fun G' => lstAt (G' a) fun ds => ds.length ≤ 10000000 ∧ P (.dat .none) (e2.set n (some (.gs (upG G' a (.ob (.lst (ds ++ [d])))))))) e2[n]?) e1[n]?)
variable {P : Program} {w : World}
def wNGetG (P : Program) (w : World) (n : Nat) (Ed Ey : WE) (e : En) (Q : Vl → En → Prop) : Prop := Ed e (ptrK fun a e1 => wFz Ey e1 fun d e2 => ob1 (keyT d) fun k => k.depth ≤ 8 ∧ gsAt (fun G => dnAt P w (G a) fun kvs => ob1 (valD kvs k) fun d => Q (.dat d) e2) e2[n]?)
def wNInG (P : Program) (w : World) (n : Nat) (neg : Bool) (Ey Ed : WE) (e : En) (Q : Vl → En → Prop) : Prop := wFz Ey e fun d e1 => Ed e1 (ptrK fun a e2 => ob1 (keyT d) fun k => k.depth ≤ 8 ∧ gsAt (fun G => dnAt P w (G a) fun kvs => Q (.dat (.bool (if neg then !(valD kvs k).isSome else (valD kvs k).isSome))) e2) e2[n]?)
def wNPutG (P : Program) (w : World) (n : Nat) (Ed Ey Ev : WE) (Q : Po) (e : En) : Prop := wFz Ev e fun d e1 => Ed e1 (ptrK fun a e2 => wFz Ey e2 fun dk e3 => ob1 (keyT dk) fun k => k.depth ≤ 8 ∧ gsAt (fun G => dnAt P w (G a) fun kvs => kvs.length ≤ 10000000 ∧ Q.nx (e3.set n (some (.gs (upG G a (.ob (.dN P w (putD kvs k d)))))))) e3[n]?)
def wDPutG (n : Nat) (Ed Ey Ev : WE) (Q : Po) (e : En) : Prop := wFz Ev e fun d e1 => Ed e1 (ptrK fun a e2 => wFz Ey e2 fun dk e3 => ob1 (keyD dk) fun k => gsAt (fun G => dkAt (G a) fun kvs => kvs.length ≤ 10000000 ∧ Q.nx (e3.set n (some (.gs (upG G a (.ob (.dK (putD kvs k d)))))))) e3[n]?)
def wNDisp (P : Program) (w : World) (Ek Ev : WE) (e : En) (Q : Vl → En → Prop) : Prop := wFz Ek e fun dk e1 => wFz Ev e1 fun dv e2 => ob1 (keyT dk) fun k => k.depth ≤ 8 ∧ Q (.ob (.dN P w [(k, dv)])) e2
variable {F : GSp} {XE : XK}
def wMeth (F : GSp) (n : Nat) (C : Addr) (m : String) (Eo : WE) (A : WA) (e : En) (P : Vl → En → Prop) : Prop := Eo e (ptrK fun a e1 => gsAt (fun G => insAt C (G a) fun fs => fs.lookup m = none ∧ A e1 fun ds e2 => gsAt (fun G => F (dats (ptr a :: ds)) G fun b _ G' => notOwn b = true ∧ P b (e2.set n (some (.gs G')))) e2[n]?) e1[n]?)
def wMake (F : GSp) (n : Nat) (C : Addr) (A : WA) (e : En) (P : Vl → En → Prop) : Prop := A e fun ds e1 => gsAt (fun G => ∀ x, G x = none → F (dats (ptr x :: ds)) (upG G x (.ins C [])) fun b _ G' => b = .dat .none ∧ P (.dat (ptr x)) (e1.set n (some (.gs G')))) e1[n]?
end
end DL


set_option Elab.async false
set_option linter.all false
set_option maxRecDepth 100000
set_option maxHeartbeats 4000000
namespace DL
open PySem L2 TG
theorem WW : (((((((((type_of% @DL.wSeq.eq_1) ∧ (type_of% @DL.wIfS.eq_1)) ∧ ((type_of% @DL.wAsg.eq_1) ∧ (type_of% @DL.wRet.eq_1))) ∧ (((type_of% @DL.rtK_dat) ∧ (type_of% @DL.rtK_ob)) ∧ ((type_of% @DL.rtK_own) ∧ (type_of% @DL.rtK_gob)))) ∧ ((((type_of% @DL.rtS_dat) ∧ (type_of% @DL.rtS_ob)) ∧ ((type_of% @DL.wDrop.eq_1) ∧ (type_of% @DL.wVar.eq_1))) ∧ (((type_of% @DL.vrS_dat) ∧ (type_of% @DL.vrS_ob)) ∧ ((type_of% @DL.chK_bool) ∧ ((type_of% @DL.unK_int) ∧ (type_of% @DL.eI0)))))) ∧ (((((type_of% @DL.eI) ∧ (type_of% @DL.eInD)) ∧ ((type_of% @DL.eInL) ∧ (type_of% @DL.eInT))) ∧ (((type_of% @DL.eIxL) ∧ (type_of% @DL.eIxT)) ∧ ((type_of% @DL.eIx1) ∧ (type_of% @DL.eIx2)))) ∧ ((((type_of% @DL.eIxS) ∧ (type_of% @DL.eIsN)) ∧ ((type_of% @DL.eCat) ∧ (type_of% @DL.eCatT))) ∧ (((type_of% @DL.eLen_list) ∧ (type_of% @DL.eTupOf_list)) ∧ ((type_of% @DL.eListOf_list) ∧ ((type_of% @DL.eLen_tuple) ∧ (type_of% @DL.eTupOf_tuple))))))) ∧ ((((((type_of% @DL.eListOf_tuple) ∧ (type_of% @DL.eSum)) ∧ ((type_of% @DL.eMax) ∧ (type_of% @DL.eMin))) ∧ (((type_of% @DL.eAll) ∧ (type_of% @DL.eAny)) ∧ ((type_of% @DL.eSorted) ∧ (type_of% @DL.eSortSet)))) ∧ ((((type_of% @DL.eInt_int) ∧ (type_of% @DL.eInt_bool)) ∧ ((type_of% @DL.eAbs) ∧ (type_of% @DL.ety_none))) ∧ (((type_of% @DL.eno_none) ∧ (type_of% @DL.efl_none)) ∧ ((type_of% @DL.ety_bool) ∧ ((type_of% @DL.eno_bool) ∧ (type_of% @DL.efl_bool)))))) ∧ (((((type_of% @DL.ety_int) ∧ (type_of% @DL.eno_int)) ∧ ((type_of% @DL.efl_int) ∧ (type_of% @DL.ety_str))) ∧ (((type_of% @DL.eno_str) ∧ (type_of% @DL.efl_str)) ∧ ((type_of% @DL.ety_list) ∧ ((type_of% @DL.eno_list) ∧ (type_of% @DL.efl_list))))) ∧ ((((type_of% @DL.ety_tuple) ∧ (type_of% @DL.eno_tuple)) ∧ ((type_of% @DL.efl_tuple) ∧ (type_of% @DL.etr_none))) ∧ (((type_of% @DL.etr_bool) ∧ (type_of% @DL.etr_int)) ∧ ((type_of% @DL.etr_list) ∧ ((type_of% @DL.etr_tuple) ∧ (type_of% @DL.evd_non)))))))) ∧ (((((((type_of% @DL.evd_bl) ∧ (type_of% @DL.evd_int)) ∧ ((type_of% @DL.evd_str) ∧ (type_of% @DL.etk_ob))) ∧ (((type_of% @DL.ix_1_0) ∧ (type_of% @DL.ix_2_0)) ∧ ((type_of% @DL.ix_2_1) ∧ (type_of% @DL.ix_3_0)))) ∧ ((((type_of% @DL.ix_3_1) ∧ (type_of% @DL.ix_3_2)) ∧ ((type_of% @DL.ix_4_0) ∧ (type_of% @DL.ix_4_1))) ∧ (((type_of% @DL.ix_4_2) ∧ (type_of% @DL.ix_4_3)) ∧ ((type_of% @DL.wRep.eq_1) ∧ ((type_of% @DL.wNNew.eq_1) ∧ (type_of% @DL.wNGet.eq_1)))))) ∧ (((((type_of% @DL.wNIn.eq_1) ∧ (type_of% @DL.wNPut.eq_1)) ∧ ((type_of% @DL.wNGet2.eq_1) ∧ (type_of% @DL.dnS_ob))) ∧ (((type_of% @DL.keyT_2) ∧ (type_of% @DL.eIsB)) ∧ ((type_of% @DL.wTGet2.eq_1) ∧ (type_of% @DL.dt_own)))) ∧ ((((type_of% @DL.dt_ob) ∧ (type_of% @DL.dtS_ob)) ∧ ((type_of% @DL.keysL_2) ∧ (type_of% @DL.nk_depth))) ∧ (((type_of% @DL.wDNewK.eq_1) ∧ (type_of% @DL.wDGet.eq_1)) ∧ ((type_of% @DL.wDIn.eq_1) ∧ ((type_of% @DL.wDPut.eq_1) ∧ (type_of% @DL.putS_ob))))))) ∧ ((((((type_of% @DL.wPairs.eq_1) ∧ (type_of% @DL.wPairs.eq_2)) ∧ ((type_of% @DL.wDisp.eq_1) ∧ (type_of% @DL.keysD.eq_1))) ∧ (((type_of% @DL.keysD.eq_2) ∧ (type_of% @DL.keyD_int)) ∧ ((type_of% @DL.keyD_str) ∧ (type_of% @DL.dk_own)))) ∧ ((((type_of% @DL.dk_ob) ∧ (type_of% @DL.dkS_ob)) ∧ ((type_of% @DL.at_0) ∧ (type_of% @DL.at_1))) ∧ (((type_of% @DL.at_2) ∧ (type_of% @DL.at_3)) ∧ ((type_of% @DL.wC.eq_1) ∧ ((type_of% @DL.wOp.eq_1) ∧ (type_of% @DL.wB.eq_1)))))) ∧ (((((type_of% @DL.wAnd.eq_1) ∧ (type_of% @DL.wOr.eq_1)) ∧ ((type_of% @DL.wNot.eq_1) ∧ (type_of% @DL.wTru.eq_1))) ∧ (((type_of% @DL.wAndV.eq_1) ∧ (type_of% @DL.wOrV.eq_1)) ∧ ((type_of% @DL.wIf.eq_1) ∧ ((type_of% @DL.wChain.eq_1) ∧ (type_of% @DL.wUn.eq_1))))) ∧ ((((type_of% @DL.wTup.eq_1) ∧ (type_of% @DL.wLst.eq_1)) ∧ ((type_of% @DL.wNil.eq_1) ∧ (type_of% @DL.wCons.eq_1))) ∧ (((type_of% @DL.wStar.eq_1) ∧ (type_of% @DL.wFz.eq_1)) ∧ ((type_of% @DL.fzK_dat) ∧ ((type_of% @DL.fzK_lst) ∧ (type_of% @DL.fzK_own))))))))) ∧ ((((((((type_of% @DL.fzS_dat) ∧ (type_of% @DL.fzS_lst)) ∧ ((type_of% @DL.bK_bool) ∧ (type_of% @DL.wC1.eq_1))) ∧ (((type_of% @DL.wIsi.eq_1) ∧ (type_of% @DL.wIsi2.eq_1)) ∧ ((type_of% @DL.nm_dat) ∧ (type_of% @DL.nm_ob)))) ∧ ((((type_of% @DL.nm_gob) ∧ (type_of% @DL.nm_own)) ∧ ((type_of% @DL.nmS_dat) ∧ (type_of% @DL.nmS_ob))) ∧ (((type_of% @DL.wGNil.eq_1) ∧ (type_of% @DL.wGNil.eq_2)) ∧ ((type_of% @DL.wGCons.eq_1) ∧ ((type_of% @DL.wGCons.eq_2) ∧ (type_of% @DL.wGTup.eq_1)))))) ∧ (((((type_of% @DL.wGSub.eq_1) ∧ (type_of% @DL.wGSub.eq_2)) ∧ ((type_of% @DL.wPar.eq_1) ∧ (type_of% @DL.wPar3.eq_1))) ∧ (((type_of% @DL.wAugI.eq_1) ∧ (type_of% @DL.wApp.eq_1)) ∧ ((type_of% @DL.wExt.eq_1) ∧ (type_of% @DL.wPop.eq_1)))) ∧ ((((type_of% @DL.wSlT.eq_1) ∧ (type_of% @DL.wSlL.eq_1)) ∧ ((type_of% @DL.wNoPart.eq_1) ∧ (type_of% @DL.wPart.eq_1))) ∧ (((type_of% @DL.wCall.eq_1) ∧ (type_of% @DL.wCallO.eq_1)) ∧ ((type_of% @DL.gEq.eq_1) ∧ ((type_of% @DL.gNe.eq_1) ∧ (type_of% @DL.wIList.eq_1))))))) ∧ ((((((type_of% @DL.wITup.eq_1) ∧ (type_of% @DL.wIRng1.eq_1)) ∧ ((type_of% @DL.wIRng2.eq_1) ∧ (type_of% @DL.wIEnumT.eq_1))) ∧ (((type_of% @DL.wIEnum.eq_1) ∧ (type_of% @DL.wIZip.eq_1)) ∧ ((type_of% @DL.cont_dat) ∧ (type_of% @DL.cont_lst)))) ∧ ((((type_of% @DL.cont_own) ∧ (type_of% @DL.cont_gob)) ∧ ((type_of% @DL.contG_gs) ∧ (type_of% @DL.contC_lst))) ∧ (((type_of% @DL.dk_gob) ∧ (type_of% @DL.dkG_gs)) ∧ ((type_of% @DL.dkC_dK) ∧ ((type_of% @DL.contS_dat) ∧ (type_of% @DL.contS_lst)))))) ∧ (((((type_of% @DL.ob1_some) ∧ (type_of% @DL.ob1_none)) ∧ ((type_of% @DL.wYes.eq_1) ∧ (type_of% @DL.wNotT.eq_1))) ∧ (((type_of% @DL.wNotV.eq_1) ∧ (type_of% @DL.wNext.eq_1)) ∧ ((type_of% @DL.wNever.eq_1) ∧ ((type_of% @DL.wBreak.eq_1) ∧ (type_of% @DL.wCont.eq_1))))) ∧ ((((type_of% @DL.wRetN.eq_1) ∧ (type_of% @DL.shaped_int)) ∧ ((type_of% @DL.shaped_str) ∧ (type_of% @DL.shaped_bool))) ∧ (((type_of% @DL.shaped_none) ∧ (type_of% @DL.eqv_int)) ∧ ((type_of% @DL.eqv_str) ∧ ((type_of% @DL.eqv_bool) ∧ (type_of% @DL.eqv_nn)))))))) ∧ (((((((type_of% @DL.shaped_nil) ∧ (type_of% @DL.shaped_nilT)) ∧ ((type_of% @DL.eqv_lnil) ∧ (type_of% @DL.eqv_tnil))) ∧ (((type_of% @DL.ept_none) ∧ (type_of% @DL.ept_bool)) ∧ ((type_of% @DL.ept_int) ∧ (type_of% @DL.ept_str)))) ∧ ((((type_of% @DL.ept_list) ∧ (type_of% @DL.ept_tuple)) ∧ ((type_of% @DL.ept_dict) ∧ (type_of% @DL.isPtr_ptr))) ∧ (((type_of% @DL.gsAt_gs) ∧ (type_of% @DL.retG_nx)) ∧ ((type_of% @DL.retG_rtD) ∧ ((type_of% @DL.retG_rtO) ∧ (type_of% @DL.wCallG.eq_1)))))) ∧ (((((type_of% @DL.insAt_ins) ∧ (type_of% @DL.lstAt_lst)) ∧ ((type_of% @DL.dnAt_dN) ∧ (type_of% @DL.dkAt_dK))) ∧ (((type_of% @DL.ptrK_dat) ∧ (type_of% @DL.ptrK_gob)) ∧ ((type_of% @DL.unp_ptr) ∧ (type_of% @DL.wFld.eq_1)))) ∧ ((((type_of% @DL.wDr.eq_1) ∧ (type_of% @DL.toGK_ob)) ∧ ((type_of% @DL.toGK_dat) ∧ (type_of% @DL.wToG.eq_1))) ∧ (((type_of% @DL.wSFld.eq_1) ∧ (type_of% @DL.wAppG.eq_1)) ∧ ((type_of% @DL.wNGetG.eq_1) ∧ ((type_of% @DL.wNInG.eq_1) ∧ (type_of% @DL.wNPutG.eq_1))))))) ∧ ((((((type_of% @DL.wDPutG.eq_1) ∧ (type_of% @DL.wMeth.eq_1)) ∧ ((type_of% @DL.wMake.eq_1) ∧ (type_of% @DL.wNDisp.eq_1))) ∧ (((type_of% @DL.putA_nil) ∧ (type_of% @DL.putA_cons)) ∧ ((type_of% @DL.upG_same) ∧ (type_of% @DL.upG_upG)))) ∧ ((((type_of% @DL.retP_nx) ∧ (type_of% @DL.retP_rtD)) ∧ ((type_of% @DL.retP_rtO) ∧ (type_of% @DL.outs_nil))) ∧ (((type_of% @DL.outs_cons) ∧ (type_of% @DL.out1_dat)) ∧ ((type_of% @DL.out1_none) ∧ ((type_of% @DL.out1_ob) ∧ (type_of% @DL.out0.eq_1)))))) ∧ (((((type_of% @DL.out0.eq_2) ∧ (type_of% @DL.dats.eq_1)) ∧ ((type_of% @DL.notOwn_dat) ∧ (type_of% @DL.notOwn_ob))) ∧ (((type_of% @DL.isT.eq_1) ∧ (type_of% @DL.wipeE.eq_1)) ∧ ((type_of% @DL.wipeE.eq_2) ∧ ((type_of% @DL.back.eq_1) ∧ (type_of% @DL.back.eq_2))))) ∧ ((((type_of% @DL.cast_0) ∧ (type_of% @DL.cast_1)) ∧ ((type_of% @DL.cast_2) ∧ (type_of% @DL.cast_3))) ∧ (((type_of% @DL.cast_4) ∧ (type_of% @DL.cast_5)) ∧ ((type_of% @DL.cast_6) ∧ ((type_of% @DL.cast_7) ∧ (type_of% @DL.cast_8)))))))))) := ⟨⟨⟨⟨⟨⟨⟨⟨@DL.wSeq.eq_1, @DL.wIfS.eq_1⟩, ⟨@DL.wAsg.eq_1, @DL.wRet.eq_1⟩⟩, ⟨⟨@DL.rtK_dat, @DL.rtK_ob⟩, ⟨@DL.rtK_own, @DL.rtK_gob⟩⟩⟩, ⟨⟨⟨@DL.rtS_dat, @DL.rtS_ob⟩, ⟨@DL.wDrop.eq_1, @DL.wVar.eq_1⟩⟩, ⟨⟨@DL.vrS_dat, @DL.vrS_ob⟩, ⟨@DL.chK_bool, ⟨@DL.unK_int, @DL.eI0⟩⟩⟩⟩⟩, ⟨⟨⟨⟨@DL.eI, @DL.eInD⟩, ⟨@DL.eInL, @DL.eInT⟩⟩, ⟨⟨@DL.eIxL, @DL.eIxT⟩, ⟨@DL.eIx1, @DL.eIx2⟩⟩⟩, ⟨⟨⟨@DL.eIxS, @DL.eIsN⟩, ⟨@DL.eCat, @DL.eCatT⟩⟩, ⟨⟨@DL.eLen_list, @DL.eTupOf_list⟩, ⟨@DL.eListOf_list, ⟨@DL.eLen_tuple, @DL.eTupOf_tuple⟩⟩⟩⟩⟩⟩, ⟨⟨⟨⟨⟨@DL.eListOf_tuple, @DL.eSum⟩, ⟨@DL.eMax, @DL.eMin⟩⟩, ⟨⟨@DL.eAll, @DL.eAny⟩, ⟨@DL.eSorted, @DL.eSortSet⟩⟩⟩, ⟨⟨⟨@DL.eInt_int, @DL.eInt_bool⟩, ⟨@DL.eAbs, @DL.ety_none⟩⟩, ⟨⟨@DL.eno_none, @DL.efl_none⟩, ⟨@DL.ety_bool, ⟨@DL.eno_bool, @DL.efl_bool⟩⟩⟩⟩⟩, ⟨⟨⟨⟨@DL.ety_int, @DL.eno_int⟩, ⟨@DL.efl_int, @DL.ety_str⟩⟩, ⟨⟨@DL.eno_str, @DL.efl_str⟩, ⟨@DL.ety_list, ⟨@DL.eno_list, @DL.efl_list⟩⟩⟩⟩, ⟨⟨⟨@DL.ety_tuple, @DL.eno_tuple⟩, ⟨@DL.efl_tuple, @DL.etr_none⟩⟩, ⟨⟨@DL.etr_bool, @DL.etr_int⟩, ⟨@DL.etr_list, ⟨@DL.etr_tuple, @DL.evd_non⟩⟩⟩⟩⟩⟩⟩, ⟨⟨⟨⟨⟨⟨@DL.evd_bl, @DL.evd_int⟩, ⟨@DL.evd_str, @DL.etk_ob⟩⟩, ⟨⟨@DL.ix_1_0, @DL.ix_2_0⟩, ⟨@DL.ix_2_1, @DL.ix_3_0⟩⟩⟩, ⟨⟨⟨@DL.ix_3_1, @DL.ix_3_2⟩, ⟨@DL.ix_4_0, @DL.ix_4_1⟩⟩, ⟨⟨@DL.ix_4_2, @DL.ix_4_3⟩, ⟨@DL.wRep.eq_1, ⟨@DL.wNNew.eq_1, @DL.wNGet.eq_1⟩⟩⟩⟩⟩, ⟨⟨⟨⟨@DL.wNIn.eq_1, @DL.wNPut.eq_1⟩, ⟨@DL.wNGet2.eq_1, @DL.dnS_ob⟩⟩, ⟨⟨@DL.keyT_2, @DL.eIsB⟩, ⟨@DL.wTGet2.eq_1, @DL.dt_own⟩⟩⟩, ⟨⟨⟨@DL.dt_ob, @DL.dtS_ob⟩, ⟨@DL.keysL_2, @DL.nk_depth⟩⟩, ⟨⟨@DL.wDNewK.eq_1, @DL.wDGet.eq_1⟩, ⟨@DL.wDIn.eq_1, ⟨@DL.wDPut.eq_1, @DL.putS_ob⟩⟩⟩⟩⟩⟩, ⟨⟨⟨⟨⟨@DL.wPairs.eq_1, @DL.wPairs.eq_2⟩, ⟨@DL.wDisp.eq_1, @DL.keysD.eq_1⟩⟩, ⟨⟨@DL.keysD.eq_2, @DL.keyD_int⟩, ⟨@DL.keyD_str, @DL.dk_own⟩⟩⟩, ⟨⟨⟨@DL.dk_ob, @DL.dkS_ob⟩, ⟨@DL.at_0, @DL.at_1⟩⟩, ⟨⟨@DL.at_2, @DL.at_3⟩, ⟨@DL.wC.eq_1, ⟨@DL.wOp.eq_1, @DL.wB.eq_1⟩⟩⟩⟩⟩, ⟨⟨⟨⟨@DL.wAnd.eq_1, @DL.wOr.eq_1⟩, ⟨@DL.wNot.eq_1, @DL.wTru.eq_1⟩⟩, ⟨⟨@DL.wAndV.eq_1, @DL.wOrV.eq_1⟩, ⟨@DL.wIf.eq_1, ⟨@DL.wChain.eq_1, @DL.wUn.eq_1⟩⟩⟩⟩, ⟨⟨⟨@DL.wTup.eq_1, @DL.wLst.eq_1⟩, ⟨@DL.wNil.eq_1, @DL.wCons.eq_1⟩⟩, ⟨⟨@DL.wStar.eq_1, @DL.wFz.eq_1⟩, ⟨@DL.fzK_dat, ⟨@DL.fzK_lst, @DL.fzK_own⟩⟩⟩⟩⟩⟩⟩⟩, ⟨⟨⟨⟨⟨⟨⟨@DL.fzS_dat, @DL.fzS_lst⟩, ⟨@DL.bK_bool, @DL.wC1.eq_1⟩⟩, ⟨⟨@DL.wIsi.eq_1, @DL.wIsi2.eq_1⟩, ⟨@DL.nm_dat, @DL.nm_ob⟩⟩⟩, ⟨⟨⟨@DL.nm_gob, @DL.nm_own⟩, ⟨@DL.nmS_dat, @DL.nmS_ob⟩⟩, ⟨⟨@DL.wGNil.eq_1, @DL.wGNil.eq_2⟩, ⟨@DL.wGCons.eq_1, ⟨@DL.wGCons.eq_2, @DL.wGTup.eq_1⟩⟩⟩⟩⟩, ⟨⟨⟨⟨@DL.wGSub.eq_1, @DL.wGSub.eq_2⟩, ⟨@DL.wPar.eq_1, @DL.wPar3.eq_1⟩⟩, ⟨⟨@DL.wAugI.eq_1, @DL.wApp.eq_1⟩, ⟨@DL.wExt.eq_1, @DL.wPop.eq_1⟩⟩⟩, ⟨⟨⟨@DL.wSlT.eq_1, @DL.wSlL.eq_1⟩, ⟨@DL.wNoPart.eq_1, @DL.wPart.eq_1⟩⟩, ⟨⟨@DL.wCall.eq_1, @DL.wCallO.eq_1⟩, ⟨@DL.gEq.eq_1, ⟨@DL.gNe.eq_1, @DL.wIList.eq_1⟩⟩⟩⟩⟩⟩, ⟨⟨⟨⟨⟨@DL.wITup.eq_1, @DL.wIRng1.eq_1⟩, ⟨@DL.wIRng2.eq_1, @DL.wIEnumT.eq_1⟩⟩, ⟨⟨@DL.wIEnum.eq_1, @DL.wIZip.eq_1⟩, ⟨@DL.cont_dat, @DL.cont_lst⟩⟩⟩, ⟨⟨⟨@DL.cont_own, @DL.cont_gob⟩, ⟨@DL.contG_gs, @DL.contC_lst⟩⟩, ⟨⟨@DL.dk_gob, @DL.dkG_gs⟩, ⟨@DL.dkC_dK, ⟨@DL.contS_dat, @DL.contS_lst⟩⟩⟩⟩⟩, ⟨⟨⟨⟨@DL.ob1_some, @DL.ob1_none⟩, ⟨@DL.wYes.eq_1, @DL.wNotT.eq_1⟩⟩, ⟨⟨@DL.wNotV.eq_1, @DL.wNext.eq_1⟩, ⟨@DL.wNever.eq_1, ⟨@DL.wBreak.eq_1, @DL.wCont.eq_1⟩⟩⟩⟩, ⟨⟨⟨@DL.wRetN.eq_1, @DL.shaped_int⟩, ⟨@DL.shaped_str, @DL.shaped_bool⟩⟩, ⟨⟨@DL.shaped_none, @DL.eqv_int⟩, ⟨@DL.eqv_str, ⟨@DL.eqv_bool, @DL.eqv_nn⟩⟩⟩⟩⟩⟩⟩, ⟨⟨⟨⟨⟨⟨@DL.shaped_nil, @DL.shaped_nilT⟩, ⟨@DL.eqv_lnil, @DL.eqv_tnil⟩⟩, ⟨⟨@DL.ept_none, @DL.ept_bool⟩, ⟨@DL.ept_int, @DL.ept_str⟩⟩⟩, ⟨⟨⟨@DL.ept_list, @DL.ept_tuple⟩, ⟨@DL.ept_dict, @DL.isPtr_ptr⟩⟩, ⟨⟨@DL.gsAt_gs, @DL.retG_nx⟩, ⟨@DL.retG_rtD, ⟨@DL.retG_rtO, @DL.wCallG.eq_1⟩⟩⟩⟩⟩, ⟨⟨⟨⟨@DL.insAt_ins, @DL.lstAt_lst⟩, ⟨@DL.dnAt_dN, @DL.dkAt_dK⟩⟩, ⟨⟨@DL.ptrK_dat, @DL.ptrK_gob⟩, ⟨@DL.unp_ptr, @DL.wFld.eq_1⟩⟩⟩, ⟨⟨⟨@DL.wDr.eq_1, @DL.toGK_ob⟩, ⟨@DL.toGK_dat, @DL.wToG.eq_1⟩⟩, ⟨⟨@DL.wSFld.eq_1, @DL.wAppG.eq_1⟩, ⟨@DL.wNGetG.eq_1, ⟨@DL.wNInG.eq_1, @DL.wNPutG.eq_1⟩⟩⟩⟩⟩⟩, ⟨⟨⟨⟨⟨@DL.wDPutG.eq_1, @DL.wMeth.eq_1⟩, ⟨@DL.wMake.eq_1, @DL.wNDisp.eq_1⟩⟩, ⟨⟨@DL.putA_nil, @DL.putA_cons⟩, ⟨@DL.upG_same, @DL.upG_upG⟩⟩⟩, ⟨⟨⟨@DL.retP_nx, @DL.retP_rtD⟩, ⟨@DL.retP_rtO, @DL.outs_nil⟩⟩, ⟨⟨@DL.outs_cons, @DL.out1_dat⟩, ⟨@DL.out1_none, ⟨@DL.out1_ob, @DL.out0.eq_1⟩⟩⟩⟩⟩, ⟨⟨⟨⟨@DL.out0.eq_2, @DL.dats.eq_1⟩, ⟨@DL.notOwn_dat, @DL.notOwn_ob⟩⟩, ⟨⟨@DL.isT.eq_1, @DL.wipeE.eq_1⟩, ⟨@DL.wipeE.eq_2, ⟨@DL.back.eq_1, @DL.back.eq_2⟩⟩⟩⟩, ⟨⟨⟨@DL.cast_0, @DL.cast_1⟩, ⟨@DL.cast_2, @DL.cast_3⟩⟩, ⟨⟨@DL.cast_4, @DL.cast_5⟩, ⟨@DL.cast_6, ⟨@DL.cast_7, @DL.cast_8⟩⟩⟩⟩⟩⟩⟩⟩⟩
end DL


set_option Elab.async false
set_option linter.all false
set_option maxRecDepth 100000
set_option maxHeartbeats 4000000
namespace DL
open PySem L2 TG LamX LamY
def tabP (q : Str) : PySem.W.Frag → Hp → Option HO → Prop := fun _ Hz u => ∃ ps : Array Value, u = some (.tbl ps) ∧ TriplesOk ps.toList ∧ ∀ (pos : Pos) (cv : Value), codeAmong pos ps.toList = some cv → ∃ c, cv = .ref c ∧ Hz c = some (CodeO c q)
abbrev tabC (q : Str) : Cell := .ob (.ext (tabP q))
theorem tabP_mono {q : Str} {K : PySem.W.Frag} {Hz Hz' : Hp} {u : Option HO} (s : Same Hz Hz') (h : tabP q K Hz u) : tabP q K Hz' u := by
  obtain ⟨ps, h1, h2, h3⟩ := h
  exact ⟨ps, h1, h2, fun pos cv e => (h3 pos cv e).elim fun c z => ⟨c, z.1, s _ _ z.2⟩⟩
theorem tab_ok {q : Str} {K : PySem.W.Frag} {Hz H : Hp} {P : Addr} (h : tabP q K Hz (H P)) : OkC K Hz H P (tabC q) := by
  obtain ⟨ps, h1, h2, h3⟩ := h
  refine ⟨by rw [h1]; exact Option.some_ne_none _, fun u e => ?_, ⟨ps, h1, h2, h3⟩, fun Hz' s => tabP_mono s ⟨ps, h1, h2, h3⟩⟩
  rw [h1] at e
  cases e
  rfl
section
variable {f : Fr} {Hz H : Hp} {L e : En} {W σ : St}
theorem upG_self {G : Gh} {a : Addr} {c : Cell} (h : G a = some c) : upG G a c = G := by
  funext b
  unfold upG
  split
  · next z => rw [z, h]
  · rfl
theorem Sy.lam {n : Nat} {G : Gh} {P : Addr} {q : Str} (y : Sy f L W e σ Hz H) (he : e[n]? = some (some (.gs G))) (hG : G P = some (tabC q)) :
    TabS H P q ∧ ∀ H1, LamTo P q H H1 → ∃ Hz1, Same Hz Hz1 ∧ Sy f L W e σ Hz1 H1 := by
  obtain ⟨⟨_, _, hT, _⟩, hz⟩ := y.gget he hG
  obtain ⟨ps, h1, h2, h3⟩ := hT
  refine ⟨⟨ps, h1, h2, fun pos cv hc => (h3 pos cv hc).elim fun c z => ⟨c, z.1, y.sm _ _ z.2⟩⟩, fun H1 hto => ?_⟩
  obtain ⟨_, rfl | ⟨ps', qs, d, e1, e2, e3, rfl, e5, e6⟩⟩ := hto
  · exact ⟨Hz, same_refl, y⟩
  · rw [h1] at e1
    cases e1
    have hzd : Hz d = none := y.hz e2
    have s1 : Same Hz (upd Hz d (CodeO d q)) := same_new hzd _
    have y1 : Sy f L W e σ (upd Hz d (CodeO d q)) (upd H d (CodeO d q)) := y.newT e2
    have hc : OkC f.K (upd Hz d (CodeO d q)) (upd (upd H d (CodeO d q)) P (.tbl qs)) P (tabC q) := tab_ok (by
      refine ⟨qs, upd_same, e5, fun pos cv hcv => ?_⟩
      rcases e6 pos cv hcv with z | z
      · exact (h3 pos cv z).elim fun c w => ⟨c, w.1, s1 _ _ w.2⟩
      · exact ⟨d, z, upd_same⟩)
    have y2 := y1.gset he hG hc
    rw [upG_self hG] at y2
    have es : e.set n (some (.gs G)) = e := by
      obtain ⟨h4, h5⟩ := List.getElem?_eq_some_iff.mp he
      rw [← h5, List.set_getElem_self]
    rw [es] at y2
    have eH : upd (upd H d (CodeO d q)) P (.tbl qs) = upd (upd H P (.tbl qs)) d (CodeO d q) := by
      funext b
      by_cases c1 : b = d
      · subst c1
        rw [upd_ne e3, upd_same, upd_same]
      · rw [upd_ne c1]
        by_cases c2 : b = P
        · subst c2
          rw [upd_same, upd_same]
        · rw [upd_ne c2, upd_ne c2, upd_ne c1]
    rw [eH] at y2
    exact ⟨_, s1, y2⟩
end
abbrev ExP := Addr → List (String × PyData) → En → Prop
abbrev FXp := En → (Vl → En → Prop) → ExP → Prop
def XD (K : PySem.W.Frag) (Hz : Hp) (d : Option Addr) (fl : List (String × PyData)) : Prop := (fl = [] ∧ d = none) ∨ fl ≠ [] ∧ ∃ a vs, d = some a ∧ Hz a = some (.xd vs) ∧ PF K Hz fl vs
def spX (K : PySem.W.Frag) (F : FXp) : Sp := fun vs H Q E => ∃ (args : En) (A : List Addr) (Hz : Hp) (P : Vl → En → Prop) (R : ExP), Sy ⟨K, A, Hz, H, vs.length⟩ [] [] args (vs.map some) Hz H ∧ args.length = vs.length ∧ F args P R ∧
  (∀ b outs, P b outs → ∀ v Hz' H', Sy ⟨K, A, Hz, H, vs.length⟩ (tmp b []) (tmv b v []) outs (vs.map some) Hz' H' → Val ⟨K, A, Hz, H, vs.length⟩ b v [] Hz' → Q v H') ∧
  ∀ C fl outs, R C fl outs → ∀ d Hz' H', Sy ⟨K, A, Hz, H, vs.length⟩ [] [] outs (vs.map some) Hz' H' → XD K Hz' d fl → E (.ref C) d H'
theorem spX_len {K : PySem.W.Frag} {F : FXp} {n : Nat} (hF : ∀ args P R, F args P R → args.length = n) {vs : List V} {H : Hp} {Q : VK} {E : XK} (h : spX K F vs H Q E) : vs.length = n := by
  obtain ⟨args, A, Hz, P, R, y, hl, hf, _⟩ := h
  rw [← hl]
  exact hF _ _ _ hf
def Esc (f : Fr) (E : XK) (R : ExP) : Prop := ∀ C fl e, R C fl e → ∀ {σ : St} (d : Option Addr) (Hz H : Hp), Sy f [] [] e σ Hz H → XD f.K Hz d fl → E (.ref C) d H
def sRaise (C : Addr) (E : XK) : TS := fun _ _ H => E (.ref C) none H
def wRaise (C : Addr) (R : ExP) (_P : Po) (e : En) : Prop := R C [] e
theorem ss_raise {f : Fr} {E : XK} {R : ExP} {C : Addr} (h : Esc f E R) : SS f (sRaise C E) (wRaise C R) := ⟨fun {D P e σ Hz H} w y o => h C [] e w none Hz H y (.inl ⟨rfl, rfl⟩)⟩
theorem fnX_run {K : PySem.W.Frag} {F : FXp} {t : TS} {S : ExP → WS} {N : List Str} {vs : List V} {H : Hp} {Q : VK} {E : XK} (h : spX K F vs H Q E) (hs : ∀ A Hz R, Esc ⟨K, A, Hz, H, N.length⟩ E R → SS ⟨K, A, Hz, H, N.length⟩ t (S R))
    (hw : ∀ args P R, args.length = vs.length → F args P R → S (fun C fl e => R C fl (outsOf args e)) (retP args P) (args ++ List.replicate (N.length - args.length) none)) (hN : vs.length ≤ N.length) : t { nx := fun _ H' => Q .non H', rt := Q } (start N vs) H := by
  obtain ⟨args, A, Hz, P, R, y, hl, hF, hQ, hX⟩ := h
  have g : Gv A args (vs.map some) := by
    obtain ⟨O1, O2, p1, p2, _⟩ := y.ex
    exact p2.gv (L2 := []) (by rw [List.append_nil]) (by rw [List.length_map]; exact hl)
  have hw' := hw args _ _ hl hF
  rw [hl] at hw'
  have hE : Esc ⟨K, A, Hz, H, N.length⟩ E fun C fl e => R C fl (outsOf args e) := fun C fl e hR σ d Hz' H' y1 xd => hX C fl _ hR d Hz' H' (y1.outs g (by rw [List.length_map])) xd
  refine (hs A Hz _ hE).run hw' (y.more (by rw [List.length_map]; exact hl) (N.length - vs.length) (by rw [List.length_map, Nat.add_sub_cancel' hN])) ⟨?_, ?_, fun a => a.elim, fun a => a.elim⟩
  · intro e σ Hz' H' hP s1 y1
    exact hQ _ _ hP .non Hz' H' (y1.outs g (by rw [List.length_map])) Dp.non
  · intro b e σ v Hz' H' hP s1 y1 l1
    exact hQ _ _ hP.2 v Hz' H' (y1.outs g (by rw [List.length_map])) (val_not rfl l1 hP.1)
section
variable {f : Fr} {ta : TA} {A : WA} {F : FXp} {E : XK} {R : ExP}
theorem Sy.bare {L e : En} {W σ : St} {Hz H : Hp} (y : Sy f L W e σ Hz H) : Sy f [] [] e σ Hz H := by
  obtain ⟨⟨O1, O2, p1, p2, nd, fr⟩, sm, tz, nw, kp, ka, az, tp, ln⟩ := y
  exact ⟨⟨[], O2, .nil, p2, (List.nodup_append.mp nd).2.1, fun a ha => fr a (List.mem_append_right _ ha)⟩, sm, tz, nw, kp, ka, az, tp, ln⟩
def wCallX (F : FXp) (R : ExP) (A : WA) (e : En) (P : Vl → En → Prop) : Prop := A e fun ds e1 => F (dats ds) (fun b _ => notOwn b = true ∧ P b e1) (fun C fl _ => R C fl e1)
theorem callX_run {L e1 : En} {W σ : St} {Hz1 H1 : Hp} {ds : List PyData} {vs : List V} {Q : VK} {P : Vl → En → Prop} {Rx : ExP} {Ex : XK} (y1 : Sy f L W e1 σ Hz1 H1) (d1 : DpAll f.K Hz1 vs ds)
    (w1 : F (dats ds) (fun b _ => notOwn b = true ∧ P b e1) Rx) (k : ∀ b v Hz' H', P b e1 → Same Hz1 Hz' → Sy f (tmp b L) (tmv b v W) e1 σ Hz' H' → Val f b v σ Hz' → Q v H')
    (kx : ∀ C fl outs d Hz' H', Rx C fl outs → Same Hz1 Hz' → Sy f L W e1 σ Hz' H' → XD f.K Hz' d fl → Ex (.ref C) d H') : spX f.K F vs H1 Q Ex := by
  have yc : Sy ⟨f.K, [], Hz1, H1, vs.length⟩ [] [] (dats ds) (vs.map some) Hz1 H1 := ⟨⟨[], [], .nil, pr_dats rfl d1, List.nodup_nil, fun a ha => by cases ha⟩, y1.sm, same_refl, fun b h => .inl h, fun b u _ h => h, fun b h => h, (fun a ha => by cases ha), y1.tp, by rw [List.length_map]⟩
  obtain ⟨O1, O2, p1, p2, nd, fr⟩ := y1.ex
  refine ⟨dats ds, [], Hz1, _, _, yc, by rw [dats_len, dps_len d1], w1, fun b o hb v Hz' H' y' l' => ?_, fun C fl outs hR d Hz' H' y' xd => ?_⟩
  · obtain ⟨y2, s2, _⟩ := y1.called y' p1 p2 nd fr (fun a _ c => by cases c) (fun a c => by cases c) hb.1
    exact k _ _ _ _ hb.2 s2 y2 (by
      cases b with
      | dat d => exact l'
      | ob o => trivial
      | own i => cases hb.1
      | gob n a => cases hb.1)
  · obtain ⟨y2, s2, _⟩ := y1.called (b := .dat .none) (v := .non) y' p1 p2 nd fr (fun a _ c => by cases c) (fun a c => by cases c) rfl
    exact kx C fl outs d Hz' H' hR s2 y2 xd
theorem se_callX (hE : Esc f E R) (h : SA f ta A) : SE f (tCall (spX f.K F) [] E ta) (wCallX F R A) := ⟨fun {L W e σ Hz H Post Q} w y k => h.run w y fun ds e1 vs Hz1 H1 w1 s1 y1 d1 => by
  rw [List.append_nil]
  exact callX_run y1 d1 w1 (fun b v Hz' H' hP s2 y2 l2 => k b e1 v Hz' H' hP (same_trans s1 s2) y2 l2) fun C fl outs d Hz' H' hR s2 y2 xd => hE C fl e1 hR d Hz' H' y2.bare xd⟩
theorem Sy.newLs {L e : En} {W σ : St} {Hz H H2 : Hp} (y : Sy f L W e σ Hz H) (h : NewLs H H2) : Sy f L W e σ Hz H2 := by
  induction h with
  | refl => exact y
  | step _ hp ih => exact ih.newX hp rfl
def wWord (n : Nat) (P : Addr) (q : Str) (Wd : Addr → Str → Prop) (F : FXp) (A : WA) (e : En) (Post : Vl → En → Prop) : Prop := gsAt (fun G => G P = some (tabC q) ∧ A e fun ds e1 => F (dats ds) (fun b _ => notOwn b = true ∧ Post (.dat (.str (Str.ofString ""))) e1) fun C fl _ => fl = [] ∧ ∃ z, Wd C z ∧ Post (.dat (.str z)) e1) e[n]?
def wFun (a : Addr) (e : En) (P : Vl → En → Prop) : Prop := P (.dat (ptr a)) e
def wWordV (n i : Nat) (P : Addr) (q : Str) (Wd : Addr → Str → Prop) (Fs : List (Addr × FXp)) (A : WA) (e : En) (Post : Vl → En → Prop) : Prop := wVar i e fun b _ => match b with
  | .dat d => ob1 (unp d) fun a => ∃ F, (a, F) ∈ Fs ∧ wWord n P q Wd F A e Post
  | _ => False
end
theorem ps_raiseN {X : Cx} {E : XK} {C : Addr} {x : Str} {p pos pos2 : Pos} {E₁ : Value → Shared → Prop} (gC : X.mg x = some (.ref C)) (q : PySem.W.excIn X.K C [.type "ValueError", .type "Exception", .type "BaseException", .type "object"] "ValueError.__new__" = true) (kC : PySem.W.keepIn X.K (.ref C) = true)
    (b : PySem.W.subIn X.K (.ref C) (.type "BaseException") = some true) (t : PySem.W.typeIn X.K (.ref C) = some (.type "type")) (hg : Gl X x := by rfl) (hdb : (x == ("__debug__" : Str)) = false := by decide) (hc : X.calm = true := by rfl) (hs : X.stack = X.env :: X.outer := by rfl) (hf : X.env.frame = some X.env.locals := by rfl) (hex : X.ex = [] := by rfl)
    (hx : X.xe = fun e s' => wpAny (model X.prog X.w) X.A (leaving X.env e) (fun _ s'' => L2.CX X.prog X.w X.outer X.H_0 X.s_0 E e s'') E₁ s' := by rfl) : PS X (.Raise (some (.Call (.Name x p) [] [] pos)) none pos2) (sRaise C E) :=
  ps_raise hc (takes_of hs hf hex hx) (pmk_ownN PySem.F.excBase_ValueError q gC kC (raises_own b t) hg hdb)
section
variable {X : Cx} {CX : CXT} {k : Nat} {Fs : List (Addr × FXp)} {a : Addr} {F : FXp} {fd : FuncData} {ps : List Str}
end
theorem sqL_but {K : PySem.W.Frag} {H : Hp} {a P : Addr} {xs : List V} {ps : Array Value} (hP : H P = some (.tbl ps)) (h : SqL K H a xs) : SqL K (fun b => if b = P then none else H b) a xs := by
  rcases h with h | h
  · left
    have ne : a ≠ P := fun e => by
      rcases h with h | ⟨o, h⟩
      · rw [e, hP] at h; cases h
      · rw [e, hP] at h; cases h
    rcases h with h | ⟨o, h⟩
    · exact .inl (by dsimp only; rw [if_neg ne]; exact h)
    · exact .inr ⟨o, by dsimp only; rw [if_neg ne]; exact h⟩
  · exact .inr h
theorem lawT_run {K : PySem.W.Frag} {H : Hp} {a P : Addr} {q : Str} {ns : List Int} {F : GSp} {E : XK} (hP : H P = some (.tbl #[])) (hS : SqL K H a (ns.map V.int))
    (hF : F [some (.dat (.list (ns.map PyData.int)))] (fun b => if b = P then some (tabC q) else none) fun b outs _ => b = .dat (.bool true) ∧ outs = [none]) : spG K F [.ref a] H (fun v _ => v = .bl true) E := by
  have hz : ∀ b u, (if b = P then none else H b) = some u → H b = some u := fun b u e => by
    by_cases c : b = P
    · rw [if_pos c] at e; cases e
    · rw [if_neg c] at e; exact e
  have hc : OkC K (fun b => if b = P then none else H b) H P (tabC q) := tab_ok ⟨#[], hP, trivial, fun pos cv e => by
    have e' : codeAmong pos [] = some cv := e
    simp [codeAmong] at e'⟩
  have hg : PG ⟨K, [P], fun b => if b = P then none else H b, H, 1⟩ (fun b => if b = P then none else H b) H [(P, tabC q)] := ⟨fun p hp => by rw [List.mem_singleton] at hp; subst hp; exact hc, fun p hp => .inl (by rw [List.mem_singleton] at hp; subst hp; exact List.mem_singleton.mpr rfl)⟩
  refine ⟨[some (.dat (.list (ns.map PyData.int)))], fun b => if b = P then some (tabC q) else none, [P], fun b => if b = P then none else H b, fun b outs _ => b = .dat (.bool true) ∧ outs = [none],
    ⟨⟨[], [P], .nil, .dat (.lst (sqL_but hP hS) (ints_dps ns)) (.gs [(P, tabC q)] rfl hg), by simp, fun b hb => by rw [List.nil_append, List.mem_singleton] at hb; subst hb; exact if_pos rfl⟩, hz, same_refl, fun b h => .inl h, fun b u _ h => h, fun b h => h, fun b hb => ?_, fun b u h t => ?_, rfl⟩, rfl, hF, ?_⟩
  · rw [List.mem_singleton] at hb
    subst hb
    refine ⟨?_, if_pos rfl⟩
    show H _ ≠ none
    rw [hP]
    exact Option.some_ne_none _
  · have ne : b ≠ P := fun e => by
      rw [e, hP] at h
      cases h
      cases t
    rw [if_neg ne]
    exact h
  · rintro b outs G' ⟨rfl, rfl⟩ _ v Hz' H' y' l'
    obtain rfl := val_bool l'
    rfl
end DL


set_option Elab.async false
set_option linter.all false
set_option maxRecDepth 100000
namespace DL
open PySem L2 TG LamX LamY
section
variable {P : Program} {w : World} {K : PySem.W.Frag} {mg : Str → Option Value} {base : Heap} {k : Nat} {f : Addr} {fd : FuncData} {ps : List Str}
theorem ok_up {sp : Sp} (h : FnOk P w K mg base CX0 k f fd ps sp) : FnOk P w K mg base (L2.CX P w) k f fd ps sp := ⟨h.len, fun A outer s H args us vs Q E hr he hb hv hs => codeAny_mono (h.run A outer s H args us vs Q E hr he hb hv hs) fun r s' hq => by
  cases r with
  | error e => exact False.elim hq
  | ok fl => cases fl <;> exact hq⟩
end
end DL


set_option Elab.async false
set_option linter.all false
set_option maxRecDepth 100000
set_option maxHeartbeats 4000000
namespace DL
open PySem L2 TG LamX LamY
section
variable {f : Fr} {ta : TA} {A : WA} {F : FXp} {E : XK} {R : ExP}
def wRaiseI (C : Addr) (x : String) (A : WA) (R : ExP) (_P : Po) (e : En) : Prop := A e fun ds e1 => ∃ d, ds = [d] ∧ R C [(x, d)] e1
theorem ss_raiseI {C : Addr} {x : String} (T : OexC f.K C) (hno : PySem.W.findIn f.K (.ref C) (Str.ofString x) = some none) (hE : Esc f E R) (h : SA f ta A) : SS f (fun _ σ H => tMkO C (spKeep f.K (Str.ofString x)) [] ta σ H E) (wRaiseI C x A R) := ⟨fun {D P e σ Hz H} w y o => h.run w y fun ds e1 vs Hz1 H1 w1 s1 y1 d1 => by
  obtain ⟨d, rfl, hR⟩ := w1
  match vs, d1 with
  | [v], .cons dv .nil =>
    refine ⟨by simp, fun a ha => keep_use T hno ha fun dx hdx => ?_⟩
    have y2 := y1.newT (u := .xd [(Str.ofString x, v)]) hdx
    exact hE C [(x, d)] e1 hR (some dx) _ _ y2.bare (.inr ⟨by simp, dx, _, rfl, upd_same, .cons (dp_mono (same_new (y1.hz hdx) _) _ _ dv) .nil⟩)⟩
inductive IN : PyData → V → Prop
  | int (n : Int) : IN (.int n) (.int n)
  | non : IN .none .non
theorem IN.dp {K : PySem.W.Frag} {H : Hp} {b : PyData} {v : V} (h : IN b v) : Dp K H v b := by
  cases h with
  | int n => exact Dp.int _
  | non => exact Dp.non
theorem IN.of {K : PySem.W.Frag} {H : Hp} {b : PyData} {v u : V} (h : IN b v) (d : Dp K H u b) : u = v := by
  cases h <;> (cases d; rfl)
abbrev WRes := Str × Option PyData
def wresD : WRes → PyData
  | (z, none) => .str z
  | (z, some d) => .tuple [.str z, d]
def ErrF (K : PySem.W.Frag) (H : Hp) (d : Option Addr) (fl : List (String × PyData)) (vs : List (Str × V)) : Prop := (fl = [] ∧ d = none ∧ vs = []) ∨ fl ≠ [] ∧ ∃ a, d = some a ∧ H a = some (.xd vs) ∧ PF K H fl vs
def TTwG (K : PySem.W.Frag) (Wd : Addr → List (String × PyData) → WRes → Prop) : (XK → Hp → VK → Prop) → Hp → VK → Prop := fun tl H Q => tl (fun cls d H' => ∃ C fl vs r, cls = .ref C ∧ ErrF K H' d fl vs ∧ Wd C fl r ∧ match r with
    | (z, none) => ∀ H2, NewLs H' H2 → Q (.str z) H2
    | (z, some b) => ∃ v, IN b v ∧ ∀ H2 p, NewLs H' H2 → H2 p = none → Q (.ref p) (upd H2 p (.tup [.str z, v]))) H (fun _ H' => Q (.str (Str.ofString "")) H')
def wWordG (n : Nat) (P : Addr) (q : Str) (Wd : Addr → List (String × PyData) → WRes → Prop) (F : FXp) (A : WA) (e : En) (Post : Vl → En → Prop) : Prop := gsAt (fun G => G P = some (tabC q) ∧ A e fun ds e1 => F (dats ds) (fun b _ => notOwn b = true ∧ Post (.dat (.str (Str.ofString ""))) e1) fun C fl _ => ∃ r, Wd C fl r ∧ (∀ b, r.2 = some b → ∃ v, IN b v) ∧ Post (.dat (wresD r)) e1) e[n]?
theorem xd_same {K : PySem.W.Frag} {Hz H : Hp} {d : Option Addr} {fl : List (String × PyData)} (s : Same Hz H) (h : XD K Hz d fl) : ∃ vs, ErrF K H d fl vs := by
  rcases h with ⟨rfl, rfl⟩ | ⟨h, a, vs, rfl, h2, h3⟩
  · exact ⟨[], .inl ⟨rfl, rfl, rfl⟩⟩
  · exact ⟨vs, .inr ⟨h, a, rfl, s _ _ h2, h3.mono s⟩⟩
theorem wordG_run {n : Nat} {P : Addr} {q : Str} {Wd : Addr → List (String × PyData) → WRes → Prop} {L e : En} {W σ : St} {Hz H : Hp} {Post : Vl → En → Prop} {Q : VK} (hs : SA f ta A) (w : wWordG n P q Wd F A e Post) (y : Sy f L W e σ Hz H)
    (k : ∀ b e' v Hz' H', Post b e' → Same Hz Hz' → Sy f (tmp b L) (tmv b v W) e' σ Hz' H' → Val f b v σ Hz' → Q v H') : TabS H P q ∧ ∀ H1, LamTo P q H H1 → TTwG f.K Wd (fun E H' Q' => tCall (spX f.K F) [] E ta σ H' Q') H1 Q := by
  obtain ⟨G, he, hG, w1⟩ := gsAt_ex w
  obtain ⟨hT, hlam⟩ := y.lam he hG
  refine ⟨hT, fun H1 hto => ?_⟩
  obtain ⟨Hz0, s0, y0⟩ := hlam H1 hto
  refine hs.run w1 y0 fun ds e1 vs Hz1 H1' w2 s1 y1 d1 => ?_
  rw [List.append_nil]
  refine callX_run y1 d1 (P := fun _ e1 => Post (.dat (.str (Str.ofString ""))) e1) w2 (fun b v Hz' H' hP s2 y2 l2 => ?_) fun C fl outs d Hz' H' hR s2 y2 xd => ?_
  · exact k _ _ _ _ _ hP (same_trans s0 (same_trans s1 s2)) y2.un (Dp.str _)
  · obtain ⟨r, hz, hin, hR⟩ := hR
    obtain ⟨vs', hef⟩ := xd_same y2.sm xd
    refine ⟨C, fl, vs', r, rfl, hef, hz, ?_⟩
    obtain ⟨z, b⟩ := r
    cases b with
    | none => exact fun H2 hn => k _ _ _ _ _ hR (same_trans s0 (same_trans s1 s2)) (y2.newLs hn) (Dp.str _)
    | some b =>
      obtain ⟨v, hv⟩ := hin b rfl
      refine ⟨v, hv, fun H2 p hn hp => ?_⟩
      have y3 := (y2.newLs hn).newT (u := .tup [.str z, v]) hp
      refine k (.dat (.tuple [.str z, b])) _ _ _ _ hR (same_trans (same_trans s0 (same_trans s1 s2)) (same_new ((y2.newLs hn).hz hp) _)) y3 ?_
      show Dp f.K _ _ _
      exact .tup (SqT.of upd_same) (.cons (Dp.str _) (.cons hv.dp .nil))
theorem se_wordG {n : Nat} {P : Addr} {q : Str} {Wd : Addr → List (String × PyData) → WRes → Prop} (hs : SA f ta A) : SE f (tLamD P q (TTwG f.K Wd) fun E => tCall (spX f.K F) [] E ta) (wWordG n P q Wd F A) := ⟨fun {L W e σ Hz H Post Q} w y k => wordG_run hs w y k⟩
def wWordVG (n i : Nat) (P : Addr) (q : Str) (Wd : Addr → List (String × PyData) → WRes → Prop) (Fs : List (Addr × FXp)) (A : WA) (e : En) (Post : Vl → En → Prop) : Prop := wVar i e fun b _ => match b with
  | .dat d => ob1 (unp d) fun a => ∃ F, (a, F) ∈ Fs ∧ wWordG n P q Wd F A e Post
  | _ => False
end
end DL


set_option Elab.async false
set_option linter.all false
set_option maxRecDepth 100000
set_option maxHeartbeats 4000000
namespace K07
open PySem L2 TG LamX LamY
section
variable {P : Program} {w : World} {K : PySem.W.Frag} {mg : Str → Option Value} {base : Heap}
abbrev cxW (X : Cx) (g : Addr) (cdv : Value) (s : Shared) (H : Hp) : Cx := (cxOf C8.CX0 X.prog X.w X.K X.mg X.base ["_law_work", "_law_found", "e", "_law_known", "_law_words"] "_law_word" (defScope s_law_word) g cdv X.A X.stack s H C8.E0).nox
theorem ErrF.at {K : PySem.W.Frag} {H : Hp} {d : Option Addr} {fl : List (String × PyData)} {vs : List (Str × V)} (h : DL.ErrF K H d fl vs) : ErrAt H d := by
  rcases h with ⟨_, rfl, _⟩ | ⟨_, a, rfl, h, _⟩
  · exact .inl rfl
  · exact .inr ⟨a, vs, rfl, h⟩
theorem keepU {H : Hp} {p q : Addr} {o o2 : HO} (h : H q = some o2) (hp : H p = none) : upd H p o q = some o2 := by
  rw [upd_ne (fun e => by rw [e, hp] at h; cases h)]
  exact h
theorem _root_.LamY.ErrAt.upd {H : Hp} {d : Option Addr} {p : Addr} {o : HO} (h : ErrAt H d) (hp : H p = none) : ErrAt (upd H p o) d := by
  rcases h with rfl | ⟨dd, fs, rfl, h⟩
  · exact .inl rfl
  · exact .inr ⟨dd, fs, rfl, keepU h hp⟩
inductive WordIs (T : Txt K mg) : Addr → List (String × PyData) → DL.WRes → Prop
  | game : WordIs T T.C_BadGame [] ("game", none)
  | textW (b : PyData) : WordIs T T.C_InvalidText [("place", b)] ("text", some b)
  | noneW : WordIs T T.C_NotText [] ("none", none)
  | large (b : PyData) : WordIs T T.C_TooLarge [("most", b)] ("large", some b)
theorem word_gives {X : Cx} (hK : X.K = K) (hm : X.mg = mg) (T : Txt K mg) (q : Str) (cdv : Value) : GivesD X ["_law_work", "_law_found", "e", "_law_known", "_law_words"] "_law_word" (defScope s_law_word) T.a_law_word cdv (defBody s_law_word) "_law_work" q (DL.TTwG K (WordIs T)) := by
  intro f d s H Q tl act hc h
  have gP : Gl (cxOf C8.CX0 X.prog X.w X.K X.mg X.base ["_law_work", "_law_found", "e", "_law_known", "_law_words"] "_law_word" (defScope s_law_word) T.a_law_word cdv X.A X.stack s H C8.E0).nox "PlayError" := by rfl
  subst hK hm
  unfold DL.TTwG at h
  refine ⟨_, pss_cons (ps_set (i := 1) sc_law_word.nd rfl (Or.inl rfl) pe_str) (pss_cons (ps_try_as (X := cxW X T.a_law_word cdv s H) (c := .ref T.C_PlayError) (i := 2)
      (tb := fun W D σ H => σ[0]? = some (some (.ref f)) ∧ H d = some (CodeO d q) ∧ ∃ E : XK, (∀ cls x H', E cls x H' → W cls x σ H') ∧ tl E H fun _ H1 => D.nx σ H1) rfl rfl sc_law_word.nd rfl rfl ⟨gP, by decide, .inl T.gx_PlayError⟩ takes0 (fun W pn xe tk _ => pss_one (ps_expr (act W pn xe _ _ tk))) (fun a oe cls d pn hz hf => (pss_cons (ps_set (i := 3) sc_law_word.nd rfl (Or.inl rfl) (pe_lst (pa_cons (pe_callB (LamY.call_isEGK (X := cxW X T.a_law_word cdv s H) (K := X.K) rfl hz hf) rfl T.m_isinstance (by decide +kernel) (pa_cons (pv 2) (pa_cons (pe_glob (v := .ref T.C_BadGame) rfl T.gx_BadGame rfl) pa_nil))) (pa_cons (pe_callB (LamY.call_isEGK (X := cxW X T.a_law_word cdv s H) (K := X.K) rfl hz hf) rfl T.m_isinstance (by decide +kernel) (pa_cons (pv 2) (pa_cons (pe_glob (v := .ref T.C_InvalidText) rfl T.gx_InvalidText rfl) pa_nil))) (pa_cons (pe_callB (LamY.call_isEGK (X := cxW X T.a_law_word cdv s H) (K := X.K) rfl hz hf) rfl T.m_isinstance (by decide +kernel) (pa_cons (pv 2) (pa_cons (pe_glob (v := .ref T.C_NotText) rfl T.gx_NotText rfl) pa_nil))) (pa_cons (pe_callB (LamY.call_isEGK (X := cxW X T.a_law_word cdv s H) (K := X.K) rfl hz hf) rfl T.m_isinstance (by decide +kernel) (pa_cons (pv 2) (pa_cons (pe_glob (v := .ref T.C_TooLarge) rfl T.gx_TooLarge rfl) pa_nil))) pa_nil))))))
  (pss_cons (ps_set (i := 4) sc_law_word.nd rfl (Or.inl rfl) (pe_lst (pa_cons pe_str (pa_cons pe_str (pa_cons pe_str (pa_cons pe_str pa_nil))))))
  (pss_cons (ps_set (i := 1) sc_law_word.nd rfl (Or.inl rfl) (pe_ifExp (pt_cmpR op_eq (pe_bmK (K := X.K) rfl PySem.F.plainAttrs_list PySem.F.slot_list_count PySem.F.type_list_count (LamY.mt_countK (K := X.K) rfl) (pv 3) (pa_cons pe_bl pa_nil)) pe_int (nomark _)) (pe_ix (ix_listK (K := X.K) rfl) (pv 4) (pe_bmK (K := X.K) rfl PySem.F.plainAttrs_list PySem.F.slot_list_index PySem.F.type_list_index (LamY.mt_indexK (K := X.K) rfl) (pv 3) (pa_cons pe_bl pa_nil)) (fun _ _ => rfl)) pe_str))
  (pss_one (ps_if (pt_cmpR op_eq (pv 1) pe_str (nomark _))
  (pss_one (ps_set (i := 1) sc_law_word.nd rfl (Or.inl rfl) (pe_tup (pa_cons (pv 1) (pa_cons (pe_xf (X := cxW X T.a_law_word cdv s H) ⟨T.ec_InvalidText.hg, T.ec_InvalidText.hk, T.ec_InvalidText.hs, T.ec_InvalidText.hd⟩ T.no_InvalidText hz hf (pv 2)) pa_nil)))))
  (pss_one (ps_if (pt_cmpR op_eq (pv 1) pe_str (nomark _))
  (pss_one (ps_set (i := 1) sc_law_word.nd rfl (Or.inl rfl) (pe_tup (pa_cons (pv 1) (pa_cons (pe_xf (X := cxW X T.a_law_word cdv s H) ⟨T.ec_TooLarge.hg, T.ec_TooLarge.hk, T.ec_TooLarge.hs, T.ec_TooLarge.hd⟩ T.no_TooLarge hz hf (pv 2)) pa_nil)))))
  pss_nil))))))))) (pss_one (ps_ret (pv 1)))), ?_⟩
  · have eQ : (fun (_ : V) (H1 : Hp) => tRet (tVar 1) { nx := fun x H' => Q V.non H', rt := Q } ([some (V.ref f), some (V.str (Str.ofString "")), none, none] ++ [none]) H1) = fun (_ : V) H' => Q (V.str (Str.ofString "")) H' := by
      funext _ H1
      exact propext ⟨fun ⟨v, e, h⟩ => by cases e; exact h, fun h => ⟨_, rfl, h⟩⟩
    refine ⟨rfl, hc, _, fun cls x H' hx => ?_, by rw [← eQ] at h; exact h⟩
    obtain ⟨C, fl, fs, r, rfl, hef, hz, hq⟩ := hx
    have sz9 : ∀ n : Nat, n ≤ 9 → n ≤ sizeLine := fun n h => Nat.le_trans h (by decide)
    cases hz with
    | game =>
      refine ⟨true, T.em_BadGame, fun _ a ha => ?_, fun hb => nomatch hb⟩
      refine ⟨_, rfl, _, rfl, ErrF.at hef, T.ec_BadGame, _, _, _, rfl, fun u hu => hu, T.ki_BadGame_BadGame, ?_⟩
      refine ⟨_, rfl, _, rfl, ErrF.at hef, T.ec_BadGame, _, _, _, rfl, fun u hu => hu, T.ki_BadGame_InvalidText, ?_⟩
      refine ⟨_, rfl, _, rfl, ErrF.at hef, T.ec_BadGame, _, _, _, rfl, fun u hu => hu, T.ki_BadGame_NotText, ?_⟩
      refine ⟨_, rfl, _, rfl, ErrF.at hef, T.ec_BadGame, _, _, _, rfl, fun u hu => hu, T.ki_BadGame_TooLarge, ?_⟩
      refine ⟨sz9 4 (by decide), fun p hp => ?_⟩
      refine ⟨sz9 4 (by decide), fun r hr => ?_⟩
      have n3r : p ≠ r := fun e => by rw [e, upd_same] at hr; cases hr
      have h3 : ∀ (H4 : Hp) (l l' : List V), upd (upd H4 p (.lst l)) r (.lst l') p = some (.lst l) := fun H4 l l' => by rw [upd_ne n3r, upd_same]
      refine ⟨_, rfl, .inl ⟨rfl, _, SqL.of (h3 _ _ _)⟩, p, _, _, rfl, rfl, SqL.of (h3 _ _ _), rfl, rfl, ?_⟩
      refine ⟨rfl, true, rfl, iteT ?_⟩
      refine ⟨_, rfl, _, rfl, .inl ⟨rfl, _, SqL.of (h3 _ _ _)⟩, p, _, _, 0, _, rfl, rfl, SqL.of (h3 _ _ _), rfl, rfl, rfl, rfl, fun m z' hm hz' => ?_, ?_⟩
      · exact absurd hm (Nat.not_lt_zero _)
      · refine ⟨r, _, _, _, rfl, rfl, SqL.of upd_same, rfl, ?_⟩
        refine ⟨_, rfl, rfl, false, congrArg V.bl (by decide +kernel), iteF ?_⟩
        refine ⟨_, rfl, rfl, false, congrArg V.bl (by decide +kernel), iteF ?_⟩
        exact ⟨_, rfl, hq _ (.step (.step .refl hp) hr)⟩
    | textW b =>
      obtain ⟨v, hv, hq⟩ := hq
      have hxf : ∃ dd, x = some dd ∧ H' dd = some (.xd [(Str.ofString "place", v)]) := by
        rcases hef with ⟨h, _⟩ | ⟨_, dd, rfl, h1, h2⟩
        · cases h
        · cases h2 with
          | cons h3 h4 =>
            cases h4
            have := hv.of h3
            subst this
            exact ⟨dd, rfl, h1⟩
      obtain ⟨dd, rfl, hdd⟩ := hxf
      refine ⟨true, T.em_InvalidText, fun _ a ha => ?_, fun hb => nomatch hb⟩
      refine ⟨_, rfl, _, rfl, ErrF.at hef, T.ec_InvalidText, _, _, _, rfl, fun u hu => hu, T.ki_InvalidText_BadGame, ?_⟩
      refine ⟨_, rfl, _, rfl, ErrF.at hef, T.ec_InvalidText, _, _, _, rfl, fun u hu => hu, T.ki_InvalidText_InvalidText, ?_⟩
      refine ⟨_, rfl, _, rfl, ErrF.at hef, T.ec_InvalidText, _, _, _, rfl, fun u hu => hu, T.ki_InvalidText_NotText, ?_⟩
      refine ⟨_, rfl, _, rfl, ErrF.at hef, T.ec_InvalidText, _, _, _, rfl, fun u hu => hu, T.ki_InvalidText_TooLarge, ?_⟩
      refine ⟨sz9 4 (by decide), fun p hp => ?_⟩
      refine ⟨sz9 4 (by decide), fun r hr => ?_⟩
      have n3r : p ≠ r := fun e => by rw [e, upd_same] at hr; cases hr
      have h3 : ∀ (H4 : Hp) (l l' : List V), upd (upd H4 p (.lst l)) r (.lst l') p = some (.lst l) := fun H4 l l' => by rw [upd_ne n3r, upd_same]
      refine ⟨_, rfl, .inl ⟨rfl, _, SqL.of (h3 _ _ _)⟩, p, _, _, rfl, rfl, SqL.of (h3 _ _ _), rfl, rfl, ?_⟩
      refine ⟨rfl, true, rfl, iteT ?_⟩
      refine ⟨_, rfl, _, rfl, .inl ⟨rfl, _, SqL.of (h3 _ _ _)⟩, p, _, _, 1, _, rfl, rfl, SqL.of (h3 _ _ _), rfl, rfl, rfl, rfl, fun m z' hm hz' => ?_, ?_⟩
      · match m, hm, hz' with
        | 0, _, hz' => cases hz'; rfl
      · refine ⟨r, _, _, _, rfl, rfl, SqL.of upd_same, rfl, ?_⟩
        refine ⟨_, rfl, rfl, true, congrArg V.bl (by decide +kernel), iteT ?_⟩
        refine ⟨_, rfl, _, rfl, rfl, rfl, dd, _, v, rfl, keepU (keepU hdd hp) hr, rfl, sz9 2 (by decide), fun p9 hp9 => ?_⟩
        exact ⟨_, rfl, hq _ p9 (.step (.step .refl hp) hr) hp9⟩
    | noneW =>
      refine ⟨true, T.em_NotText, fun _ a ha => ?_, fun hb => nomatch hb⟩
      refine ⟨_, rfl, _, rfl, ErrF.at hef, T.ec_NotText, _, _, _, rfl, fun u hu => hu, T.ki_NotText_BadGame, ?_⟩
      refine ⟨_, rfl, _, rfl, ErrF.at hef, T.ec_NotText, _, _, _, rfl, fun u hu => hu, T.ki_NotText_InvalidText, ?_⟩
      refine ⟨_, rfl, _, rfl, ErrF.at hef, T.ec_NotText, _, _, _, rfl, fun u hu => hu, T.ki_NotText_NotText, ?_⟩
      refine ⟨_, rfl, _, rfl, ErrF.at hef, T.ec_NotText, _, _, _, rfl, fun u hu => hu, T.ki_NotText_TooLarge, ?_⟩
      refine ⟨sz9 4 (by decide), fun p hp => ?_⟩
      refine ⟨sz9 4 (by decide), fun r hr => ?_⟩
      have n3r : p ≠ r := fun e => by rw [e, upd_same] at hr; cases hr
      have h3 : ∀ (H4 : Hp) (l l' : List V), upd (upd H4 p (.lst l)) r (.lst l') p = some (.lst l) := fun H4 l l' => by rw [upd_ne n3r, upd_same]
      refine ⟨_, rfl, .inl ⟨rfl, _, SqL.of (h3 _ _ _)⟩, p, _, _, rfl, rfl, SqL.of (h3 _ _ _), rfl, rfl, ?_⟩
      refine ⟨rfl, true, rfl, iteT ?_⟩
      refine ⟨_, rfl, _, rfl, .inl ⟨rfl, _, SqL.of (h3 _ _ _)⟩, p, _, _, 2, _, rfl, rfl, SqL.of (h3 _ _ _), rfl, rfl, rfl, rfl, fun m z' hm hz' => ?_, ?_⟩
      · match m, hm, hz' with
        | 0, _, hz' => cases hz'; rfl
        | 1, _, hz' => cases hz'; rfl
      · refine ⟨r, _, _, _, rfl, rfl, SqL.of upd_same, rfl, ?_⟩
        refine ⟨_, rfl, rfl, false, congrArg V.bl (by decide +kernel), iteF ?_⟩
        refine ⟨_, rfl, rfl, false, congrArg V.bl (by decide +kernel), iteF ?_⟩
        exact ⟨_, rfl, hq _ (.step (.step .refl hp) hr)⟩
    | large b =>
      obtain ⟨v, hv, hq⟩ := hq
      have hxf : ∃ dd, x = some dd ∧ H' dd = some (.xd [(Str.ofString "most", v)]) := by
        rcases hef with ⟨h, _⟩ | ⟨_, dd, rfl, h1, h2⟩
        · cases h
        · cases h2 with
          | cons h3 h4 =>
            cases h4
            have := hv.of h3
            subst this
            exact ⟨dd, rfl, h1⟩
      obtain ⟨dd, rfl, hdd⟩ := hxf
      refine ⟨true, T.em_TooLarge, fun _ a ha => ?_, fun hb => nomatch hb⟩
      refine ⟨_, rfl, _, rfl, ErrF.at hef, T.ec_TooLarge, _, _, _, rfl, fun u hu => hu, T.ki_TooLarge_BadGame, ?_⟩
      refine ⟨_, rfl, _, rfl, ErrF.at hef, T.ec_TooLarge, _, _, _, rfl, fun u hu => hu, T.ki_TooLarge_InvalidText, ?_⟩
      refine ⟨_, rfl, _, rfl, ErrF.at hef, T.ec_TooLarge, _, _, _, rfl, fun u hu => hu, T.ki_TooLarge_NotText, ?_⟩
      refine ⟨_, rfl, _, rfl, ErrF.at hef, T.ec_TooLarge, _, _, _, rfl, fun u hu => hu, T.ki_TooLarge_TooLarge, ?_⟩
      refine ⟨sz9 4 (by decide), fun p hp => ?_⟩
      refine ⟨sz9 4 (by decide), fun r hr => ?_⟩
      have n3r : p ≠ r := fun e => by rw [e, upd_same] at hr; cases hr
      have h3 : ∀ (H4 : Hp) (l l' : List V), upd (upd H4 p (.lst l)) r (.lst l') p = some (.lst l) := fun H4 l l' => by rw [upd_ne n3r, upd_same]
      refine ⟨_, rfl, .inl ⟨rfl, _, SqL.of (h3 _ _ _)⟩, p, _, _, rfl, rfl, SqL.of (h3 _ _ _), rfl, rfl, ?_⟩
      refine ⟨rfl, true, rfl, iteT ?_⟩
      refine ⟨_, rfl, _, rfl, .inl ⟨rfl, _, SqL.of (h3 _ _ _)⟩, p, _, _, 3, _, rfl, rfl, SqL.of (h3 _ _ _), rfl, rfl, rfl, rfl, fun m z' hm hz' => ?_, ?_⟩
      · match m, hm, hz' with
        | 0, _, hz' => cases hz'; rfl
        | 1, _, hz' => cases hz'; rfl
        | 2, _, hz' => cases hz'; rfl
      · refine ⟨r, _, _, _, rfl, rfl, SqL.of upd_same, rfl, ?_⟩
        refine ⟨_, rfl, rfl, false, congrArg V.bl (by decide +kernel), iteF ?_⟩
        refine ⟨_, rfl, rfl, true, congrArg V.bl (by decide +kernel), iteT ?_⟩
        refine ⟨_, rfl, _, rfl, rfl, rfl, dd, _, v, rfl, keepU (keepU hdd hp) hr, rfl, sz9 2 (by decide), fun p9 hp9 => ?_⟩
        exact ⟨_, rfl, hq _ p9 (.step (.step .refl hp) hr) hp9⟩
end
end K07


set_option linter.all false
set_option maxRecDepth 100000
set_option maxHeartbeats 4000000
namespace SK
def sg (b : Bool) : Int := if b then 1 else -1
def t2 : Nat → List Bool → Int
  | _, [] => 0
  | h, b :: r => sg b * (2 ^ h : Nat) + t2 (h - 1) r
def t1 (c : Bool) : List Bool → Int
  | [] => 0
  | b :: r => if b = c then sg b * 1024 + t1 c r else sg b * 512 + t2 8 r
def t0 : List Bool → Int
  | [] => 0
  | b :: r => sg b * 1024 + t1 b r
end SK


set_option linter.all false
set_option maxRecDepth 100000
set_option maxHeartbeats 4000000
namespace SK
inductive Nf where
  | z : Nf
  | l (x : Nf) : Nf
  | r (x : Nf) : Nf
  | b (x y : Nf) : Nf
def hN : Nf → Nat
  | .z => 0
  | .l x => hN x + 1
  | .r x => hN x + 1
  | .b x y => max (hN x) (hN y) + 1
def itN (pos : Bool) : Nat → Nf
  | 0 => .z
  | k + 1 => if pos then .l (itN pos k) else .r (itN pos k)
def red : Nat → Int → Int × Nat
  | 0, n => (n, 0)
  | a + 1, n => if n % 2 = 0 then red a (n / 2) else (n, a + 1)
theorem red_ok : ∀ (a : Nat) (n : Int), (red a n).2 ≤ a ∧ ((red a n).2 = 0 ∨ (red a n).1 % 2 = 1) ∧ (red a n).1.natAbs ≤ n.natAbs
  | 0, n => ⟨Nat.le_refl _, .inl rfl, Nat.le_refl _⟩
  | a + 1, n => by
    unfold red
    split
    · have ih := red_ok a (n / 2)
      exact ⟨by omega, ih.2.1, by omega⟩
    · exact ⟨Nat.le_refl _, .inr (by dsimp only; omega), Nat.le_refl _⟩
def numN : Nat → Int → Nat → Nf
  | 0, p, _ => itN (decide (0 < p)) p.natAbs
  | f + 1, p, a => if a = 0 then itN (decide (0 < p)) p.natAbs else .b (numN f (red a (p - 1)).1 (red a (p - 1)).2) (numN f (red a (p + 1)).1 (red a (p + 1)).2)
end SK


set_option Elab.async false
set_option linter.all false
set_option maxRecDepth 100000
set_option maxHeartbeats 4000000
namespace K07D
open PySem L2 TG DL K07 SK
section
variable {P : Program} {w : World} {K : PySem.W.Frag} {mg : Str → Option Value} {base : Heap}
def nfD : Nf → PyData
  | .z => .tuple [.tuple [], .tuple []]
  | .l x => .tuple [.tuple [nfD x], .tuple []]
  | .r x => .tuple [.tuple [], .tuple [nfD x]]
  | .b x y => .tuple [.tuple [nfD x], .tuple [nfD y]]
theorem itT (i : Nat) : itN true (i + 1) = .l (itN true i) := rfl
theorem itF (i : Nat) : itN false (i + 1) = .r (itN false i) := rfl
def F_integer_form : FSp := fun args P => ∃ n : Int, args = [some (.dat (.int n))] ∧ (-3000 ≤ n ∧ n ≤ 3000) ∧ P (.dat (nfD (itN (decide (0 < n)) n.natAbs))) [none]
theorem ok_integer_form {k : Nat} (T : Txt K mg)  : FnOk P w K mg base CX0 (k + 1) T.a_integer_form T.d_integer_form ["number"] (spD K F_integer_form) := by
  refine (fun (hA : ∀ args Pz, F_integer_form args Pz → args.length = 1) => T.F_integer_form.ok (sp := spD K F_integer_form) sc_integer_form (fun vs H Q E h => spD_len hA h) (fun cdv A outer s H vs Q E hr h => ⟨_, (pss_cons (ps_set (i := 1) sc_integer_form.nd rfl (Or.inl rfl) (pe_glob (v := T.v_ZERO) rfl T.c_ZERO T.r_ZERO))
  (pss_cons (ps_for PassesOwn.never rfl (pi_range1 rfl T.m_range (pa_cons (pe_callB call_abs rfl T.m_abs (by decide +kernel) (pa_cons (pv 0) pa_nil)) pa_nil)) (pg_name (i := 2) sc_integer_form.nd rfl (Or.inl rfl))
  (pss_one (ps_set (i := 1) sc_integer_form.nd rfl (Or.inl rfl) (pe_ifExp (pt_cmpR op_gt (pv 0) pe_int (nomark _)) (pe_tup (pa_cons (pe_tup (pa_cons (pv 1) pa_nil)) (pa_cons (pe_tup pa_nil) pa_nil))) (pe_tup (pa_cons (pe_tup pa_nil) (pa_cons (pe_tup (pa_cons (pv 1) pa_nil)) pa_nil)))))))
  (pss_one (ps_ret (pv 1))))), fn_run (N := ["number", "found", "at"]) h (fun A' Hz' => (ss_seq (ss_asg (se_gd fun H => dp_of _ _ (T.q_ZERO H)) sg_name)
  (ss_seq (ss_for (si_rng1 (se_cb1 sc_abs se_var)) sg_name
  (ss_asg (se_if (st_test (se_op (sr_I0 (fun _ _ => rfl)) se_var se_int)) (se_tup (sa_cons (se_tup (sa_cons se_var sa_nil)) (sa_cons (se_tup sa_nil) sa_nil))) (se_tup (sa_cons (se_tup sa_nil) (sa_cons (se_tup (sa_cons se_var sa_nil)) sa_nil)))) sg_name))
  (ss_ret se_var)))) (fun args P hl hF => ?_) (by rw [spD_len hA h]; exact Nat.le_of_ble_eq_true rfl)⟩)) (fun args P hF => ?_)
  rotate_left
  · obtain ⟨n, rfl, _⟩ := hF
    rfl
  obtain ⟨n, rfl, hn, hP⟩ := hF
  simp -implicitDefEqProofs only [DL.WW, List.isEmpty_nil, List.lookup_cons, List.lookup_nil, List.map, List.length, List.length_cons, List.length_nil, List.length_set, List.replicate, List.append, List.cons_append, List.nil_append, List.append_nil, List.getElem?_cons_zero, List.getElem?_cons_succ, List.getElem?_nil, List.set_cons_zero, List.set_cons_succ, ↓reduceIte, Bool.false_eq_true, Bool.not_true, Bool.not_false, Bool.true_and, Bool.false_and, Bool.and_true, Bool.and_false, Bool.or_true, Bool.or_false, Bool.true_or, Bool.false_or, Nat.reduceAdd, Nat.reduceSub, Nat.reduceLT, Nat.reduceLeDiff, true_and, and_true, and_self, decide_eq_true_eq, Nat.zero_lt_succ, Nat.lt_add_left_iff_pos, beq_self_eq_true, String.reduceBEq, String.reduceEq, Nat.le_refl, Nat.zero_le, Bool.true_eq_false, decide_true, decide_false, Int.reduceEq, Int.reduceLT, Int.reduceLE, Int.reduceSub, Int.reduceAdd, DL.wIfT, DL.wListRg, DL.eSortT, DL.eAddS, DL.eInS, DL.eLenS, DL.wSlS, DL.wI2, DL.evd_mx, DL.evd_mn, DL.evd_gcd, DL.wIStr, DL.wIEnumS]
  refine for_use ?_
  simp -implicitDefEqProofs only [DL.WW, List.isEmpty_nil, List.lookup_cons, List.lookup_nil, List.map, List.length, List.length_cons, List.length_nil, List.length_set, List.replicate, List.append, List.cons_append, List.nil_append, List.append_nil, List.getElem?_cons_zero, List.getElem?_cons_succ, List.getElem?_nil, List.set_cons_zero, List.set_cons_succ, ↓reduceIte, Bool.false_eq_true, Bool.not_true, Bool.not_false, Bool.true_and, Bool.false_and, Bool.and_true, Bool.and_false, Bool.or_true, Bool.or_false, Bool.true_or, Bool.false_or, Nat.reduceAdd, Nat.reduceSub, Nat.reduceLT, Nat.reduceLeDiff, true_and, and_true, and_self, decide_eq_true_eq, Nat.zero_lt_succ, Nat.lt_add_left_iff_pos, beq_self_eq_true, String.reduceBEq, String.reduceEq, Nat.le_refl, Nat.zero_le, Bool.true_eq_false, decide_true, decide_false, Int.reduceEq, Int.reduceLT, Int.reduceLE, Int.reduceSub, Int.reduceAdd, DL.wIfT, DL.wListRg, DL.eSortT, DL.eAddS, DL.eInS, DL.eLenS, DL.wSlS, DL.wI2, DL.evd_mx, DL.evd_mn, DL.evd_gcd, DL.wIStr, DL.wIEnumS]
  have hk : (if n < 0 then -n else n).toNat = n.natAbs := by split <;> omega
  have hk2 : -3000 ≤ (if n < 0 then -n else n) ∧ (if n < 0 then -n else n) ≤ 3000 := by split <;> omega
  refine ⟨⟨by omega, by omega⟩, fun i e => ∃ z, e = [some (.dat (.int n)), some (.dat (nfD (itN (decide (0 < n)) i))), z], ⟨none, rfl⟩, ?_, ?_⟩
  · rintro i d e hd ⟨z, rfl⟩
    simp -implicitDefEqProofs only [DL.WW, List.isEmpty_nil, List.lookup_cons, List.lookup_nil, List.map, List.length, List.length_cons, List.length_nil, List.length_set, List.replicate, List.append, List.cons_append, List.nil_append, List.append_nil, List.getElem?_cons_zero, List.getElem?_cons_succ, List.getElem?_nil, List.set_cons_zero, List.set_cons_succ, ↓reduceIte, Bool.false_eq_true, Bool.not_true, Bool.not_false, Bool.true_and, Bool.false_and, Bool.and_true, Bool.and_false, Bool.or_true, Bool.or_false, Bool.true_or, Bool.false_or, Nat.reduceAdd, Nat.reduceSub, Nat.reduceLT, Nat.reduceLeDiff, true_and, and_true, and_self, decide_eq_true_eq, Nat.zero_lt_succ, Nat.lt_add_left_iff_pos, beq_self_eq_true, String.reduceBEq, String.reduceEq, Nat.le_refl, Nat.zero_le, Bool.true_eq_false, decide_true, decide_false, Int.reduceEq, Int.reduceLT, Int.reduceLE, Int.reduceSub, Int.reduceAdd, DL.wIfT, DL.wListRg, DL.eSortT, DL.eAddS, DL.eInS, DL.eLenS, DL.wSlS, DL.wI2, DL.evd_mx, DL.evd_mn, DL.evd_gcd, DL.wIStr, DL.wIEnumS]
    by_cases c : 0 < n
    · simp -implicitDefEqProofs only [DL.WW, List.isEmpty_nil, List.lookup_cons, List.lookup_nil, List.map, List.length, List.length_cons, List.length_nil, List.length_set, List.replicate, List.append, List.cons_append, List.nil_append, List.append_nil, List.getElem?_cons_zero, List.getElem?_cons_succ, List.getElem?_nil, List.set_cons_zero, List.set_cons_succ, ↓reduceIte, Bool.false_eq_true, Bool.not_true, Bool.not_false, Bool.true_and, Bool.false_and, Bool.and_true, Bool.and_false, Bool.or_true, Bool.or_false, Bool.true_or, Bool.false_or, Nat.reduceAdd, Nat.reduceSub, Nat.reduceLT, Nat.reduceLeDiff, true_and, and_true, and_self, decide_eq_true_eq, Nat.zero_lt_succ, Nat.lt_add_left_iff_pos, beq_self_eq_true, String.reduceBEq, String.reduceEq, Nat.le_refl, Nat.zero_le, Bool.true_eq_false, decide_true, decide_false, Int.reduceEq, Int.reduceLT, Int.reduceLE, Int.reduceSub, Int.reduceAdd, DL.wIfT, DL.wListRg, DL.eSortT, DL.eAddS, DL.eInS, DL.eLenS, DL.wSlS, DL.wI2, DL.evd_mx, DL.evd_mn, DL.evd_gcd, DL.wIStr, DL.wIEnumS, c, nfD, itT, itF]
      exact ⟨_, rfl⟩
    · simp -implicitDefEqProofs only [DL.WW, List.isEmpty_nil, List.lookup_cons, List.lookup_nil, List.map, List.length, List.length_cons, List.length_nil, List.length_set, List.replicate, List.append, List.cons_append, List.nil_append, List.append_nil, List.getElem?_cons_zero, List.getElem?_cons_succ, List.getElem?_nil, List.set_cons_zero, List.set_cons_succ, ↓reduceIte, Bool.false_eq_true, Bool.not_true, Bool.not_false, Bool.true_and, Bool.false_and, Bool.and_true, Bool.and_false, Bool.or_true, Bool.or_false, Bool.true_or, Bool.false_or, Nat.reduceAdd, Nat.reduceSub, Nat.reduceLT, Nat.reduceLeDiff, true_and, and_true, and_self, decide_eq_true_eq, Nat.zero_lt_succ, Nat.lt_add_left_iff_pos, beq_self_eq_true, String.reduceBEq, String.reduceEq, Nat.le_refl, Nat.zero_le, Bool.true_eq_false, decide_true, decide_false, Int.reduceEq, Int.reduceLT, Int.reduceLE, Int.reduceSub, Int.reduceAdd, DL.wIfT, DL.wListRg, DL.eSortT, DL.eAddS, DL.eInS, DL.eLenS, DL.wSlS, DL.wI2, DL.evd_mx, DL.evd_mn, DL.evd_gcd, DL.wIStr, DL.wIEnumS, c, nfD, itT, itF]
      exact ⟨_, rfl⟩
  · rintro e ⟨z, rfl⟩
    have hrl : ∀ m, (rangeD 0 m).length = m := fun m => by simp [rangeD]
    rw [hrl, hk]
    simp -implicitDefEqProofs only [DL.WW, List.isEmpty_nil, List.lookup_cons, List.lookup_nil, List.map, List.length, List.length_cons, List.length_nil, List.length_set, List.replicate, List.append, List.cons_append, List.nil_append, List.append_nil, List.getElem?_cons_zero, List.getElem?_cons_succ, List.getElem?_nil, List.set_cons_zero, List.set_cons_succ, ↓reduceIte, Bool.false_eq_true, Bool.not_true, Bool.not_false, Bool.true_and, Bool.false_and, Bool.and_true, Bool.and_false, Bool.or_true, Bool.or_false, Bool.true_or, Bool.false_or, Nat.reduceAdd, Nat.reduceSub, Nat.reduceLT, Nat.reduceLeDiff, true_and, and_true, and_self, decide_eq_true_eq, Nat.zero_lt_succ, Nat.lt_add_left_iff_pos, beq_self_eq_true, String.reduceBEq, String.reduceEq, Nat.le_refl, Nat.zero_le, Bool.true_eq_false, decide_true, decide_false, Int.reduceEq, Int.reduceLT, Int.reduceLE, Int.reduceSub, Int.reduceAdd, DL.wIfT, DL.wListRg, DL.eSortT, DL.eAddS, DL.eInS, DL.eLenS, DL.wSlS, DL.wI2, DL.evd_mx, DL.evd_mn, DL.evd_gcd, DL.wIStr, DL.wIEnumS]
    exact hP
def F_numf (f : Nat) : FSp := fun args P => ∃ (p : Int) (a : Nat), args = [some (.dat (.int p)), some (.dat (.int ((2 ^ a : Nat) : Int)))] ∧ a ≤ f ∧ a ≤ 6 ∧ (a = 0 ∨ p % 2 = 1) ∧ p.natAbs + f ≤ 3000 ∧ P (.dat (nfD (numN f p a))) [none, none]
theorem num0 (f : Nat) (p : Int) : numN f p 0 = itN (decide (0 < p)) p.natAbs := by cases f <;> rfl
section
variable {f : Nat} {Fi : FSp} (hE : ∀ m', f = m' + 1 → Fi = F_numf m')
include hE
theorem ok_number_form {k : Nat} (T : Txt K mg) (G_integer_form : FnOk P w K mg base CX0 (k) T.a_integer_form T.d_integer_form ["number"] (spD K F_integer_form)) (G_number_form : FnOk P w K mg base CX0 (k) T.a_number_form T.d_number_form ["top", "bottom"] (spD K Fi)) : FnOk P w K mg base CX0 (k + 1) T.a_number_form T.d_number_form ["top", "bottom"] (spD K (F_numf f)) := by
  refine (fun (hA : ∀ args Pz, (F_numf f) args Pz → args.length = 2) => T.F_number_form.ok (sp := spD K (F_numf f)) sc_number_form (fun vs H Q E h => spD_len hA h) (fun cdv A outer s H vs Q E hr h => ⟨_, (pss_cons (ps_if (pt_cmpR (op_eqDK (K := K) rfl hr.units) (pv 1) pe_int (nomark _))
  (pss_one (ps_ret (pe_call G_integer_form hr rfl T.g_integer_form T.F_integer_form.kp T.b_integer_form .nil pass0 (pa_cons (pv 0) pa_nil))))
  pss_nil)
  (pss_cons (ps_set (i := 2) sc_number_form.nd rfl (Or.inl rfl) (pe_lst pa_nil))
  (pss_cons (ps_for PassesOwn.never rfl (pi_tupK (K := K) rfl (pe_tup (pa_cons (pe_op op_sub (pv 0) pe_int) (pa_cons (pe_op op_add (pv 0) pe_int) pa_nil)))) (pg_name (i := 3) sc_number_form.nd rfl (Or.inl rfl))
  (pss_cons (ps_set (i := 4) sc_number_form.nd rfl (Or.inl rfl) (pv 1))
  (pss_cons (ps_while PassesOwn.never (PW.pt (pw_and (pt_cmpR (op_eqDK (K := K) rfl hr.units) (pe_op op_mod (pv 3) pe_int) pe_int (nomark _)) (pw_and1 (pt_cmpR op_gt (pv 4) pe_int (nomark _)))))
  (pss_one (ps_par (i := 3) (j := 4) rfl sc_number_form.nd rfl rfl (by decide) rfl rfl (pa_cons (pe_op op_fdiv (pv 3) pe_int) (pa_cons (pe_op op_fdiv (pv 4) pe_int) pa_nil)) rfl)))
  (pss_one (ps_expr (pe_bmK (K := K) rfl PySem.F.plainAttrs_list PySem.F.slot_list_append PySem.F.type_list_append mt_append (pv 2) (pa_cons (pe_call G_number_form hr rfl T.g_number_form T.F_number_form.kp T.b_number_form .nil pass0 (pa_cons (pv 3) (pa_cons (pv 4) pa_nil))) pa_nil)))))))
  (pss_one (ps_ret (pe_tup (pa_cons (pe_tup (pa_cons (pe_ix (ix_listK (K := K) rfl) (pv 2) pe_int (fun _ _ => rfl)) pa_nil)) (pa_cons (pe_tup (pa_cons (pe_ix (ix_listK (K := K) rfl) (pv 2) pe_int (fun _ _ => rfl)) pa_nil)) pa_nil)))))))), fn_run (N := ["top", "bottom", "sides", "near", "parts"]) h (fun A' Hz' => (ss_seq (ss_if (st_test (se_op sr_eqD se_var se_int))
  (ss_ret (se_call (sa_cons se_var sa_nil)))
  ss_next)
  (ss_seq (ss_asg (se_lst sa_nil) sg_name)
  (ss_seq (ss_for (si_tup (se_tup (sa_cons (se_op (sr_I0 (fun _ _ => rfl)) se_var se_int) (sa_cons (se_op (sr_I0 (fun _ _ => rfl)) se_var se_int) sa_nil)))) sg_name
  (ss_seq (ss_asg se_var sg_name)
  (ss_seq (ss_while (st_and (st_test (se_op sr_eqD (se_op (sr_I (fun _ _ => rfl)) se_var se_int) se_int)) (st_test (se_op (sr_I0 (fun _ _ => rfl)) se_var se_int)))
  (ss_par (by decide) (se_op (sr_I (fun _ _ => rfl)) se_var se_int) (se_op (sr_I (fun _ _ => rfl)) se_var se_int)))
  (ss_drop (se_app (se_call (sa_cons se_var (sa_cons se_var sa_nil))))))))
  (ss_ret (se_tup (sa_cons (se_tup (sa_cons (se_op sr_ixL se_var se_int) sa_nil)) (sa_cons (se_tup (sa_cons (se_op sr_ixL se_var se_int) sa_nil)) sa_nil)))))))) (fun args P hl hF => ?_) (by rw [spD_len hA h]; exact Nat.le_of_ble_eq_true rfl)⟩)) (fun args P hF => ?_)
  rotate_left
  · obtain ⟨p, a, rfl, _⟩ := hF
    rfl
  obtain ⟨p, a, rfl, ha, ha6, ho, hp, hP⟩ := hF
  simp -implicitDefEqProofs only [DL.WW, List.isEmpty_nil, List.lookup_cons, List.lookup_nil, List.map, List.length, List.length_cons, List.length_nil, List.length_set, List.replicate, List.append, List.cons_append, List.nil_append, List.append_nil, List.getElem?_cons_zero, List.getElem?_cons_succ, List.getElem?_nil, List.set_cons_zero, List.set_cons_succ, ↓reduceIte, Bool.false_eq_true, Bool.not_true, Bool.not_false, Bool.true_and, Bool.false_and, Bool.and_true, Bool.and_false, Bool.or_true, Bool.or_false, Bool.true_or, Bool.false_or, Nat.reduceAdd, Nat.reduceSub, Nat.reduceLT, Nat.reduceLeDiff, true_and, and_true, and_self, decide_eq_true_eq, Nat.zero_lt_succ, Nat.lt_add_left_iff_pos, beq_self_eq_true, String.reduceBEq, String.reduceEq, Nat.le_refl, Nat.zero_le, Bool.true_eq_false, decide_true, decide_false, Int.reduceEq, Int.reduceLT, Int.reduceLE, Int.reduceSub, Int.reduceAdd, DL.wIfT, DL.wListRg, DL.eSortT, DL.eAddS, DL.eInS, DL.eLenS, DL.wSlS, DL.wI2, DL.evd_mx, DL.evd_mn, DL.evd_gcd, DL.wIStr, DL.wIEnumS]
  cases a with
  | zero =>
    have e1 : ((2 ^ 0 : Nat) : Int) = 1 := rfl
    simp -implicitDefEqProofs only [DL.WW, List.isEmpty_nil, List.lookup_cons, List.lookup_nil, List.map, List.length, List.length_cons, List.length_nil, List.length_set, List.replicate, List.append, List.cons_append, List.nil_append, List.append_nil, List.getElem?_cons_zero, List.getElem?_cons_succ, List.getElem?_nil, List.set_cons_zero, List.set_cons_succ, ↓reduceIte, Bool.false_eq_true, Bool.not_true, Bool.not_false, Bool.true_and, Bool.false_and, Bool.and_true, Bool.and_false, Bool.or_true, Bool.or_false, Bool.true_or, Bool.false_or, Nat.reduceAdd, Nat.reduceSub, Nat.reduceLT, Nat.reduceLeDiff, true_and, and_true, and_self, decide_eq_true_eq, Nat.zero_lt_succ, Nat.lt_add_left_iff_pos, beq_self_eq_true, String.reduceBEq, String.reduceEq, Nat.le_refl, Nat.zero_le, Bool.true_eq_false, decide_true, decide_false, Int.reduceEq, Int.reduceLT, Int.reduceLE, Int.reduceSub, Int.reduceAdd, DL.wIfT, DL.wListRg, DL.eSortT, DL.eAddS, DL.eInS, DL.eLenS, DL.wSlS, DL.wI2, DL.evd_mx, DL.evd_mn, DL.evd_gcd, DL.wIStr, DL.wIEnumS, e1]
    refine ⟨_, rfl, by omega, ?_⟩
    simp -implicitDefEqProofs only [DL.WW, List.isEmpty_nil, List.lookup_cons, List.lookup_nil, List.map, List.length, List.length_cons, List.length_nil, List.length_set, List.replicate, List.append, List.cons_append, List.nil_append, List.append_nil, List.getElem?_cons_zero, List.getElem?_cons_succ, List.getElem?_nil, List.set_cons_zero, List.set_cons_succ, ↓reduceIte, Bool.false_eq_true, Bool.not_true, Bool.not_false, Bool.true_and, Bool.false_and, Bool.and_true, Bool.and_false, Bool.or_true, Bool.or_false, Bool.true_or, Bool.false_or, Nat.reduceAdd, Nat.reduceSub, Nat.reduceLT, Nat.reduceLeDiff, true_and, and_true, and_self, decide_eq_true_eq, Nat.zero_lt_succ, Nat.lt_add_left_iff_pos, beq_self_eq_true, String.reduceBEq, String.reduceEq, Nat.le_refl, Nat.zero_le, Bool.true_eq_false, decide_true, decide_false, Int.reduceEq, Int.reduceLT, Int.reduceLE, Int.reduceSub, Int.reduceAdd, DL.wIfT, DL.wListRg, DL.eSortT, DL.eAddS, DL.eInS, DL.eLenS, DL.wSlS, DL.wI2, DL.evd_mx, DL.evd_mn, DL.evd_gcd, DL.wIStr, DL.wIEnumS]
    rw [num0] at hP
    exact hP
  | succ a =>
  obtain ⟨f, rfl⟩ : ∃ f', f = f' + 1 := ⟨f - 1, by omega⟩
  have hFi := hE f rfl
  subst hFi
  have e1 : ¬ ((2 ^ (a + 1) : Nat) : Int) = 1 := by have := Nat.pow_pos (n := a) (show 0 < 2 by decide); rw [Nat.pow_succ]; omega
  simp -implicitDefEqProofs only [DL.WW, List.isEmpty_nil, List.lookup_cons, List.lookup_nil, List.map, List.length, List.length_cons, List.length_nil, List.length_set, List.replicate, List.append, List.cons_append, List.nil_append, List.append_nil, List.getElem?_cons_zero, List.getElem?_cons_succ, List.getElem?_nil, List.set_cons_zero, List.set_cons_succ, ↓reduceIte, Bool.false_eq_true, Bool.not_true, Bool.not_false, Bool.true_and, Bool.false_and, Bool.and_true, Bool.and_false, Bool.or_true, Bool.or_false, Bool.true_or, Bool.false_or, Nat.reduceAdd, Nat.reduceSub, Nat.reduceLT, Nat.reduceLeDiff, true_and, and_true, and_self, decide_eq_true_eq, Nat.zero_lt_succ, Nat.lt_add_left_iff_pos, beq_self_eq_true, String.reduceBEq, String.reduceEq, Nat.le_refl, Nat.zero_le, Bool.true_eq_false, decide_true, decide_false, Int.reduceEq, Int.reduceLT, Int.reduceLE, Int.reduceSub, Int.reduceAdd, DL.wIfT, DL.wListRg, DL.eSortT, DL.eAddS, DL.eInS, DL.eLenS, DL.wSlS, DL.wI2, DL.evd_mx, DL.evd_mn, DL.evd_gcd, DL.wIStr, DL.wIEnumS, e1]
  refine for_use ?_
  simp -implicitDefEqProofs only [DL.WW, List.isEmpty_nil, List.lookup_cons, List.lookup_nil, List.map, List.length, List.length_cons, List.length_nil, List.length_set, List.replicate, List.append, List.cons_append, List.nil_append, List.append_nil, List.getElem?_cons_zero, List.getElem?_cons_succ, List.getElem?_nil, List.set_cons_zero, List.set_cons_succ, ↓reduceIte, Bool.false_eq_true, Bool.not_true, Bool.not_false, Bool.true_and, Bool.false_and, Bool.and_true, Bool.and_false, Bool.or_true, Bool.or_false, Bool.true_or, Bool.false_or, Nat.reduceAdd, Nat.reduceSub, Nat.reduceLT, Nat.reduceLeDiff, true_and, and_true, and_self, decide_eq_true_eq, Nat.zero_lt_succ, Nat.lt_add_left_iff_pos, beq_self_eq_true, String.reduceBEq, String.reduceEq, Nat.le_refl, Nat.zero_le, Bool.true_eq_false, decide_true, decide_false, Int.reduceEq, Int.reduceLT, Int.reduceLE, Int.reduceSub, Int.reduceAdd, DL.wIfT, DL.wListRg, DL.eSortT, DL.eAddS, DL.eInS, DL.eLenS, DL.wSlS, DL.wI2, DL.evd_mx, DL.evd_mn, DL.evd_gcd, DL.wIStr, DL.wIEnumS]
  refine ⟨fun i e => ∃ z1 z2, e = [some (.dat (.int p)), some (.dat (.int ((2 ^ (a + 1) : Nat) : Int))), some (.ob none (.lst (([nfD (numN f (red (a + 1) (p - 1)).1 (red (a + 1) (p - 1)).2), nfD (numN f (red (a + 1) (p + 1)).1 (red (a + 1) (p + 1)).2)]).take i))), z1, z2], ⟨none, none, rfl⟩, ?_, ?_⟩
  · rintro i d e hd ⟨z1, z2, rfl⟩
    have hp2 : p % 2 = 1 := by omega
    obtain ⟨n0, rfl, h0, hn0, ht⟩ : ∃ n0, d = .int n0 ∧ n0 % 2 = 0 ∧ n0.natAbs ≤ p.natAbs + 1 ∧ ([nfD (numN f (red (a + 1) (p - 1)).1 (red (a + 1) (p - 1)).2), nfD (numN f (red (a + 1) (p + 1)).1 (red (a + 1) (p + 1)).2)]).take (i + 1) =
        ([nfD (numN f (red (a + 1) (p - 1)).1 (red (a + 1) (p - 1)).2), nfD (numN f (red (a + 1) (p + 1)).1 (red (a + 1) (p + 1)).2)]).take i ++ [nfD (numN f (red (a + 1) n0).1 (red (a + 1) n0).2)] := by
      have hi := (List.getElem?_eq_some_iff.mp hd).1
      have : i = 0 ∨ i = 1 := by simp at hi; omega
      rcases this with rfl | rfl
      · simp at hd
        exact ⟨p - 1, hd.symm, by omega, by omega, rfl⟩
      · simp at hd
        exact ⟨p + 1, hd.symm, by omega, by omega, rfl⟩
    dsimp only
    rw [ht]
    have hl5 : (([nfD (numN f (red (a + 1) (p - 1)).1 (red (a + 1) (p - 1)).2), nfD (numN f (red (a + 1) (p + 1)).1 (red (a + 1) (p + 1)).2)]).take i).length ≤ 5 := by simp; omega
    generalize ([nfD (numN f (red (a + 1) (p - 1)).1 (red (a + 1) (p - 1)).2), nfD (numN f (red (a + 1) (p + 1)).1 (red (a + 1) (p + 1)).2)]).take i = LI at hl5 ⊢
    simp -implicitDefEqProofs only [DL.WW, List.isEmpty_nil, List.lookup_cons, List.lookup_nil, List.map, List.length, List.length_cons, List.length_nil, List.length_set, List.replicate, List.append, List.cons_append, List.nil_append, List.append_nil, List.getElem?_cons_zero, List.getElem?_cons_succ, List.getElem?_nil, List.set_cons_zero, List.set_cons_succ, ↓reduceIte, Bool.false_eq_true, Bool.not_true, Bool.not_false, Bool.true_and, Bool.false_and, Bool.and_true, Bool.and_false, Bool.or_true, Bool.or_false, Bool.true_or, Bool.false_or, Nat.reduceAdd, Nat.reduceSub, Nat.reduceLT, Nat.reduceLeDiff, true_and, and_true, and_self, decide_eq_true_eq, Nat.zero_lt_succ, Nat.lt_add_left_iff_pos, beq_self_eq_true, String.reduceBEq, String.reduceEq, Nat.le_refl, Nat.zero_le, Bool.true_eq_false, decide_true, decide_false, Int.reduceEq, Int.reduceLT, Int.reduceLE, Int.reduceSub, Int.reduceAdd, DL.wIfT, DL.wListRg, DL.eSortT, DL.eAddS, DL.eInS, DL.eLenS, DL.wSlS, DL.wI2, DL.evd_mx, DL.evd_mn, DL.evd_gcd, DL.wIStr, DL.wIEnumS]
    refine ⟨fun m e => ∃ n1, red m n1 = red (a + 1) n0 ∧ m ≤ a + 1 ∧ n1.natAbs ≤ n0.natAbs ∧ e = [some (.dat (.int p)), some (.dat (.int ((2 ^ (a + 1) : Nat) : Int))), some (.ob none (.lst LI)), some (.dat (.int n1)), some (.dat (.int ((2 ^ m : Nat) : Int)))], ⟨a + 1, n0, rfl, Nat.le_refl _, Nat.le_refl _, rfl⟩, ?_⟩
    rintro m e ⟨n1, hr, hm, hn1, rfl⟩
    simp -implicitDefEqProofs only [DL.WW, List.isEmpty_nil, List.lookup_cons, List.lookup_nil, List.map, List.length, List.length_cons, List.length_nil, List.length_set, List.replicate, List.append, List.cons_append, List.nil_append, List.append_nil, List.getElem?_cons_zero, List.getElem?_cons_succ, List.getElem?_nil, List.set_cons_zero, List.set_cons_succ, ↓reduceIte, Bool.false_eq_true, Bool.not_true, Bool.not_false, Bool.true_and, Bool.false_and, Bool.and_true, Bool.and_false, Bool.or_true, Bool.or_false, Bool.true_or, Bool.false_or, Nat.reduceAdd, Nat.reduceSub, Nat.reduceLT, Nat.reduceLeDiff, true_and, and_true, and_self, decide_eq_true_eq, Nat.zero_lt_succ, Nat.lt_add_left_iff_pos, beq_self_eq_true, String.reduceBEq, String.reduceEq, Nat.le_refl, Nat.zero_le, Bool.true_eq_false, decide_true, decide_false, Int.reduceEq, Int.reduceLT, Int.reduceLE, Int.reduceSub, Int.reduceAdd, DL.wIfT, DL.wListRg, DL.eSortT, DL.eAddS, DL.eInS, DL.eLenS, DL.wSlS, DL.wI2, DL.evd_mx, DL.evd_mn, DL.evd_gcd, DL.wIStr, DL.wIEnumS]
    have fin : red m n1 = (n1, m) → F_numf f [some (.dat (.int n1)), some (.dat (.int ((2 ^ m : Nat) : Int)))] fun b x => notOwn b = true ∧ b = .dat (nfD (numN f (red (a + 1) n0).1 (red (a + 1) n0).2)) := fun hs => by
      have e2 : red (a + 1) n0 = red a (n0 / 2) := if_pos h0
      have ok := red_ok a (n0 / 2)
      rw [← e2, ← hr, hs] at ok
      dsimp only at ok
      refine ⟨n1, m, rfl, by omega, by omega, ok.2.1, by omega, rfl, ?_⟩
      rw [← hr, hs]
    have fin2 : ∀ Post : Vl → En → Prop, (∀ b x, b = .dat (nfD (numN f (red (a + 1) n0).1 (red (a + 1) n0).2)) → Post b x) → red m n1 = (n1, m) → F_numf f [some (.dat (.int n1)), some (.dat (.int ((2 ^ m : Nat) : Int)))] Post := fun Post hPost hs => by
      obtain ⟨p1, a1, he, c1, c2, c3, c4, c5⟩ := fin hs
      exact ⟨p1, a1, he, c1, c2, c3, c4, hPost _ _ c5.2⟩
    split
    · split
      · cases m with
        | zero => exact absurd (show (1 : Int) < 1 by assumption) (by decide)
        | succ m =>
          refine ⟨⟨by decide, by decide⟩, ⟨by decide, by decide⟩, m, by omega, n1 / 2, ?_, by omega, by omega, ?_⟩
          · rw [← hr]
            show red m (n1 / 2) = if n1 % 2 = 0 then red m (n1 / 2) else (n1, m + 1)
            rw [if_pos (by assumption)]
          · have e1 : ((2 ^ (m + 1) : Nat) : Int) = ((2 ^ m : Nat) : Int) * 2 := by rw [Nat.pow_succ, Int.natCast_mul]; rfl
            rw [e1]
            have e2 : ((2 ^ m : Nat) : Int) * 2 / 2 = ((2 ^ m : Nat) : Int) := by omega
            rw [e2]
      · refine fin2 _ (fun b x hb => ?_) ?_
        · subst hb
          simp -implicitDefEqProofs only [DL.WW, List.isEmpty_nil, List.lookup_cons, List.lookup_nil, List.map, List.length, List.length_cons, List.length_nil, List.length_set, List.replicate, List.append, List.cons_append, List.nil_append, List.append_nil, List.getElem?_cons_zero, List.getElem?_cons_succ, List.getElem?_nil, List.set_cons_zero, List.set_cons_succ, ↓reduceIte, Bool.false_eq_true, Bool.not_true, Bool.not_false, Bool.true_and, Bool.false_and, Bool.and_true, Bool.and_false, Bool.or_true, Bool.or_false, Bool.true_or, Bool.false_or, Nat.reduceAdd, Nat.reduceSub, Nat.reduceLT, Nat.reduceLeDiff, true_and, and_true, and_self, decide_eq_true_eq, Nat.zero_lt_succ, Nat.lt_add_left_iff_pos, beq_self_eq_true, String.reduceBEq, String.reduceEq, Nat.le_refl, Nat.zero_le, Bool.true_eq_false, decide_true, decide_false, Int.reduceEq, Int.reduceLT, Int.reduceLE, Int.reduceSub, Int.reduceAdd, DL.wIfT, DL.wListRg, DL.eSortT, DL.eAddS, DL.eInS, DL.eLenS, DL.wSlS, DL.wI2, DL.evd_mx, DL.evd_mn, DL.evd_gcd, DL.wIStr, DL.wIEnumS]
          exact ⟨by omega, _, _, rfl⟩
        · cases m with
          | zero => rfl
          | succ m => 
            have := Nat.pow_pos (n := m) (show 0 < 2 by decide)
            rw [Nat.pow_succ] at *
            omega
    · refine fin2 _ (fun b x hb => ?_) ?_
      · subst hb
        simp -implicitDefEqProofs only [DL.WW, List.isEmpty_nil, List.lookup_cons, List.lookup_nil, List.map, List.length, List.length_cons, List.length_nil, List.length_set, List.replicate, List.append, List.cons_append, List.nil_append, List.append_nil, List.getElem?_cons_zero, List.getElem?_cons_succ, List.getElem?_nil, List.set_cons_zero, List.set_cons_succ, ↓reduceIte, Bool.false_eq_true, Bool.not_true, Bool.not_false, Bool.true_and, Bool.false_and, Bool.and_true, Bool.and_false, Bool.or_true, Bool.or_false, Bool.true_or, Bool.false_or, Nat.reduceAdd, Nat.reduceSub, Nat.reduceLT, Nat.reduceLeDiff, true_and, and_true, and_self, decide_eq_true_eq, Nat.zero_lt_succ, Nat.lt_add_left_iff_pos, beq_self_eq_true, String.reduceBEq, String.reduceEq, Nat.le_refl, Nat.zero_le, Bool.true_eq_false, decide_true, decide_false, Int.reduceEq, Int.reduceLT, Int.reduceLE, Int.reduceSub, Int.reduceAdd, DL.wIfT, DL.wListRg, DL.eSortT, DL.eAddS, DL.eInS, DL.eLenS, DL.wSlS, DL.wI2, DL.evd_mx, DL.evd_mn, DL.evd_gcd, DL.wIStr, DL.wIEnumS]
        exact ⟨by omega, _, _, rfl⟩
      · cases m with
        | zero => rfl
        | succ m => unfold red; rw [if_neg (by assumption)]
  · rintro e ⟨z1, z2, rfl⟩
    simp only [numN, nfD, Nat.add_eq_zero_iff, Nat.one_ne_zero, and_false, ↓reduceIte] at hP
    have e2 : ∀ x y : PyData, ([x, y].take 2) = [x, y] := fun _ _ => rfl
    simp -implicitDefEqProofs only [DL.WW, List.isEmpty_nil, List.lookup_cons, List.lookup_nil, List.map, List.length, List.length_cons, List.length_nil, List.length_set, List.replicate, List.append, List.cons_append, List.nil_append, List.append_nil, List.getElem?_cons_zero, List.getElem?_cons_succ, List.getElem?_nil, List.set_cons_zero, List.set_cons_succ, ↓reduceIte, Bool.false_eq_true, Bool.not_true, Bool.not_false, Bool.true_and, Bool.false_and, Bool.and_true, Bool.and_false, Bool.or_true, Bool.or_false, Bool.true_or, Bool.false_or, Nat.reduceAdd, Nat.reduceSub, Nat.reduceLT, Nat.reduceLeDiff, true_and, and_true, and_self, decide_eq_true_eq, Nat.zero_lt_succ, Nat.lt_add_left_iff_pos, beq_self_eq_true, String.reduceBEq, String.reduceEq, Nat.le_refl, Nat.zero_le, Bool.true_eq_false, decide_true, decide_false, Int.reduceEq, Int.reduceLT, Int.reduceLE, Int.reduceSub, Int.reduceAdd, DL.wIfT, DL.wListRg, DL.eSortT, DL.eAddS, DL.eInS, DL.eLenS, DL.wSlS, DL.wI2, DL.evd_mx, DL.evd_mn, DL.evd_gcd, DL.wIStr, DL.wIEnumS, e2]
    exact hP
end
end
end K07D


set_option linter.all false
set_option maxRecDepth 100000
set_option maxHeartbeats 4000000
namespace TXG
open SK
inductive G where
  | mk (l r : List G) : G
def G.lf : G → List G | .mk l _ => l
def G.rt : G → List G | .mk _ r => r
def z : G := .mk [] []
def star : G := .mk [z] [z]
def up : G := .mk [z] [star]
def down : G := .mk [star] [z]
def upS : G := .mk [z, star] [z]
def downS : G := .mk [z] [z, star]
mutual
def eqG : G → G → Bool
  | .mk l r, .mk l' r' => eqL l l' && eqL r r'
def eqL : List G → List G → Bool
  | [], [] => true
  | g :: gs, h :: hs => eqG g h && eqL gs hs
  | _, _ => false
end
mutual
def ht : G → Nat
  | .mk l r => max (htL l) (htL r)
def htL : List G → Nat
  | [] => 0
  | g :: gs => max (ht g + 1) (htL gs)
end
mutual
def nd : G → Nat
  | .mk l r => 1 + ndL l + ndL r
def ndL : List G → Nat
  | [] => 0
  | g :: gs => nd g + ndL gs
end
theorem htL_mem : ∀ {gs : List G} {g : G}, g ∈ gs → ht g < htL gs
  | x :: xs, g, h => by
    rw [htL]
    rcases List.mem_cons.mp h with rfl | h
    · omega
    · have := htL_mem h; omega
theorem ht_lt {g x : G} (h : x ∈ g.lf ∨ x ∈ g.rt) : ht x < ht g := by
  cases g with
  | mk l r =>
    rw [ht]
    rcases h with h | h
    · have := htL_mem (show x ∈ l from h); omega
    · have := htL_mem (show x ∈ r from h); omega
def nG : Nf → G
  | .z => .mk [] []
  | .l x => .mk [nG x] []
  | .r x => .mk [] [nG x]
  | .b x y => .mk [nG x] [nG y]
def nimL : Nat → List G
  | 0 => []
  | k + 1 => nimL k ++ [.mk (nimL k) (nimL k)]
def nimG (k : Nat) : G := .mk (nimL k) (nimL k)
def numG (p : Int) (a : Nat) : G := nG (numN 6 p a)
def stp (g : G) : Int := if g.rt.isEmpty = true then 1 else -1
def intOf : Nat → Int → G → Option Int
  | 0, _, _ => none
  | f + 1, n, g =>
    if eqG g z then some n
    else if g.lf.length + g.rt.length ≠ 1 ∨ n.natAbs = 16 then none
    else if n * stp g < 0 then none else intOf f (n + stp g) ((g.lf ++ g.rt).headD z)
def digN : Nat → Nat → List Nat
  | 0, _ => []
  | f + 1, n => if n < 10 then [48 + n] else digN f (n / 10) ++ [48 + n % 10]
def digs (n : Nat) : List Nat := digN 5 n
def logB (b : Nat) : Nat := if b = 1 then 0 else if b = 2 then 1 else if b = 4 then 2 else if b = 8 then 3 else 4
def joinC : List (List Nat) → List Nat
  | [] => []
  | [t] => t
  | t :: u :: r => t ++ 44 :: joinC (u :: r)
inductive Tx : Nat → List Nat → G → Prop where
  | num (d : Nat) (neg : Bool) (p a : Nat) : a ≤ 4 → p ≤ 16 * 2 ^ a → (neg = true → p ≠ 0) → (a = 0 ∨ p % 2 = 1) →
      Tx d ((if neg then [45] else []) ++ digs p ++ (if a = 0 then [] else 47 :: digs (2 ^ a))) (numG (if neg then -(p : Int) else p) a)
  | star (d : Nat) : Tx d [42] star
  | nim (d k : Nat) : 2 ≤ k → k ≤ 5 → Tx d [42, 48 + k] (nimG k)
  | up (d : Nat) : Tx d [94] up
  | down (d : Nat) : Tx d [118] down
  | upS (d : Nat) : Tx d [94, 42] upS
  | downS (d : Nat) : Tx d [118, 42] downS
  | br (d : Nat) (ts us : List (List Nat)) (l r : List G) : ts.length = l.length → us.length = r.length →
      (∀ (i : Nat) (t : List Nat) (g : G), ts[i]? = some t → l[i]? = some g → Tx d t g) → (∀ (i : Nat) (t : List Nat) (g : G), us[i]? = some t → r[i]? = some g → Tx d t g) →
      Tx (d + 1) (123 :: joinC ts ++ 124 :: joinC us ++ [125]) (.mk l r)
theorem Tx.mono {d : Nat} {t : List Nat} {g : G} (h : Tx d t g) : ∀ e, d ≤ e → Tx e t g := by
  induction h with
  | num d neg p a h1 h2 h3 h4 => exact fun e _ => .num e neg p a h1 h2 h3 h4
  | star d => exact fun e _ => .star e
  | nim d k h1 h2 => exact fun e _ => .nim e k h1 h2
  | up d => exact fun e _ => .up e
  | down d => exact fun e _ => .down e
  | upS d => exact fun e _ => .upS e
  | downS d => exact fun e _ => .downS e
  | br d ts us l r h1 h2 h3 h4 i3 i4 =>
    intro e he
    obtain ⟨e, rfl⟩ : ∃ e', e = e' + 1 := ⟨e - 1, by omega⟩
    exact .br e ts us l r h1 h2 (fun i t g a b => i3 i t g a b e (by omega)) (fun i t g a b => i4 i t g a b e (by omega))
end TXG


set_option linter.all false
set_option maxRecDepth 100000
set_option maxHeartbeats 4000000
namespace TXG
open PySem SK
def stC (l : List Nat) : Str := ⟨l.toArray⟩
end TXG


set_option Elab.async false
set_option linter.all false
set_option maxRecDepth 100000
set_option maxHeartbeats 4000000
namespace TXG
open PySem L2 TG DL SK
mutual
def gD : G → PyData
  | .mk l r => .tuple [.tuple (gsD l), .tuple (gsD r)]
def gsD : List G → List PyData
  | [] => []
  | g :: gs => gD g :: gsD gs
end
theorem gsD_eq : ∀ l : List G, gsD l = l.map gD
  | [] => rfl
  | g :: gs => by rw [gsD, gsD_eq gs]; rfl
theorem gD_mk (l r : List G) : gD (.mk l r) = .tuple [.tuple (l.map gD), .tuple (r.map gD)] := by rw [gD, gsD_eq, gsD_eq]
theorem gD_eq (g : G) : gD g = .tuple [.tuple (g.lf.map gD), .tuple (g.rt.map gD)] := by cases g; exact gD_mk _ _
theorem ndL_mem : ∀ {gs : List G} {g : G}, g ∈ gs → nd g ≤ ndL gs
  | x :: xs, g, h => by
    rw [ndL]
    rcases List.mem_cons.mp h with rfl | h
    · omega
    · have := ndL_mem h; omega
theorem nd_pos (g : G) : 1 ≤ nd g := by cases g; rw [nd]; omega
theorem ndL_len : ∀ gs : List G, gs.length ≤ ndL gs
  | [] => Nat.zero_le _
  | g :: gs => by
    rw [ndL, List.length_cons]
    have := ndL_len gs
    have := nd_pos g
    omega
theorem nd_eq (g : G) : nd g = 1 + ndL g.lf + ndL g.rt := by cases g; rw [nd]; rfl
theorem nd_lt {g x : G} (h : x ∈ g.lf ∨ x ∈ g.rt) : nd x < nd g := by
  rw [nd_eq g]
  rcases h with h | h
  · have := ndL_mem h; omega
  · have := ndL_mem h; omega
theorem sides_len (g : G) : g.lf.length + g.rt.length < nd g := by
  rw [nd_eq g]
  have := ndL_len g.lf
  have := ndL_len g.rt
  omega
theorem fine_g : ∀ (d : Nat) (g : G), ht g < d → nd g ≤ 40000 → Fine (2 * d) (gD g)
  | 0, g, h, _ => by omega
  | d + 1, g, h, hn => by
    rw [gD_eq g]
    have e : 2 * (d + 1) = (2 * d + 1) + 1 := by omega
    rw [e]
    have sl := sides_len g
    refine Fine.tup (by simp) fun x hx => ?_
    have key : ∀ gs : List G, (∀ y ∈ gs, y ∈ g.lf ∨ y ∈ g.rt) → gs.length ≤ 40000 → Fine (2 * d + 1) (.tuple (gs.map gD)) := fun gs hg hl => by
      refine Fine.tup (by rw [List.length_map]; exact hl) fun y hy => ?_
      obtain ⟨y', hy', rfl⟩ := List.mem_map.mp hy
      have h1 := ht_lt (hg y' hy')
      have h2 := nd_lt (hg y' hy')
      exact fine_g d y' (by omega) (by omega)
    simp at hx
    rcases hx with rfl | rfl
    · exact key _ (fun y hy => .inl hy) (by omega)
    · exact key _ (fun y hy => .inr hy) (by omega)
def CodeOk (l : List Nat) : Prop := ∀ c ∈ l, c < 128
theorem stC_len (l : List Nat) : (stC l).length = l.length := by simp [stC, Str.length]
theorem stC_app (a b : List Nat) : stC a ++ stC b = stC (a ++ b) := by
  refine TL.ext_tl ?_
  rw [TL.tl_append]
  simp [stC, TL.tl]
theorem stC_inj {a b : List Nat} (h : stC a = stC b) : a = b := by
  have := congrArg TL.tl h
  simpa [stC, TL.tl] using this
theorem stC_ok {l : List Nat} (h : CodeOk l) : PyData.strOk (stC l) = true := by
  unfold PyData.strOk stC
  rw [Array.all_eq_true']
  intro x hx
  rw [List.mem_toArray] at hx
  have := h x hx
  rw [decide_eq_true_eq]
  omega
theorem stC_line {l : List Nat} (h : l.length ≤ 100000) : (stC l).length ≤ sizeLine := by rw [stC_len]; exact Nat.le_trans h (by decide)
theorem stC_cut (l : List Nat) (lo hi : Option Int) : cutS (stC l) lo hi = stC ((l.drop (HT.sIx l.length 0 lo)).take (HT.sIx l.length l.length hi - HT.sIx l.length 0 lo)) := by
  unfold cutS
  rw [stC_len]
  rfl
end TXG


set_option Elab.async false
set_option linter.all false
set_option maxRecDepth 100000
set_option maxHeartbeats 4000000
namespace K07D
open PySem L2 TG DL K07 SK TXG
section
variable {P : Program} {w : World} {K : PySem.W.Frag} {mg : Str → Option Value} {base : Heap}
theorem nfD_nG : ∀ x : Nf, nfD x = gD (nG x)
  | .z => by rw [nfD, nG, gD_mk]; rfl
  | .l x => by rw [nfD, nG, gD_mk, nfD_nG x]; rfl
  | .r x => by rw [nfD, nG, gD_mk, nfD_nG x]; rfl
  | .b x y => by rw [nfD, nG, gD_mk, nfD_nG x, nfD_nG y]; rfl
theorem dZ : PyData.tuple [.tuple [], .tuple []] = gD z := by rw [z, gD_mk]; rfl
theorem dS : PyData.tuple [.tuple [gD z], .tuple [gD z]] = gD star := by rw [star, gD_mk]; rfl
theorem dU : PyData.tuple [.tuple [gD z], .tuple [gD star]] = gD up := by rw [up, gD_mk]; rfl
theorem dD : PyData.tuple [.tuple [gD star], .tuple [gD z]] = gD down := by rw [down, gD_mk]; rfl
theorem dUS : PyData.tuple [.tuple [gD z, gD star], .tuple [gD z]] = gD upS := by rw [upS, gD_mk]; rfl
theorem dDS : PyData.tuple [.tuple [gD z], .tuple [gD z, gD star]] = gD downS := by rw [downS, gD_mk]; rfl
def Sm (g : G) : Prop := ht g ≤ 28 ∧ nd g ≤ 1500
theorem Sm.of {g x : G} (h : Sm g) (hx : x ∈ g.lf ∨ x ∈ g.rt) : Sm x := ⟨by have := ht_lt hx; have := h.1; omega, by have := nd_lt hx; have := h.2; omega⟩
def pnD (p : G × Nat) : PyData := .tuple [gD p.1, .int (p.2 : Int)]
def ndS (st : List (G × Nat)) : Nat := (st.map fun p => nd p.1).sum
def F_is_game : FSp := fun args P => ∃ g : G, args = [some (.dat (gD g))] ∧ Sm g ∧ P (.dat (.bool true)) [none]
theorem ok_is_game {k : Nat} (T : Txt K mg)  : FnOk P w K mg base CX0 (k + 1) T.a_is_game T.d_is_game ["value"] (spD K F_is_game) := by
  refine (fun (hA : ∀ args Pz, F_is_game args Pz → args.length = 1) => T.F_is_game.ok (sp := spD K F_is_game) sc_is_game (fun vs H Q E h => spD_len hA h) (fun cdv A outer s H vs Q E hr h => ⟨_, (pss_cons (ps_par (i := 1) (j := 2) rfl sc_is_game.nd rfl rfl (by decide) rfl rfl (pa_cons (pe_lst (pa_cons (pe_tup (pa_cons (pv 0) (pa_cons pe_int pa_nil))) pa_nil)) (pa_cons pe_int pa_nil)) rfl)
  (pss_cons (ps_while PassesOwn.never (pt_cmpR (op_neDK (K := K) rfl hr.units) (pv 1) (pe_lst pa_nil) (nomark _))
  (pss_cons (ps_asg (pe_bm0K (K := K) rfl PySem.F.plainAttrs_list PySem.F.slot_list_pop PySem.F.type_list_pop mt_pop (pv 1)) (pg_tupK (K := K) (n := 2) rfl rfl (pgs_cons (pg_name (i := 3) sc_is_game.nd rfl (Or.inl rfl)) (pgs_cons (pg_name (i := 4) sc_is_game.nd rfl (Or.inr rfl)) pgs_nil))))
  (pss_cons (ps_aug (i := 2) sc_is_game.nd rfl (Or.inl rfl) pe_int ip_add)
  (pss_cons (ps_if (PW.pt (pw_or (pt_cmpR op_gt (pv 2) (pe_glob (v := .int 2000) rfl T.c_MOST_GAME_NODES ⟨_, rfl⟩) (nomark _)) (pw_or (pt_cmpR op_gt (pv 4) (pe_glob (v := .int 40) rfl T.c_MOST_HEIGHT ⟨_, rfl⟩) (nomark _)) (pw_or (pt_not (pt_val (pe_callB (call_isiX (K := K) rfl) rfl T.m_isinstance (by decide +kernel) (pa_cons (pv 3) (pa_cons (pe_bltn (v := .ty "tuple") (u := .type "tuple") rfl T.m_tuple (by decide +kernel) rfl) pa_nil))))) (pw_or1 (pt_cmpR (op_neDK (K := K) rfl hr.units) (pe_callB (call_lenK (K := K) rfl) rfl T.m_len PySem.boot_len (pa_cons (pv 3) pa_nil)) pe_int (nomark _)))))))
  (pss_one (ps_ret pe_bl))
  pss_nil)
  (pss_one (ps_for PassesOwn.never rfl (pi_tupK (K := K) rfl (pv 3)) (pg_name (i := 5) sc_is_game.nd rfl (Or.inl rfl))
  (pss_cons (ps_if (PW.pt (pw_or (pt_not (pt_val (pe_callB (call_isiX (K := K) rfl) rfl T.m_isinstance (by decide +kernel) (pa_cons (pv 5) (pa_cons (pe_bltn (v := .ty "tuple") (u := .type "tuple") rfl T.m_tuple (by decide +kernel) rfl) pa_nil))))) (pw_or1 (pt_cmpR op_gt (pe_callB (call_lenK (K := K) rfl) rfl T.m_len PySem.boot_len (pa_cons (pv 5) pa_nil)) (pe_glob (v := .int 2000) rfl T.c_MOST_GAME_NODES ⟨_, rfl⟩) (nomark _)))))
  (pss_one (ps_ret pe_bl))
  pss_nil)
  (pss_one (ps_expr (pe_bmK (K := K) rfl PySem.F.plainAttrs_list PySem.F.slot_list_extend PySem.F.type_list_extend mt_extend (pv 1) (pa_cons (pe_lc (own := [("option", 6)]) rfl sc_is_game.nd (pi_tupK (K := K) rfl (pv 5)) (blkOk_by (N := ["value", "pending", "many", "told", "depth", "side", "option"]) (sc := defScope s_is_game) (by decide +kernel)) (fun _ _ _ _ _ => (pg_name (i := 6) sc_is_game.nd rfl (Or.inl rfl))) (fun _ _ _ _ _ => pts_nil) (fun _ _ _ _ _ => (pe_tup (pa_cons (pv 6) (pa_cons (pe_op op_add (pv 4) pe_int) pa_nil))))) pa_nil)))))))))))
  (pss_one (ps_ret pe_bl)))), fn_run (N := ["value", "pending", "many", "told", "depth", "side", "option"]) h (fun A' Hz' => (ss_seq (ss_par (by decide) (se_lst (sa_cons (se_tup (sa_cons se_var (sa_cons se_int sa_nil))) sa_nil)) se_int)
  (ss_seq (ss_while (st_test (se_op sr_neD se_var (se_lst sa_nil)))
  (ss_seq (ss_asg se_pop (sg_tup (sgs_cons sg_name (sgs_cons sg_name sgs_nil))))
  (ss_seq (ss_augI se_int)
  (ss_seq (ss_if (st_or (st_test (se_op (sr_I0 (fun _ _ => rfl)) se_var se_int)) (st_or (st_test (se_op (sr_I0 (fun _ _ => rfl)) se_var se_int)) (st_or (st_not (st_B (se_isi rfl se_var))) (st_test (se_op sr_neD (se_cb1 sc_len se_var) se_int)))))
  (ss_ret se_bl)
  ss_next)
  (ss_for (si_tup se_var) sg_name
  (ss_seq (ss_if (st_or (st_not (st_B (se_isi rfl se_var))) (st_test (se_op (sr_I0 (fun _ _ => rfl)) (se_cb1 sc_len se_var) se_int)))
  (ss_ret se_bl)
  ss_next)
  (ss_drop (se_ext (se_lc (si_tup se_var) sg_name st_yes (se_tup (sa_cons se_var (sa_cons (se_op (sr_I0 (fun _ _ => rfl)) se_var se_int) sa_nil))) (by decide))))))))))
  (ss_ret se_bl)))) (fun args P hl hF => ?_) (by rw [spD_len hA h]; exact Nat.le_of_ble_eq_true rfl)⟩)) (fun args P hF => ?_)
  rotate_left
  · obtain ⟨g, rfl, _⟩ := hF
    rfl
  obtain ⟨g, rfl, hg, hP⟩ := hF
  simp -implicitDefEqProofs only [DL.WW, List.isEmpty_nil, List.lookup_cons, List.lookup_nil, List.map, List.length, List.length_cons, List.length_nil, List.length_set, List.replicate, List.append, List.cons_append, List.nil_append, List.append_nil, List.getElem?_cons_zero, List.getElem?_cons_succ, List.getElem?_nil, List.set_cons_zero, List.set_cons_succ, ↓reduceIte, Bool.false_eq_true, Bool.not_true, Bool.not_false, Bool.true_and, Bool.false_and, Bool.and_true, Bool.and_false, Bool.or_true, Bool.or_false, Bool.true_or, Bool.false_or, Nat.reduceAdd, Nat.reduceSub, Nat.reduceLT, Nat.reduceLeDiff, true_and, and_true, and_self, decide_eq_true_eq, Nat.zero_lt_succ, Nat.lt_add_left_iff_pos, beq_self_eq_true, String.reduceBEq, String.reduceEq, Nat.le_refl, Nat.zero_le, Bool.true_eq_false, decide_true, decide_false, Int.reduceEq, Int.reduceLT, Int.reduceLE, Int.reduceSub, Int.reduceAdd, DL.wIfT, DL.wListRg, DL.eSortT, DL.eAddS, DL.eInS, DL.eLenS, DL.wSlS, DL.wI2, DL.evd_mx, DL.evd_mn, DL.evd_gcd, DL.wIStr, DL.wIEnumS, DL.eJnL, DL.eJnT, DL.wJoin, DL.eStrI, DL.eIntS, DL.strsD_map]
  refine ⟨fun m e => ∃ (st : List (G × Nat)) (many : Nat) (z3 z4 z5 : Option B), m = ndS st ∧ many + ndS st = nd g ∧ (∀ p ∈ st, ht p.1 + p.2 ≤ 28) ∧
    e = [some (.dat (gD g)), some (.ob none (.lst (st.map pnD))), some (.dat (.int many)), z3, z4, z5, none], ⟨nd g, [(g, 0)], 0, none, none, none, ?_, ?_, ?_, rfl⟩, ?_⟩
  · simp [ndS]
  · simp [ndS]
  · intro p hp
    rw [List.mem_singleton] at hp
    subst hp
    exact hg.1
  rintro m e ⟨st, many, z3, z4, z5, rfl, hm, hh, rfl⟩
  simp -implicitDefEqProofs only [DL.WW, List.isEmpty_nil, List.lookup_cons, List.lookup_nil, List.map, List.length, List.length_cons, List.length_nil, List.length_set, List.replicate, List.append, List.cons_append, List.nil_append, List.append_nil, List.getElem?_cons_zero, List.getElem?_cons_succ, List.getElem?_nil, List.set_cons_zero, List.set_cons_succ, ↓reduceIte, Bool.false_eq_true, Bool.not_true, Bool.not_false, Bool.true_and, Bool.false_and, Bool.and_true, Bool.and_false, Bool.or_true, Bool.or_false, Bool.true_or, Bool.false_or, Nat.reduceAdd, Nat.reduceSub, Nat.reduceLT, Nat.reduceLeDiff, true_and, and_true, and_self, decide_eq_true_eq, Nat.zero_lt_succ, Nat.lt_add_left_iff_pos, beq_self_eq_true, String.reduceBEq, String.reduceEq, Nat.le_refl, Nat.zero_le, Bool.true_eq_false, decide_true, decide_false, Int.reduceEq, Int.reduceLT, Int.reduceLE, Int.reduceSub, Int.reduceAdd, DL.wIfT, DL.wListRg, DL.eSortT, DL.eAddS, DL.eInS, DL.eLenS, DL.wSlS, DL.wI2, DL.evd_mx, DL.evd_mn, DL.evd_gcd, DL.wIStr, DL.wIEnumS, DL.eJnL, DL.eJnT, DL.wJoin, DL.eStrI, DL.eIntS, DL.strsD_map]
  have hsl : ∀ st : List (G × Nat), st.length ≤ ndS st := fun st => by
    induction st with
    | nil => exact Nat.zero_le _
    | cons p st ih =>
      have := nd_pos p.1
      simp only [ndS, List.map_cons, List.sum_cons, List.length_cons] at ih ⊢
      omega
  have hmem : ∀ (st : List (G × Nat)) (p : G × Nat), p ∈ st → nd p.1 ≤ ndS st := fun st p hp => by
    induction st with
    | nil => cases hp
    | cons q st ih =>
      simp only [ndS, List.map_cons, List.sum_cons] at ih ⊢
      rcases List.mem_cons.mp hp with rfl | hp
      · omega
      · have := ih hp; omega
  have hg2 := hg.2
  have hl := hsl st
  have shp : SeqAt.shaped (.list (st.map pnD)) = true := by
    refine (Fine.lst (m := 63) (by rw [List.length_map]; omega) fun x hx => ?_).ok (by decide)
    obtain ⟨p, hp, rfl⟩ := List.mem_map.mp hx
    have h1 := hh p hp
    have h2 := hmem st p hp
    refine Fine.tup (m := 62) (by simp) fun y hy => ?_
    simp at hy
    rcases hy with rfl | rfl
    · exact fine_g 31 _ (by omega) (by omega)
    · exact Fine.int _
  refine ⟨shp, ?_⟩
  rcases List.eq_nil_or_concat st with rfl | ⟨st', ⟨h, d⟩, rfl⟩
  · simp -implicitDefEqProofs only [DL.WW, List.isEmpty_nil, List.lookup_cons, List.lookup_nil, List.map, List.length, List.length_cons, List.length_nil, List.length_set, List.replicate, List.append, List.cons_append, List.nil_append, List.append_nil, List.getElem?_cons_zero, List.getElem?_cons_succ, List.getElem?_nil, List.set_cons_zero, List.set_cons_succ, ↓reduceIte, Bool.false_eq_true, Bool.not_true, Bool.not_false, Bool.true_and, Bool.false_and, Bool.and_true, Bool.and_false, Bool.or_true, Bool.or_false, Bool.true_or, Bool.false_or, Nat.reduceAdd, Nat.reduceSub, Nat.reduceLT, Nat.reduceLeDiff, true_and, and_true, and_self, decide_eq_true_eq, Nat.zero_lt_succ, Nat.lt_add_left_iff_pos, beq_self_eq_true, String.reduceBEq, String.reduceEq, Nat.le_refl, Nat.zero_le, Bool.true_eq_false, decide_true, decide_false, Int.reduceEq, Int.reduceLT, Int.reduceLE, Int.reduceSub, Int.reduceAdd, DL.wIfT, DL.wListRg, DL.eSortT, DL.eAddS, DL.eInS, DL.eLenS, DL.wSlS, DL.wI2, DL.evd_mx, DL.evd_mn, DL.evd_gcd, DL.wIStr, DL.wIEnumS, DL.eJnL, DL.eJnT, DL.wJoin, DL.eStrI, DL.eIntS, DL.strsD_map, List.map_nil]
    exact hP
  · have e1 : (List.map pnD (st'.concat (h, d)))[(List.map pnD (st'.concat (h, d))).length - 1]? = some (pnD (h, d)) := by simp
    have e2 : (List.map pnD (st'.concat (h, d))).isEmpty = false := by simp
    have e3 : (List.map pnD (st'.concat (h, d))).dropLast = st'.map pnD := by simp
    have e4 : ndS (st'.concat (h, d)) = ndS st' + nd h := by simp [ndS]
    rw [e1, e2, e3, e4]
    rw [e4] at hm
    have hdep : ht h + d ≤ 28 := hh (h, d) (by simp)
    have hpos := nd_pos h
    have c1 : ¬ (2000 : Int) < (many : Int) + 1 := by omega
    have c2 : ¬ (40 : Int) < (d : Int) := by omega
    have ep : pnD (h, d) = .tuple [gD h, .int (d : Int)] := rfl
    rw [ep]
    simp -implicitDefEqProofs only [DL.WW, List.isEmpty_nil, List.lookup_cons, List.lookup_nil, List.map, List.length, List.length_cons, List.length_nil, List.length_set, List.replicate, List.append, List.cons_append, List.nil_append, List.append_nil, List.getElem?_cons_zero, List.getElem?_cons_succ, List.getElem?_nil, List.set_cons_zero, List.set_cons_succ, ↓reduceIte, Bool.false_eq_true, Bool.not_true, Bool.not_false, Bool.true_and, Bool.false_and, Bool.and_true, Bool.and_false, Bool.or_true, Bool.or_false, Bool.true_or, Bool.false_or, Nat.reduceAdd, Nat.reduceSub, Nat.reduceLT, Nat.reduceLeDiff, true_and, and_true, and_self, decide_eq_true_eq, Nat.zero_lt_succ, Nat.lt_add_left_iff_pos, beq_self_eq_true, String.reduceBEq, String.reduceEq, Nat.le_refl, Nat.zero_le, Bool.true_eq_false, decide_true, decide_false, Int.reduceEq, Int.reduceLT, Int.reduceLE, Int.reduceSub, Int.reduceAdd, DL.wIfT, DL.wListRg, DL.eSortT, DL.eAddS, DL.eInS, DL.eLenS, DL.wSlS, DL.wI2, DL.evd_mx, DL.evd_mn, DL.evd_gcd, DL.wIStr, DL.wIEnumS, DL.eJnL, DL.eJnT, DL.wJoin, DL.eStrI, DL.eIntS, DL.strsD_map, c1, c2, gD_eq h]
    have e7 : ndS (st' ++ ([h.lf, h.rt].take [PyData.tuple (List.map gD h.lf), PyData.tuple (List.map gD h.rt)].length).flatten.map (fun x => (x, d + 1))) = ndS st' + ndL h.lf + ndL h.rt := by
      have q : ∀ l : List G, (l.map nd).sum = ndL l := fun l => by
        induction l with
        | nil => rfl
        | cons x l ih => rw [List.map_cons, List.sum_cons, ih, ndL]
      have q2 : ((fun p : G × Nat => nd p.1) ∘ fun x : G => (x, d + 1)) = nd := rfl
      simp only [ndS, List.length_cons, List.length_nil, List.take_succ_cons, List.take_zero, List.flatten_cons, List.flatten_nil, List.append_nil, List.map_append, List.sum_append, List.map_map, q2, q]
      omega
    refine for_use ?_
    simp -implicitDefEqProofs only [DL.WW, List.isEmpty_nil, List.lookup_cons, List.lookup_nil, List.map, List.length, List.length_cons, List.length_nil, List.length_set, List.replicate, List.append, List.cons_append, List.nil_append, List.append_nil, List.getElem?_cons_zero, List.getElem?_cons_succ, List.getElem?_nil, List.set_cons_zero, List.set_cons_succ, ↓reduceIte, Bool.false_eq_true, Bool.not_true, Bool.not_false, Bool.true_and, Bool.false_and, Bool.and_true, Bool.and_false, Bool.or_true, Bool.or_false, Bool.true_or, Bool.false_or, Nat.reduceAdd, Nat.reduceSub, Nat.reduceLT, Nat.reduceLeDiff, true_and, and_true, and_self, decide_eq_true_eq, Nat.zero_lt_succ, Nat.lt_add_left_iff_pos, beq_self_eq_true, String.reduceBEq, String.reduceEq, Nat.le_refl, Nat.zero_le, Bool.true_eq_false, decide_true, decide_false, Int.reduceEq, Int.reduceLT, Int.reduceLE, Int.reduceSub, Int.reduceAdd, DL.wIfT, DL.wListRg, DL.eSortT, DL.eAddS, DL.eInS, DL.eLenS, DL.wSlS, DL.wI2, DL.evd_mx, DL.evd_mn, DL.evd_gcd, DL.wIStr, DL.wIEnumS, DL.eJnL, DL.eJnT, DL.wJoin, DL.eStrI, DL.eIntS, DL.strsD_map]
    refine ⟨fun j e => ∃ z5, e = [some (.dat (gD g)), some (.ob none (.lst ((st' ++ ([h.lf, h.rt].take j).flatten.map (fun x => (x, d + 1))).map pnD))), some (.dat (.int (((many + 1 : Nat)) : Int))), some (.dat (gD h)), some (.dat (.int d)), z5, none], ⟨z5, ?_⟩, ?_, ?_⟩
    · rw [gD_eq h]
      simp
    · rintro j x e hx ⟨z5, rfl⟩
      obtain ⟨sd, rfl, hsd, ht2⟩ : ∃ sd : List G, x = .tuple (sd.map gD) ∧ (sd = h.lf ∨ sd = h.rt) ∧ ([h.lf, h.rt].take (j + 1)).flatten = ([h.lf, h.rt].take j).flatten ++ sd := by
        have hj := (List.getElem?_eq_some_iff.mp hx).1
        have : j = 0 ∨ j = 1 := by simp at hj; omega
        rcases this with rfl | rfl
        · simp at hx
          exact ⟨h.lf, hx.symm, .inl rfl, by simp⟩
        · simp at hx
          exact ⟨h.rt, hx.symm, .inr rfl, by simp⟩
      have hsl2 := sides_len h
      have hsdl : sd.length ≤ 1500 := by rcases hsd with rfl | rfl <;> omega
      have c3 : ¬ (2000 : Int) < ((sd.length : Nat) : Int) := by omega
      dsimp only
      rw [ht2]
      have hl5 : (st' ++ ([h.lf, h.rt].take j).flatten.map (fun x => (x, d + 1))).length ≤ 4000 := by
        have hj := (List.getElem?_eq_some_iff.mp hx).1
        have h9 : st'.length ≤ ndS st' := hsl st'
        have : j = 0 ∨ j = 1 := by simp at hj; omega
        rcases this with rfl | rfl <;> simp <;> omega
      have e9 : st' ++ (([h.lf, h.rt].take j).flatten ++ sd).map (fun x => (x, d + 1)) = (st' ++ ([h.lf, h.rt].take j).flatten.map (fun x => (x, d + 1))) ++ sd.map (fun x => (x, d + 1)) := by simp
      rw [e9]
      generalize st' ++ ([h.lf, h.rt].take j).flatten.map (fun x => (x, d + 1)) = AC at hl5 ⊢
      simp -implicitDefEqProofs only [DL.WW, List.isEmpty_nil, List.lookup_cons, List.lookup_nil, List.map, List.length, List.length_cons, List.length_nil, List.length_set, List.replicate, List.append, List.cons_append, List.nil_append, List.append_nil, List.getElem?_cons_zero, List.getElem?_cons_succ, List.getElem?_nil, List.set_cons_zero, List.set_cons_succ, ↓reduceIte, Bool.false_eq_true, Bool.not_true, Bool.not_false, Bool.true_and, Bool.false_and, Bool.and_true, Bool.and_false, Bool.or_true, Bool.or_false, Bool.true_or, Bool.false_or, Nat.reduceAdd, Nat.reduceSub, Nat.reduceLT, Nat.reduceLeDiff, true_and, and_true, and_self, decide_eq_true_eq, Nat.zero_lt_succ, Nat.lt_add_left_iff_pos, beq_self_eq_true, String.reduceBEq, String.reduceEq, Nat.le_refl, Nat.zero_le, Bool.true_eq_false, decide_true, decide_false, Int.reduceEq, Int.reduceLT, Int.reduceLE, Int.reduceSub, Int.reduceAdd, DL.wIfT, DL.wListRg, DL.eSortT, DL.eAddS, DL.eInS, DL.eLenS, DL.wSlS, DL.wI2, DL.evd_mx, DL.evd_mn, DL.evd_gcd, DL.wIStr, DL.wIEnumS, DL.eJnL, DL.eJnT, DL.wJoin, DL.eStrI, DL.eIntS, DL.strsD_map, List.length_map, c3]
      refine lc_use ?_
      simp -implicitDefEqProofs only [DL.WW, List.isEmpty_nil, List.lookup_cons, List.lookup_nil, List.map, List.length, List.length_cons, List.length_nil, List.length_set, List.replicate, List.append, List.cons_append, List.nil_append, List.append_nil, List.getElem?_cons_zero, List.getElem?_cons_succ, List.getElem?_nil, List.set_cons_zero, List.set_cons_succ, ↓reduceIte, Bool.false_eq_true, Bool.not_true, Bool.not_false, Bool.true_and, Bool.false_and, Bool.and_true, Bool.and_false, Bool.or_true, Bool.or_false, Bool.true_or, Bool.false_or, Nat.reduceAdd, Nat.reduceSub, Nat.reduceLT, Nat.reduceLeDiff, true_and, and_true, and_self, decide_eq_true_eq, Nat.zero_lt_succ, Nat.lt_add_left_iff_pos, beq_self_eq_true, String.reduceBEq, String.reduceEq, Nat.le_refl, Nat.zero_le, Bool.true_eq_false, decide_true, decide_false, Int.reduceEq, Int.reduceLT, Int.reduceLE, Int.reduceSub, Int.reduceAdd, DL.wIfT, DL.wListRg, DL.eSortT, DL.eAddS, DL.eInS, DL.eLenS, DL.wSlS, DL.wI2, DL.evd_mx, DL.evd_mn, DL.evd_gcd, DL.wIStr, DL.wIEnumS, DL.eJnL, DL.eJnT, DL.wJoin, DL.eStrI, DL.eIntS, DL.strsD_map]
      refine lc_acc (fun j => (sd.take j).map fun x => pnD (x, d + 1)) rfl rfl (fun j hj => ?_) (fun j y hy => ?_) ?_
      · rw [List.length_map] at hj
        rw [List.length_map, List.length_take]
        omega
      · obtain ⟨y', hy', rfl⟩ := map_get hy
        simp -implicitDefEqProofs only [DL.WW, List.isEmpty_nil, List.lookup_cons, List.lookup_nil, List.map, List.length, List.length_cons, List.length_nil, List.length_set, List.replicate, List.append, List.cons_append, List.nil_append, List.append_nil, List.getElem?_cons_zero, List.getElem?_cons_succ, List.getElem?_nil, List.set_cons_zero, List.set_cons_succ, ↓reduceIte, Bool.false_eq_true, Bool.not_true, Bool.not_false, Bool.true_and, Bool.false_and, Bool.and_true, Bool.and_false, Bool.or_true, Bool.or_false, Bool.true_or, Bool.false_or, Nat.reduceAdd, Nat.reduceSub, Nat.reduceLT, Nat.reduceLeDiff, true_and, and_true, and_self, decide_eq_true_eq, Nat.zero_lt_succ, Nat.lt_add_left_iff_pos, beq_self_eq_true, String.reduceBEq, String.reduceEq, Nat.le_refl, Nat.zero_le, Bool.true_eq_false, decide_true, decide_false, Int.reduceEq, Int.reduceLT, Int.reduceLE, Int.reduceSub, Int.reduceAdd, DL.wIfT, DL.wListRg, DL.eSortT, DL.eAddS, DL.eInS, DL.eLenS, DL.wSlS, DL.wI2, DL.evd_mx, DL.evd_mn, DL.evd_gcd, DL.wIStr, DL.wIEnumS, DL.eJnL, DL.eJnT, DL.wJoin, DL.eStrI, DL.eIntS, DL.strsD_map]
        rw [List.take_succ, hy', List.map_append]
        rfl
      · have e8 : (sd.take (sd.map gD).length).map (fun x => pnD (x, d + 1)) = (sd.map (fun x => (x, d + 1))).map pnD := by rw [List.length_map, List.take_length, List.map_map]; rfl
        rw [e8]
        simp -implicitDefEqProofs only [DL.WW, List.isEmpty_nil, List.lookup_cons, List.lookup_nil, List.map, List.length, List.length_cons, List.length_nil, List.length_set, List.replicate, List.append, List.cons_append, List.nil_append, List.append_nil, List.getElem?_cons_zero, List.getElem?_cons_succ, List.getElem?_nil, List.set_cons_zero, List.set_cons_succ, ↓reduceIte, Bool.false_eq_true, Bool.not_true, Bool.not_false, Bool.true_and, Bool.false_and, Bool.and_true, Bool.and_false, Bool.or_true, Bool.or_false, Bool.true_or, Bool.false_or, Nat.reduceAdd, Nat.reduceSub, Nat.reduceLT, Nat.reduceLeDiff, true_and, and_true, and_self, decide_eq_true_eq, Nat.zero_lt_succ, Nat.lt_add_left_iff_pos, beq_self_eq_true, String.reduceBEq, String.reduceEq, Nat.le_refl, Nat.zero_le, Bool.true_eq_false, decide_true, decide_false, Int.reduceEq, Int.reduceLT, Int.reduceLE, Int.reduceSub, Int.reduceAdd, DL.wIfT, DL.wListRg, DL.eSortT, DL.eAddS, DL.eInS, DL.eLenS, DL.wSlS, DL.wI2, DL.evd_mx, DL.evd_mn, DL.evd_gcd, DL.wIStr, DL.wIEnumS, DL.eJnL, DL.eJnT, DL.wJoin, DL.eStrI, DL.eIntS, DL.strsD_map, List.length_map, List.map_append]
        exact ⟨by omega, _, rfl⟩
    · rintro e ⟨z5, rfl⟩
      refine ⟨ndS st' + ndL h.lf + ndL h.rt, by rw [nd_eq h]; omega, _, many + 1, _, _, _, ?_, ?_, ?_, rfl⟩
      · rw [e7]
      · rw [e7]
        rw [nd_eq h] at hm
        omega
      · intro p hp
        rcases List.mem_append.mp hp with hp | hp
        · exact hh p (by simp [hp])
        · obtain ⟨x, hx, rfl⟩ := List.mem_map.mp hp
          have : x ∈ h.lf ∨ x ∈ h.rt := by simpa using hx
          have := ht_lt this
          show ht x + (d + 1) ≤ 28
          omega
def F_need_game : FSp := fun args P => ∃ g : G, args = [some (.dat (gD g))] ∧ Sm g ∧ P (.dat .none) [none]
def F_nimber_form : FSp := fun args P => ∃ k : Nat, args = [some (.dat (.int (k : Int)))] ∧ k ≤ 10 ∧ P (.dat (gD (nimG k))) [none]
theorem ok_nimber_form {k : Nat} (T : Txt K mg)  : FnOk P w K mg base CX0 (k + 1) T.a_nimber_form T.d_nimber_form ["size"] (spD K F_nimber_form) := by
  refine (fun (hA : ∀ args Pz, F_nimber_form args Pz → args.length = 1) => T.F_nimber_form.ok (sp := spD K F_nimber_form) sc_nimber_form (fun vs H Q E h => spD_len hA h) (fun cdv A outer s H vs Q E hr h => ⟨_, (pss_cons (ps_set (i := 1) sc_nimber_form.nd rfl (Or.inl rfl) (pe_lst pa_nil))
  (pss_cons (ps_for PassesOwn.never rfl (pi_range1 rfl T.m_range (pa_cons (pv 0) pa_nil)) (pg_name (i := 2) sc_nimber_form.nd rfl (Or.inl rfl))
  (pss_one (ps_expr (pe_bmK (K := K) rfl PySem.F.plainAttrs_list PySem.F.slot_list_append PySem.F.type_list_append mt_append (pv 1) (pa_cons (pe_tup (pa_cons (pe_callTy (call_tuple_ofK (K := K) rfl) rfl T.m_tuple (by decide +kernel) (pa_cons (pv 1) pa_nil)) (pa_cons (pe_callTy (call_tuple_ofK (K := K) rfl) rfl T.m_tuple (by decide +kernel) (pa_cons (pv 1) pa_nil)) pa_nil))) pa_nil)))))
  (pss_one (ps_ret (pe_tup (pa_cons (pe_callTy (call_tuple_ofK (K := K) rfl) rfl T.m_tuple (by decide +kernel) (pa_cons (pv 1) pa_nil)) (pa_cons (pe_callTy (call_tuple_ofK (K := K) rfl) rfl T.m_tuple (by decide +kernel) (pa_cons (pv 1) pa_nil)) pa_nil))))))), fn_run (N := ["size", "rows", "at"]) h (fun A' Hz' => (ss_seq (ss_asg (se_lst sa_nil) sg_name)
  (ss_seq (ss_for (si_rng1 se_var) sg_name
  (ss_drop (se_app (se_tup (sa_cons (se_cb1 sc_tupOf se_var) (sa_cons (se_cb1 sc_tupOf se_var) sa_nil))))))
  (ss_ret (se_tup (sa_cons (se_cb1 sc_tupOf se_var) (sa_cons (se_cb1 sc_tupOf se_var) sa_nil))))))) (fun args P hl hF => ?_) (by rw [spD_len hA h]; exact Nat.le_of_ble_eq_true rfl)⟩)) (fun args P hF => ?_)
  rotate_left
  · obtain ⟨k, rfl, _⟩ := hF
    rfl
  obtain ⟨k, rfl, hk, hP⟩ := hF
  simp -implicitDefEqProofs only [DL.WW, List.isEmpty_nil, List.lookup_cons, List.lookup_nil, List.map, List.length, List.length_cons, List.length_nil, List.length_set, List.replicate, List.append, List.cons_append, List.nil_append, List.append_nil, List.getElem?_cons_zero, List.getElem?_cons_succ, List.getElem?_nil, List.set_cons_zero, List.set_cons_succ, ↓reduceIte, Bool.false_eq_true, Bool.not_true, Bool.not_false, Bool.true_and, Bool.false_and, Bool.and_true, Bool.and_false, Bool.or_true, Bool.or_false, Bool.true_or, Bool.false_or, Nat.reduceAdd, Nat.reduceSub, Nat.reduceLT, Nat.reduceLeDiff, true_and, and_true, and_self, decide_eq_true_eq, Nat.zero_lt_succ, Nat.lt_add_left_iff_pos, beq_self_eq_true, String.reduceBEq, String.reduceEq, Nat.le_refl, Nat.zero_le, Bool.true_eq_false, decide_true, decide_false, Int.reduceEq, Int.reduceLT, Int.reduceLE, Int.reduceSub, Int.reduceAdd, DL.wIfT, DL.wListRg, DL.eSortT, DL.eAddS, DL.eInS, DL.eLenS, DL.wSlS, DL.wI2, DL.evd_mx, DL.evd_mn, DL.evd_gcd, DL.wIStr, DL.wIEnumS, DL.eJnL, DL.eJnT, DL.wJoin, DL.eStrI, DL.eIntS, DL.strsD_map]
  refine for_use ?_
  simp -implicitDefEqProofs only [DL.WW, List.isEmpty_nil, List.lookup_cons, List.lookup_nil, List.map, List.length, List.length_cons, List.length_nil, List.length_set, List.replicate, List.append, List.cons_append, List.nil_append, List.append_nil, List.getElem?_cons_zero, List.getElem?_cons_succ, List.getElem?_nil, List.set_cons_zero, List.set_cons_succ, ↓reduceIte, Bool.false_eq_true, Bool.not_true, Bool.not_false, Bool.true_and, Bool.false_and, Bool.and_true, Bool.and_false, Bool.or_true, Bool.or_false, Bool.true_or, Bool.false_or, Nat.reduceAdd, Nat.reduceSub, Nat.reduceLT, Nat.reduceLeDiff, true_and, and_true, and_self, decide_eq_true_eq, Nat.zero_lt_succ, Nat.lt_add_left_iff_pos, beq_self_eq_true, String.reduceBEq, String.reduceEq, Nat.le_refl, Nat.zero_le, Bool.true_eq_false, decide_true, decide_false, Int.reduceEq, Int.reduceLT, Int.reduceLE, Int.reduceSub, Int.reduceAdd, DL.wIfT, DL.wListRg, DL.eSortT, DL.eAddS, DL.eInS, DL.eLenS, DL.wSlS, DL.wI2, DL.evd_mx, DL.evd_mn, DL.evd_gcd, DL.wIStr, DL.wIEnumS, DL.eJnL, DL.eJnT, DL.wJoin, DL.eStrI, DL.eIntS, DL.strsD_map]
  have hrl : ∀ m, (rangeD 0 m).length = m := fun m => by simp [rangeD]
  have nl : ∀ k, (nimL k).length = k := fun k => by
    induction k with
    | zero => rfl
    | succ k ih => rw [nimL, List.length_append, ih]; rfl
  refine ⟨⟨by omega, by omega⟩, fun i e => ∃ z, e = [some (.dat (.int k)), some (.ob none (.lst ((nimL i).map gD))), z], ⟨none, rfl⟩, ?_, ?_⟩
  · rintro i d e hd ⟨z, rfl⟩
    have hi := (List.getElem?_eq_some_iff.mp hd).1
    rw [hrl] at hi
    simp -implicitDefEqProofs only [DL.WW, List.isEmpty_nil, List.lookup_cons, List.lookup_nil, List.map, List.length, List.length_cons, List.length_nil, List.length_set, List.replicate, List.append, List.cons_append, List.nil_append, List.append_nil, List.getElem?_cons_zero, List.getElem?_cons_succ, List.getElem?_nil, List.set_cons_zero, List.set_cons_succ, ↓reduceIte, Bool.false_eq_true, Bool.not_true, Bool.not_false, Bool.true_and, Bool.false_and, Bool.and_true, Bool.and_false, Bool.or_true, Bool.or_false, Bool.true_or, Bool.false_or, Nat.reduceAdd, Nat.reduceSub, Nat.reduceLT, Nat.reduceLeDiff, true_and, and_true, and_self, decide_eq_true_eq, Nat.zero_lt_succ, Nat.lt_add_left_iff_pos, beq_self_eq_true, String.reduceBEq, String.reduceEq, Nat.le_refl, Nat.zero_le, Bool.true_eq_false, decide_true, decide_false, Int.reduceEq, Int.reduceLT, Int.reduceLE, Int.reduceSub, Int.reduceAdd, DL.wIfT, DL.wListRg, DL.eSortT, DL.eAddS, DL.eInS, DL.eLenS, DL.wSlS, DL.wI2, DL.evd_mx, DL.evd_mn, DL.evd_gcd, DL.wIStr, DL.wIEnumS, DL.eJnL, DL.eJnT, DL.wJoin, DL.eStrI, DL.eIntS, DL.strsD_map, List.length_map, nl]
    refine ⟨by omega, some (.dat d), ?_⟩
    rw [nimL, List.map_append, List.map_singleton, gD_mk]
  · rintro e ⟨z, rfl⟩
    rw [hrl]
    simp -implicitDefEqProofs only [DL.WW, List.isEmpty_nil, List.lookup_cons, List.lookup_nil, List.map, List.length, List.length_cons, List.length_nil, List.length_set, List.replicate, List.append, List.cons_append, List.nil_append, List.append_nil, List.getElem?_cons_zero, List.getElem?_cons_succ, List.getElem?_nil, List.set_cons_zero, List.set_cons_succ, ↓reduceIte, Bool.false_eq_true, Bool.not_true, Bool.not_false, Bool.true_and, Bool.false_and, Bool.and_true, Bool.and_false, Bool.or_true, Bool.or_false, Bool.true_or, Bool.false_or, Nat.reduceAdd, Nat.reduceSub, Nat.reduceLT, Nat.reduceLeDiff, true_and, and_true, and_self, decide_eq_true_eq, Nat.zero_lt_succ, Nat.lt_add_left_iff_pos, beq_self_eq_true, String.reduceBEq, String.reduceEq, Nat.le_refl, Nat.zero_le, Bool.true_eq_false, decide_true, decide_false, Int.reduceEq, Int.reduceLT, Int.reduceLE, Int.reduceSub, Int.reduceAdd, DL.wIfT, DL.wListRg, DL.eSortT, DL.eAddS, DL.eInS, DL.eLenS, DL.wSlS, DL.wI2, DL.evd_mx, DL.evd_mn, DL.evd_gcd, DL.wIStr, DL.wIEnumS, DL.eJnL, DL.eJnT, DL.wJoin, DL.eStrI, DL.eIntS, DL.strsD_map]
    unfold nimG at hP
    rw [gD_mk] at hP
    exact hP
def F_integer_of : FSp := fun args P => ∃ g : G, args = [some (.dat (gD g))] ∧ Sm g ∧ P (.dat (match intOf 18 0 g with | none => .none | some n => .int n)) [none]
end
end K07D


set_option linter.all false
set_option maxRecDepth 100000
set_option maxHeartbeats 4000000
namespace TXG
open PySem SK
def CdOk (l : List Nat) : Prop := ∀ c ∈ l, c < 128
end TXG


set_option linter.all false
set_option maxRecDepth 100000
set_option maxHeartbeats 4000000
namespace TXG
open SK
def Dg (c : Nat) : Prop := 48 ≤ c ∧ c ≤ 57
def Sp (r : List Nat) : Prop := ∀ c, r[0]? = some c → c = 44 ∨ c = 124 ∨ c = 125
end TXG


set_option linter.all false
set_option maxRecDepth 100000
set_option maxHeartbeats 4000000
namespace TXG
open SK
inductive R (α : Type) where
  | out : R α
  | err (n : Nat) : R α
  | ok (a : α) (r : List Nat) : R α
def dgB (c : Nat) : Bool := decide (48 ≤ c) && decide (c ≤ 57)
theorem dgB_iff (c : Nat) : dgB c = true ↔ Dg c := by unfold dgB Dg; simp
def spanD : List Nat → List Nat × List Nat
  | [] => ([], [])
  | c :: s => if dgB c then (c :: (spanD s).1, (spanD s).2) else ([], c :: s)
def valD (ds : List Nat) : Nat := PySem.NumText.digitsVal ds
def whole (s : List Nat) (n0 : Nat) : R Nat :=
  if (spanD s).1 = [] then .err s.length
  else if 4 < (spanD s).1.length ∨ (s.headD 0 = 48 ∧ 1 < (spanD s).1.length) then .err n0
  else .ok (valD (spanD s).1) (spanD s).2
def numR (neg : Bool) (p : Nat) (n0 : Nat) : List Nat → R G := fun r =>
  if r.headD 0 = 47 then match whole (r.drop 1) n0 with
    | .out => .out
    | .err n => .err n
    | .ok b r2 => if ¬ (b = 2 ∨ b = 4 ∨ b = 8 ∨ b = 16) ∨ p % 2 = 0 then .err n0
      else if 16 * b < p then .err n0 else .ok (numG (if neg then -(p : Int) else p) (logB b)) r2
  else if 16 < p then .err n0 else .ok (numG (if neg then -(p : Int) else p) 0) r
def number (s : List Nat) : R G :=
  match whole (if s.headD 0 = 45 then s.drop 1 else s) s.length with
  | .out => .out
  | .err n => .err n
  | .ok p r => if s.headD 0 = 45 ∧ p = 0 then .err s.length else numR (decide (s.headD 0 = 45)) p s.length r
def starR (s : List Nat) : R G :=
  if (spanD (s.drop 1)).1 = [] then .ok star (s.drop 1)
  else if 1 < (spanD (s.drop 1)).1.length ∨ ¬ (50 ≤ (s.drop 1).headD 0 ∧ (s.drop 1).headD 0 ≤ 53) then .err s.length
  else .ok (nimG ((s.drop 1).headD 0 - 48)) (spanD (s.drop 1)).2
def items (f : List Nat → R G) (last : Nat) : Nat → List Nat → R (List G)
  | 0, _ => .out
  | k + 1, s => match f s with
    | .out => .out
    | .err n => .err n
    | .ok g r => match r with
      | [] => .err 0
      | c :: r' => if c = last then .ok [g] r' else if c = 44 then (match items f last k r' with
        | .out => .out
        | .err n => .err n
        | .ok gs r2 => .ok (g :: gs) r2) else .err (r'.length + 1)
def side (f : List Nat → R G) (last : Nat) (s : List Nat) : R (List G) :=
  if s.head? = some last then .ok [] (s.drop 1) else items f last (s.length + 1) s
def brace (f : List Nat → R G) (s : List Nat) : R G :=
  match side f 124 s with
  | .out => .out
  | .err n => .err n
  | .ok l r => match side f 125 r with
    | .out => .out
    | .err n => .err n
    | .ok l2 r2 => .ok (.mk l l2) r2
def rf : Nat → List Nat → R G
  | _, [] => .err 0
  | d, c :: s => if c = 45 ∨ dgB c = true then number (c :: s) else if c = 42 then starR (c :: s)
    else if c = 94 ∨ c = 118 then (if s.head? = some 42 then .ok (if c = 94 then upS else downS) (s.drop 1) else .ok (if c = 94 then up else down) s)
    else if ¬ c = 123 then .err (s.length + 1)
    else match d with
      | 0 => .out
      | d + 1 => brace (rf d) s
theorem rf_nil (d : Nat) : rf d [] = .err 0 := by cases d <;> rfl
theorem rf_cons (d c : Nat) (s : List Nat) : rf d (c :: s) = if c = 45 ∨ dgB c = true then number (c :: s) else if c = 42 then starR (c :: s)
    else if c = 94 ∨ c = 118 then (if s.head? = some 42 then .ok (if c = 94 then upS else downS) (s.drop 1) else .ok (if c = 94 then up else down) s)
    else if ¬ c = 123 then .err (s.length + 1)
    else match d with
      | 0 => .out
      | d + 1 => brace (rf d) s := by cases d <;> rfl
def deepAt : Int → Nat → List Nat → Option Nat
  | _, _, [] => none
  | n, i, c :: r => if c = 123 then (if 60 < n + 1 then some i else deepAt (n + 1) (i + 1) r) else if c = 125 then deepAt (n - 1) (i + 1) r else deepAt n (i + 1) r
inductive RR where
  | out : RR
  | err (place : Nat) : RR
  | ok (g : G) : RR
def cutX (x : List Nat) : List Nat := match deepAt 0 0 x with
  | none => x
  | some i => x.take i ++ [63]
def readR (x : List Nat) : RR := match rf 60 (cutX x) with
  | .out => .out
  | .err n => .err ((cutX x).length - n)
  | .ok g r => if (cutX x).length - r.length < x.length then .err ((cutX x).length - r.length) else .ok g
theorem spanD_app : ∀ s : List Nat, s = (spanD s).1 ++ (spanD s).2
  | [] => rfl
  | c :: s => by
    rw [spanD]
    split
    · exact congrArg (c :: ·) (spanD_app s)
    · rfl
theorem spanD_dg : ∀ s : List Nat, ∀ c ∈ (spanD s).1, Dg c
  | [], c, h => by cases h
  | x :: s, c, h => by
    rw [spanD] at h
    split at h
    · next hx =>
      rcases List.mem_cons.mp h with rfl | h
      · exact (dgB_iff _).mp hx
      · exact spanD_dg s c h
    · cases h
theorem spanD_nd : ∀ s : List Nat, ∀ c, (spanD s).2[0]? = some c → ¬ Dg c
  | [], c, h => by cases h
  | x :: s, c, h => by
    rw [spanD] at h
    split at h
    · exact spanD_nd s c h
    · next hx =>
      cases h
      exact fun hd => hx ((dgB_iff _).mpr hd)
def Lf (s : List Nat) {α : Type} : R α → Prop
  | .out => True
  | .err n => n ≤ s.length
  | .ok _ r => r <:+ s ∧ r.length < s.length
theorem whole_suf {s : List Nat} {n0 p : Nat} {r : List Nat} (h : whole s n0 = .ok p r) : r <:+ s ∧ r.length < s.length := by
  unfold whole at h
  split at h
  · cases h
  · split at h
    · cases h
    · next h1 _ =>
      cases h
      have e := spanD_app s
      refine ⟨⟨_, e.symm⟩, ?_⟩
      have := congrArg List.length e
      rw [List.length_append] at this
      have := List.length_pos_iff.mpr h1
      omega
theorem Lf.mono {α : Type} {s s2 : List Nat} {x : R α} (hs : s <:+ s2) (h : Lf s x) : Lf s2 x := by
  cases x with
  | out => trivial
  | err n => exact Nat.le_trans h hs.length_le
  | ok a r => exact ⟨h.1.trans hs, Nat.lt_of_lt_of_le h.2 hs.length_le⟩
def Suf (f : List Nat → R G) : Prop := ∀ s g r, f s = .ok g r → r <:+ s ∧ r.length < s.length
theorem starR_suf {c : Nat} {s r : List Nat} {g : G} (h : starR (c :: s) = .ok g r) : r <:+ c :: s ∧ r.length < (c :: s).length := by
  unfold starR at h
  rw [List.drop_one, List.tail_cons] at h
  split at h
  · cases h
    exact ⟨List.suffix_cons _ _, by simp⟩
  · split at h
    · cases h
    · cases h
      have e := spanD_app s
      have := congrArg List.length e
      rw [List.length_append] at this
      exact ⟨(show (spanD s).2 <:+ s from ⟨_, e.symm⟩).trans (List.suffix_cons _ _), by rw [List.length_cons]; omega⟩
theorem number_suf {s r : List Nat} {g : G} (h : number s = .ok g r) : r <:+ s ∧ r.length < s.length := by
  unfold number at h
  generalize hw : whole (if s.headD 0 = 45 then s.drop 1 else s) s.length = wr at h
  cases wr with
  | out => cases h
  | err n => cases h
  | ok p r1 =>
    have k1 := whole_suf hw
    have k : r1 <:+ s ∧ r1.length < s.length := by
      split at k1
      · exact ⟨k1.1.trans (List.drop_suffix _ _), by have := k1.2; rw [List.length_drop] at this; omega⟩
      · exact k1
    dsimp only at h
    split at h
    · cases h
    · unfold numR at h
      split at h
      · generalize hw2 : whole (r1.drop 1) s.length = w2 at h
        cases w2 with
        | out => cases h
        | err n => cases h
        | ok b r2 =>
          have k2 := whole_suf hw2
          dsimp only at h
          split at h
          · cases h
          · split at h
            · cases h
            · cases h
              exact ⟨k2.1.trans ((List.drop_suffix _ _).trans k.1), by have := k2.2; rw [List.length_drop] at this; omega⟩
      · split at h
        · cases h
        · cases h
          exact k
theorem items_suf {f : List Nat → R G} (hf : Suf f) {last : Nat} : ∀ {k : Nat} {s r : List Nat} {gs : List G}, items f last k s = .ok gs r → r <:+ s ∧ r.length < s.length
  | 0, s, r, gs, h => by cases h
  | k + 1, s, r, gs, h => by
    rw [items] at h
    generalize hfs : f s = fs at h
    cases fs with
    | out => cases h
    | err n => cases h
    | ok g r1 =>
      have k1 := hf _ _ _ hfs
      cases r1 with
      | nil => cases h
      | cons c r' =>
        rw [List.length_cons] at k1
        have k2 : r' <:+ s := (List.suffix_cons _ _).trans k1.1
        dsimp only at h
        split at h
        · cases h
          exact ⟨k2, by omega⟩
        · split at h
          · generalize hi : items f last k r' = ir at h
            cases ir with
            | out => cases h
            | err n => cases h
            | ok gs2 r2 =>
              cases h
              have k3 := items_suf hf hi
              exact ⟨k3.1.trans k2, by omega⟩
          · cases h
theorem side_suf {f : List Nat → R G} (hf : Suf f) {last : Nat} {s r : List Nat} {gs : List G} (h : side f last s = .ok gs r) : r <:+ s ∧ r.length < s.length := by
  unfold side at h
  split at h
  · next h1 =>
    cases h
    cases s with
    | nil => cases h1
    | cons c s => exact ⟨List.suffix_cons _ _, by simp⟩
  · exact items_suf hf h
theorem rf_suf : ∀ d, Suf (rf d)
  | d, [], g, r, h => by cases d <;> cases h
  | d, c :: s, g, r, h => by
    rw [rf_cons] at h
    split at h
    · exact number_suf h
    · split at h
      · exact starR_suf h
      · split at h
        · split at h
          · cases h
            exact ⟨(List.drop_suffix _ _).trans (List.suffix_cons _ _), by rw [List.length_drop, List.length_cons]; omega⟩
          · cases h
            exact ⟨List.suffix_cons _ _, by simp⟩
        · split at h
          · cases h
          · cases d with
            | zero => cases h
            | succ d =>
              dsimp only at h
              unfold brace at h
              generalize h1 : side (rf d) 124 s = x1 at h
              cases x1 with
              | out => cases h
              | err n => cases h
              | ok l r1 =>
                dsimp only at h
                generalize h2 : side (rf d) 125 r1 = x2 at h
                cases x2 with
                | out => cases h
                | err n => cases h
                | ok l2 r2 =>
                  cases h
                  have k1 := side_suf (rf_suf d) h1
                  have k2 := side_suf (rf_suf d) h2
                  exact ⟨(k2.1.trans k1.1).trans (List.suffix_cons _ _), by rw [List.length_cons]; omega⟩
end TXG


set_option Elab.async false
set_option linter.all false
set_option maxRecDepth 100000
set_option maxHeartbeats 4000000
namespace K07D
open PySem L2 TG DL K07 SK TXG
section
variable {P : Program} {w : World} {K : PySem.W.Frag} {mg : Str → Option Value} {base : Heap}
theorem at_drop {x ds r : List Nat} {a : Nat} (h : x.drop a = ds ++ r) {j : Nat} (hj : j < ds.length) : x[a + j]? = some ds[j] := by
  rw [← List.getElem?_drop, h, List.getElem?_append_left hj, List.getElem?_eq_getElem hj]
theorem at_rest {x ds r : List Nat} {a : Nat} (h : x.drop a = ds ++ r) : x[a + ds.length]? = r[0]? := by
  rw [← List.getElem?_drop, h, List.getElem?_append_right (Nat.le_refl _), Nat.sub_self]
theorem at_atI {x : List Nat} {a : Nat} {c : Nat} (h : x[a]? = some c) : atI (stC x).cps.toList (a : Int) = some c := atI_nat h
theorem len_drop {x ds r : List Nat} {a : Nat} (h : x.drop a = ds ++ r) (ha : a ≤ x.length) : x.length = a + ds.length + r.length := by
  have := congrArg List.length h
  rw [List.length_drop, List.length_append] at this
  omega
theorem dg_in {c : Nat} (h : Dg c) : decide (c ∈ ("0123456789" : Str).cps.toList) = true := by
  have : ∀ c ∈ List.range 58, 48 ≤ c → decide (c ∈ ("0123456789" : Str).cps.toList) = true := by decide +kernel
  exact this c (List.mem_range.mpr (by have := h.2; omega)) h.1
theorem dg_out {c : Nat} (h : ¬ Dg c) : decide (c ∈ ("0123456789" : Str).cps.toList) = false := by
  rw [decide_eq_false_iff_not]
  intro hc
  have : ∀ c ∈ ("0123456789" : Str).cps.toList, 48 ≤ c ∧ c ≤ 57 := by decide +kernel
  exact h (this c hc)
def Ndg (r : List Nat) : Prop := ∀ c, r[0]? = some c → ¬ Dg c
def F_digits_from : FSp := fun args P => ∃ (x ds r : List Nat) (a : Nat), args = [some (.dat (.str (stC x))), some (.dat (.int a))] ∧ x.length ≤ 50000 ∧ a ≤ x.length ∧ x.drop a = ds ++ r ∧ (∀ c ∈ ds, Dg c) ∧ Ndg r ∧
  P (.dat (.int ((a + ds.length : Nat) : Int))) [none, none]
theorem ok_digits_from {k : Nat} (T : Txt K mg)  : FnOk P w K mg base CX0 (k + 1) T.a_digits_from T.d_digits_from ["text", "at"] (spD K F_digits_from) := by
  refine (fun (hA : ∀ args Pz, F_digits_from args Pz → args.length = 2) => T.F_digits_from.ok (sp := spD K F_digits_from) sc_digits_from (fun vs H Q E h => spD_len hA h) (fun cdv A outer s H vs Q E hr h => ⟨_, (pss_cons (ps_while PassesOwn.never (PW.pt (pw_and (pt_cmpR op_lt (pv 1) (pe_callB call_len_str rfl T.m_len PySem.boot_len (pa_cons (pv 0) pa_nil)) (nomark _)) (pw_and1 (pt_cmpR op_in_sign (pe_ix ix_str (pv 0) (pv 1) (fun _ _ => rfl)) (pe_glob (v := .str "0123456789") rfl T.c_DIGITS ⟨_, rfl⟩) rfl))))
  (pss_one (ps_aug (i := 1) sc_digits_from.nd rfl (Or.inl rfl) pe_int ip_add)))
  (pss_one (ps_ret (pv 1)))), fn_run (N := ["text", "at"]) h (fun A' Hz' => (ss_seq (ss_while (st_and (st_test (se_op (sr_I0 (fun _ _ => rfl)) se_var (se_cb1 sc_lenS se_var))) (st_test (se_op sr_inS (se_op sr_ixS se_var se_var) se_str)))
  (ss_augI se_int))
  (ss_ret se_var))) (fun args P hl hF => ?_) (by rw [spD_len hA h]; exact Nat.le_of_ble_eq_true rfl)⟩)) (fun args P hF => ?_)
  rotate_left
  · obtain ⟨x, ds, r, a, rfl, _⟩ := hF
    rfl
  obtain ⟨x, ds, r, a, rfl, hx, ha, hd, hdg, hn, hP⟩ := hF
  have hl := len_drop hd ha
  simp -implicitDefEqProofs only [DL.WW, List.isEmpty_nil, List.lookup_cons, List.lookup_nil, List.map, List.length, List.length_cons, List.length_nil, List.length_set, List.replicate, List.append, List.cons_append, List.nil_append, List.append_nil, List.getElem?_cons_zero, List.getElem?_cons_succ, List.getElem?_nil, List.set_cons_zero, List.set_cons_succ, ↓reduceIte, Bool.false_eq_true, Bool.not_true, Bool.not_false, Bool.true_and, Bool.false_and, Bool.and_true, Bool.and_false, Bool.or_true, Bool.or_false, Bool.true_or, Bool.false_or, Nat.reduceAdd, Nat.reduceSub, Nat.reduceLT, Nat.reduceLeDiff, true_and, and_true, and_self, decide_eq_true_eq, Nat.zero_lt_succ, Nat.lt_add_left_iff_pos, beq_self_eq_true, String.reduceBEq, String.reduceEq, Nat.le_refl, Nat.zero_le, Bool.true_eq_false, decide_true, decide_false, Int.reduceEq, Int.reduceLT, Int.reduceLE, Int.reduceSub, Int.reduceAdd, DL.wIfT, DL.wListRg, DL.eSortT, DL.eAddS, DL.eInS, DL.eLenS, DL.wSlS, DL.wI2, DL.evd_mx, DL.evd_mn, DL.evd_gcd, DL.wIStr, DL.wIEnumS, DL.wFun, DL.wWord, DL.wWordV, DL.wCallX, DL.wRaise, DL.wWordG, DL.wWordVG, DL.wRaiseI, DL.eJnL, DL.eJnT, DL.wJoin, DL.eStrI, DL.eIntS, DL.strsD_map]
  refine ⟨fun m e => ∃ j, j ≤ ds.length ∧ m = ds.length - j ∧ e = [some (.dat (.str (stC x))), some (.dat (.int ((a + j : Nat) : Int)))], ⟨_, 0, Nat.zero_le _, rfl, rfl⟩, ?_⟩
  rintro m e ⟨j, hj, rfl, rfl⟩
  simp -implicitDefEqProofs only [DL.WW, List.isEmpty_nil, List.lookup_cons, List.lookup_nil, List.map, List.length, List.length_cons, List.length_nil, List.length_set, List.replicate, List.append, List.cons_append, List.nil_append, List.append_nil, List.getElem?_cons_zero, List.getElem?_cons_succ, List.getElem?_nil, List.set_cons_zero, List.set_cons_succ, ↓reduceIte, Bool.false_eq_true, Bool.not_true, Bool.not_false, Bool.true_and, Bool.false_and, Bool.and_true, Bool.and_false, Bool.or_true, Bool.or_false, Bool.true_or, Bool.false_or, Nat.reduceAdd, Nat.reduceSub, Nat.reduceLT, Nat.reduceLeDiff, true_and, and_true, and_self, decide_eq_true_eq, Nat.zero_lt_succ, Nat.lt_add_left_iff_pos, beq_self_eq_true, String.reduceBEq, String.reduceEq, Nat.le_refl, Nat.zero_le, Bool.true_eq_false, decide_true, decide_false, Int.reduceEq, Int.reduceLT, Int.reduceLE, Int.reduceSub, Int.reduceAdd, DL.wIfT, DL.wListRg, DL.eSortT, DL.eAddS, DL.eInS, DL.eLenS, DL.wSlS, DL.wI2, DL.evd_mx, DL.evd_mn, DL.evd_gcd, DL.wIStr, DL.wIEnumS, DL.wFun, DL.wWord, DL.wWordV, DL.wCallX, DL.wRaise, DL.wWordG, DL.wWordVG, DL.wRaiseI, DL.eJnL, DL.eJnT, DL.wJoin, DL.eStrI, DL.eIntS, DL.strsD_map, stC_len]
  refine ⟨stC_line (by omega), ?_⟩
  by_cases hj2 : j < ds.length
  · have hat := at_atI (at_drop hd hj2)
    have e1 : ((a + j : Nat) : Int) + 1 = ((a + (j + 1) : Nat) : Int) := by omega
    rw [if_pos (by omega), hat, e1]
    refine ⟨Nat.le_trans hx (by decide), ?_⟩
    show ∃ c1, _
    refine ⟨ds[j], rfl, ?_⟩
    rw [if_pos (of_decide_eq_true (dg_in (hdg _ (List.getElem_mem hj2))))]
    exact ⟨ds.length - (j + 1), by omega, j + 1, by omega, rfl, rfl⟩
  · have hje : j = ds.length := by omega
    subst hje
    split
    · rename_i hlt
      obtain ⟨c, hc⟩ : ∃ c, r[0]? = some c := by
        cases r with
        | nil => simp at hl; omega
        | cons c r => exact ⟨c, rfl⟩
      have hat := at_atI ((at_rest hd).trans hc)
      rw [hat]
      refine ⟨Nat.le_trans hx (by decide), ?_⟩
      show ∃ c1, _
      refine ⟨c, rfl, ?_⟩
      rw [if_neg (of_decide_eq_false (dg_out (hn c hc)))]
      exact hP
    · exact hP
theorem cutMid {x : List Nat} {a k m : Nat} (h : a + k + m = x.length) : cutS (stC x) (some (a : Int)) (some ((a + k : Nat) : Int)) = stC ((x.drop a).take k) := by
  rw [stC_cut, HT.sIx_nat, HT.sIx_nat, Nat.min_eq_left (by omega), Nat.min_eq_left (by omega), Nat.add_sub_cancel_left]
structure XOk (x : List Nat) (i : Nat) : Prop where
  len : x.length ≤ 50000
  cd : CdOk x
  le : i ≤ x.length
def Gv {α : Type} (x : List Nat) (o : En) (D : α → PyData) (C : Addr) (P : Vl → En → Prop) (R : ExP) : TXG.R α → Prop
  | .out => False
  | .err n => R C [("place", .int ((x.length - n : Nat) : Int))] o
  | .ok a r => P (.dat (.tuple [D a, .int ((x.length - r.length : Nat) : Int)])) o
theorem dr_len {x s : List Nat} {i : Nat} (hi : i ≤ x.length) (h : x.drop i = s) : x.length - s.length = i := by
  subst h
  rw [List.length_drop]
  omega
theorem suf_drop {x s r : List Nat} {i : Nat} (h : x.drop i = s) (hr : r <:+ s) : x.drop (x.length - r.length) = r := by
  subst h
  have h2 : r <:+ x := hr.trans (List.drop_suffix i x)
  exact (List.suffix_iff_eq_drop.mp h2).symm
def FX_read_whole (T : Txt K mg) : FXp := fun args P R => ∃ (x s : List Nat) (a n0 : Nat), args = [some (.dat (.str (stC x))), some (.dat (.int a)), some (.dat (.int ((x.length - n0 : Nat) : Int)))] ∧ XOk x a ∧ x.drop a = s ∧ Gv x [none, none, none] (fun p => .int ((p : Nat) : Int)) T.C_InvalidText P R (whole s n0)
theorem okX_read_whole {k : Nat} (T : Txt K mg) (G_digits_from : FnOk P w K mg base CX0 (k + 1) T.a_digits_from T.d_digits_from ["text", "at"] (spD K F_digits_from)) (I_InvalidText___init__ : FnOk P w K mg base (L2.CX P w) k T.a_InvalidText___init__ T.d_InvalidText___init__ ["self", "place"] (LamY.spKeep K "place")) : FnOk P w K mg base (L2.CX P w) (k + 2) T.a_read_whole T.d_read_whole ["text", "at", "start"] (spX K (FX_read_whole T)) := by
  refine (fun (hA : ∀ args P R, (FX_read_whole T) args P R → args.length = 3) => T.F_read_whole.okE (sp := spX K (FX_read_whole T)) sc_read_whole (fun vs H Q E h => spX_len hA h) (fun cdv A outer s H vs Q E hr h => ⟨_, (pss_cons (ps_set (i := 3) sc_read_whole.nd rfl (Or.inl rfl) (pe_call G_digits_from hr rfl T.g_digits_from T.F_digits_from.kp T.b_digits_from .nil pass0 (pa_cons (pv 0) (pa_cons (pv 1) pa_nil))))
  (pss_cons (ps_if (pt_cmpR (op_eqDK (K := K) rfl hr.units) (pv 3) (pv 1) (nomark _))
  (pss_one (ps_raise rfl (takes_of rfl rfl rfl rfl) (pmk_oex T.ox_InvalidText.ok T.ic_InvalidText T.ti_InvalidText (I_InvalidText___init__) (hr.mono (Nat.le_refl _)) T.b_InvalidText___init__ .nil (passes_call (takes_of rfl rfl rfl rfl) (fun _ _ _ _ h => h.elim)) rfl T.gx_InvalidText (pa_cons (pv 1) pa_nil))))
  pss_nil)
  (pss_cons (ps_if (PW.pt (pw_or (pt_cmpR op_gt (pe_op op_sub (pv 3) (pv 1)) pe_int (nomark _)) (pw_or1 (PW.pt (pw_and (pt_cmpR (op_eqDK (K := K) rfl hr.units) (pe_ix ix_str (pv 0) (pv 1) (fun _ _ => rfl)) pe_str (nomark _)) (pw_and1 (pt_cmpR op_gt (pv 3) (pe_op op_add (pv 1) pe_int) (nomark _))))))))
  (pss_one (ps_raise rfl (takes_of rfl rfl rfl rfl) (pmk_oex T.ox_InvalidText.ok T.ic_InvalidText T.ti_InvalidText (I_InvalidText___init__) (hr.mono (Nat.le_refl _)) T.b_InvalidText___init__ .nil (passes_call (takes_of rfl rfl rfl rfl) (fun _ _ _ _ h => h.elim)) rfl T.gx_InvalidText (pa_cons (pv 2) pa_nil))))
  pss_nil)
  (pss_one (ps_ret (pe_tup (pa_cons (pe_callTy call_int_str rfl T.m_int (by decide +kernel) (pa_cons (pe_slice sl_str (pv 0) (po_some (pv 1)) (po_some (pv 3))) pa_nil)) (pa_cons (pv 3) pa_nil)))))))), fnX_run (N := ["text", "at", "start", "end"]) h (fun A' Hz' R' hE => (ss_seq (ss_asg (se_call (sa_cons se_var (sa_cons se_var sa_nil))) sg_name)
  (ss_seq (ss_if (st_test (se_op sr_eqD se_var se_var))
  (ss_raiseI (x := "place") T.ox_InvalidText.ok T.no_InvalidText hE (sa_cons se_var sa_nil))
  ss_next)
  (ss_seq (ss_if (st_or (st_test (se_op (sr_I0 (fun _ _ => rfl)) (se_op (sr_I0 (fun _ _ => rfl)) se_var se_var) se_int)) (st_and (st_test (se_op sr_eqD (se_op sr_ixS se_var se_var) se_str)) (st_test (se_op (sr_I0 (fun _ _ => rfl)) se_var (se_op (sr_I0 (fun _ _ => rfl)) se_var se_int)))))
  (ss_raiseI (x := "place") T.ox_InvalidText.ok T.no_InvalidText hE (sa_cons se_var sa_nil))
  ss_next)
  (ss_ret (se_tup (sa_cons (se_cb1 sc_intS (se_slS se_var (so_some se_var) (so_some se_var))) (sa_cons se_var sa_nil)))))))) (fun args P R hl hF => ?_) (by rw [spX_len hA h]; exact Nat.le_of_ble_eq_true rfl)⟩)) (fun args P R hF => ?_)
  rotate_left
  · obtain ⟨x, s, a, n0, rfl, _⟩ := hF
    rfl
  obtain ⟨x, s, a, n0, rfl, hx, hd, hG⟩ := hF
  have hx5 := hx.len
  have e := spanD_app s
  have hdd : x.drop a = (spanD s).1 ++ (spanD s).2 := hd.trans e
  have hl := len_drop hdd hx.le
  have hls := dr_len hx.le hd
  simp -implicitDefEqProofs only [DL.WW, List.isEmpty_nil, List.lookup_cons, List.lookup_nil, List.map, List.length, List.length_cons, List.length_nil, List.length_set, List.replicate, List.append, List.cons_append, List.nil_append, List.append_nil, List.getElem?_cons_zero, List.getElem?_cons_succ, List.getElem?_nil, List.set_cons_zero, List.set_cons_succ, ↓reduceIte, Bool.false_eq_true, Bool.not_true, Bool.not_false, Bool.true_and, Bool.false_and, Bool.and_true, Bool.and_false, Bool.or_true, Bool.or_false, Bool.true_or, Bool.false_or, Nat.reduceAdd, Nat.reduceSub, Nat.reduceLT, Nat.reduceLeDiff, true_and, and_true, and_self, decide_eq_true_eq, Nat.zero_lt_succ, Nat.lt_add_left_iff_pos, beq_self_eq_true, String.reduceBEq, String.reduceEq, Nat.le_refl, Nat.zero_le, Bool.true_eq_false, decide_true, decide_false, Int.reduceEq, Int.reduceLT, Int.reduceLE, Int.reduceSub, Int.reduceAdd, DL.wIfT, DL.wListRg, DL.eSortT, DL.eAddS, DL.eInS, DL.eLenS, DL.wSlS, DL.wI2, DL.evd_mx, DL.evd_mn, DL.evd_gcd, DL.wIStr, DL.wIEnumS, DL.wFun, DL.wWord, DL.wWordV, DL.wCallX, DL.wRaise, DL.wWordG, DL.wWordVG, DL.wRaiseI, DL.eJnL, DL.eJnT, DL.wJoin, DL.eStrI, DL.eIntS, DL.strsD_map]
  refine ⟨x, _, _, a, rfl, hx5, hx.le, hdd, spanD_dg s, spanD_nd s, ?_⟩
  simp -implicitDefEqProofs only [DL.WW, List.isEmpty_nil, List.lookup_cons, List.lookup_nil, List.map, List.length, List.length_cons, List.length_nil, List.length_set, List.replicate, List.append, List.cons_append, List.nil_append, List.append_nil, List.getElem?_cons_zero, List.getElem?_cons_succ, List.getElem?_nil, List.set_cons_zero, List.set_cons_succ, ↓reduceIte, Bool.false_eq_true, Bool.not_true, Bool.not_false, Bool.true_and, Bool.false_and, Bool.and_true, Bool.and_false, Bool.or_true, Bool.or_false, Bool.true_or, Bool.false_or, Nat.reduceAdd, Nat.reduceSub, Nat.reduceLT, Nat.reduceLeDiff, true_and, and_true, and_self, decide_eq_true_eq, Nat.zero_lt_succ, Nat.lt_add_left_iff_pos, beq_self_eq_true, String.reduceBEq, String.reduceEq, Nat.le_refl, Nat.zero_le, Bool.true_eq_false, decide_true, decide_false, Int.reduceEq, Int.reduceLT, Int.reduceLE, Int.reduceSub, Int.reduceAdd, DL.wIfT, DL.wListRg, DL.eSortT, DL.eAddS, DL.eInS, DL.eLenS, DL.wSlS, DL.wI2, DL.evd_mx, DL.evd_mn, DL.evd_gcd, DL.wIStr, DL.wIEnumS, DL.wFun, DL.wWord, DL.wWordV, DL.wCallX, DL.wRaise, DL.wWordG, DL.wWordVG, DL.wRaiseI, DL.eJnL, DL.eJnT, DL.wJoin, DL.eStrI, DL.eIntS, DL.strsD_map]
  unfold whole at hG
  by_cases c0 : (spanD s).1 = []
  · rw [if_pos c0] at hG
    have e0 : ((a + (spanD s).1.length : Nat) : Int) = (a : Int) := by rw [c0]; rfl
    rw [e0, if_pos rfl]
    dsimp only [Gv] at hG
    rw [hls] at hG
    exact ⟨_, rfl, hG⟩
  rw [if_neg c0] at hG
  have hne := List.length_pos_iff.mpr c0
  rw [if_neg (by omega)]
  by_cases c1 : 4 < (spanD s).1.length
  · rw [if_pos (.inl c1)] at hG
    rw [if_pos (by omega)]
    exact ⟨_, rfl, hG⟩
  rw [if_neg (by omega)]
  have hat0 : x[a]? = some (spanD s).1[0] := by simpa using at_drop hdd hne
  have hh : s.headD 0 = (spanD s).1[0] := by
    have h2 := congrArg List.head? hd
    rw [List.head?_drop] at h2
    rw [List.headD_eq_head?_getD, ← h2, hat0]
    rfl
  have hat := at_atI hat0
  have hdg := spanD_dg s _ (List.getElem_mem hne)
  have e0 : Str.ofString "0" = stC [48] := by decide +kernel
  rw [hat, e0]
  refine ⟨stC_line (by omega), ?_⟩
  show _ ∧ _
  refine ⟨stC_ok (l := [(spanD s).1[0]]) (fun c hc => by rw [List.mem_singleton] at hc; unfold Dg at hdg; omega), stC_ok (by unfold CodeOk; decide), ?_⟩
  have hcut : cutS (stC x) (some (a : Int)) (some ((a + (spanD s).1.length : Nat) : Int)) = stC (spanD s).1 := by rw [cutMid hl.symm, hdd, List.take_left]
  have er : x.length - (spanD s).2.length = a + (spanD s).1.length := by omega
  have fin : ¬ (s.headD 0 = 48 ∧ 1 < (spanD s).1.length) → (stC x).length ≤ sizeLine ∧ (stC (spanD s).1).length ≤ 640 ∧ ob1 (intText? (stC (spanD s).1)) fun n_1 => P (Vl.dat (PyData.tuple [PyData.int n_1, PyData.int ((a + (spanD s).1.length : Nat) : Int)])) [none, none, none] := fun h => by
    rw [if_neg (fun h2 => h2.elim (fun h3 => absurd h3 c1) h)] at hG
    have hv : intText? (stC (spanD s).1) = some ((valD (spanD s).1 : Nat) : Int) := PySem.intText_digits (x := stC (spanD s).1) (spanD_dg s) c0 (by rw [stC_len]; omega)
    rw [hv, stC_len, stC_len]
    dsimp only [Gv] at hG
    rw [er] at hG
    exact ⟨stC_line (by omega), by omega, hG⟩
  rw [hcut]
  split
  · rename_i he
    have he2 : (spanD s).1[0] = 48 := (List.cons.inj (stC_inj (a := [(spanD s).1[0]]) he)).1
    split
    · rename_i h1
      rw [if_pos (.inr ⟨hh.trans he2, by omega⟩)] at hG
      exact ⟨_, rfl, hG⟩
    · rename_i h1
      exact fin fun h2 => h1 (by omega)
  · rename_i he
    exact fin fun h2 => he (by rw [hh] at h2; rw [h2.1]; rfl)
end
end K07D


set_option Elab.async false
set_option linter.all false
set_option maxRecDepth 100000
set_option maxHeartbeats 4000000
namespace K07D
open PySem L2 TG DL K07 SK TXG
section
variable {P : Program} {w : World} {K : PySem.W.Frag} {mg : Str → Option Value} {base : Heap}
theorem one1 {c : Nat} (h : c < 128) : PyData.strOk (stC [c]) = true := stC_ok (fun y hy => by rw [List.mem_singleton] at hy; omega)
theorem stE (a y : Nat) : (stC [a] = stC [y]) = (a = y) := propext ⟨fun h => (List.cons.inj (stC_inj h)).1, fun h => by rw [h]⟩
theorem ecs1 (c : Nat) : ({ cps := #[c] } : Str) = stC [c] := rfl
theorem head_at {x s : List Nat} {i : Nat} (h : x.drop i = s) : s.head? = x[i]? := by rw [← h, List.head?_drop]
def F_number_form : FSp := F_numf 6
theorem log2B {b : Nat} (h : b = 1 ∨ b = 2 ∨ b = 4 ∨ b = 8 ∨ b = 16) : 2 ^ logB b = b ∧ logB b ≤ 4 ∧ (logB b = 0 ↔ b = 1) := by
  rcases h with rfl | rfl | rfl | rfl | rfl <;> decide
theorem inB (b : Nat) : inV (dV (PyData.int ((b : Nat) : Int))) [dV (PyData.int 2), dV (PyData.int 4), dV (PyData.int 8), dV (PyData.int 16)] = decide (b = 2 ∨ b = 4 ∨ b = 8 ∨ b = 16) := by
  have e : ∀ k : Int, eqV (dV (PyData.int k)) (dV (PyData.int ((b : Nat) : Int))) = decide (k = (b : Int)) := fun k => by
    rw [Bool.eq_iff_iff, decide_eq_true_eq]
    simp [dV, eqV]
  unfold inV
  simp only [List.any_cons, List.any_nil, e, Bool.or_false]
  rw [Bool.eq_iff_iff]
  simp only [Bool.or_eq_true, decide_eq_true_eq]
  omega
theorem ite2n {c d : Prop} [Decidable c] [Decidable d] {A B : Prop} (h : ¬ (c ∧ d)) (hB : B) : if c then (if d then A else B) else B := by
  split
  · rename_i hc
    rw [if_neg fun hd => h ⟨hc, hd⟩]
    exact hB
  · exact hB
def FX_read_number (T : Txt K mg) : FXp := fun args P R => ∃ (x s : List Nat) (i : Nat), args = [some (.dat (.str (stC x))), some (.dat (.int i))] ∧ XOk x i ∧ x.drop i = s ∧ s ≠ [] ∧ Gv x [none, none] gD T.C_InvalidText P R (number s)
theorem okX_read_number {k : Nat} (T : Txt K mg) (G_number_form : FnOk P w K mg base CX0 (k + 1) T.a_number_form T.d_number_form ["top", "bottom"] (spD K F_number_form)) (GX_read_whole : FnOk P w K mg base (L2.CX P w) (k + 1) T.a_read_whole T.d_read_whole ["text", "at", "start"] (spX K (FX_read_whole T))) (I_InvalidText___init__ : FnOk P w K mg base (L2.CX P w) k T.a_InvalidText___init__ T.d_InvalidText___init__ ["self", "place"] (LamY.spKeep K "place")) : FnOk P w K mg base (L2.CX P w) (k + 2) T.a_read_number T.d_read_number ["text", "start"] (spX K (FX_read_number T)) := by
  refine (fun (hA : ∀ args P R, (FX_read_number T) args P R → args.length = 2) => T.F_read_number.okE (sp := spX K (FX_read_number T)) sc_read_number (fun vs H Q E h => spX_len hA h) (fun cdv A outer s H vs Q E hr h => ⟨_, (pss_cons (ps_set (i := 2) sc_read_number.nd rfl (Or.inl rfl) (pe_cmpR (op_eqDK (K := K) rfl hr.units) (pe_ix ix_str (pv 0) (pv 1) (fun _ _ => rfl)) pe_str (nomark _)))
  (pss_cons (ps_asg (pe_call GX_read_whole hr rfl T.g_read_whole T.F_read_whole.kp T.b_read_whole .nil (passes_call (takes_of rfl rfl rfl rfl) (fun _ _ _ _ h => h)) (pa_cons (pv 0) (pa_cons (pe_ifExp (pt_val (pv 2)) (pe_op op_add (pv 1) pe_int) (pv 1)) (pa_cons (pv 1) pa_nil)))) (pg_tupK (K := K) (n := 2) rfl rfl (pgs_cons (pg_name (i := 3) sc_read_number.nd rfl (Or.inl rfl)) (pgs_cons (pg_name (i := 4) sc_read_number.nd rfl (Or.inl rfl)) pgs_nil))))
  (pss_cons (ps_if (PW.pt (pw_and (pt_val (pv 2)) (pw_and1 (pt_cmpR (op_eqDK (K := K) rfl hr.units) (pv 3) pe_int (nomark _)))))
  (pss_one (ps_raise rfl (takes_of rfl rfl rfl rfl) (pmk_oex T.ox_InvalidText.ok T.ic_InvalidText T.ti_InvalidText (I_InvalidText___init__) (hr.mono (Nat.le_refl _)) T.b_InvalidText___init__ .nil (passes_call (takes_of rfl rfl rfl rfl) (fun _ _ _ _ h => h.elim)) rfl T.gx_InvalidText (pa_cons (pv 1) pa_nil))))
  pss_nil)
  (pss_cons (ps_set (i := 5) sc_read_number.nd rfl (Or.inl rfl) pe_int)
  (pss_cons (ps_if (PW.pt (pw_and (pt_cmpR op_lt (pv 4) (pe_callB call_len_str rfl T.m_len PySem.boot_len (pa_cons (pv 0) pa_nil)) (nomark _)) (pw_and1 (pt_cmpR (op_eqDK (K := K) rfl hr.units) (pe_ix ix_str (pv 0) (pv 4) (fun _ _ => rfl)) pe_str (nomark _)))))
  (pss_cons (ps_asg (pe_call GX_read_whole hr rfl T.g_read_whole T.F_read_whole.kp T.b_read_whole .nil (passes_call (takes_of rfl rfl rfl rfl) (fun _ _ _ _ h => h)) (pa_cons (pv 0) (pa_cons (pe_op op_add (pv 4) pe_int) (pa_cons (pv 1) pa_nil)))) (pg_tupK (K := K) (n := 2) rfl rfl (pgs_cons (pg_name (i := 5) sc_read_number.nd rfl (Or.inl rfl)) (pgs_cons (pg_name (i := 4) sc_read_number.nd rfl (Or.inl rfl)) pgs_nil))))
  (pss_one (ps_if (PW.pt (pw_or (pt_cmpR (op_notIn_seqK (K := K) rfl) (pv 5) (pe_tup (pa_cons pe_int (pa_cons pe_int (pa_cons pe_int (pa_cons pe_int pa_nil))))) (by rfl)) (pw_or1 (pt_cmpR (op_eqDK (K := K) rfl hr.units) (pe_op op_mod (pv 3) pe_int) pe_int (nomark _)))))
  (pss_one (ps_raise rfl (takes_of rfl rfl rfl rfl) (pmk_oex T.ox_InvalidText.ok T.ic_InvalidText T.ti_InvalidText (I_InvalidText___init__) (hr.mono (Nat.le_refl _)) T.b_InvalidText___init__ .nil (passes_call (takes_of rfl rfl rfl rfl) (fun _ _ _ _ h => h.elim)) rfl T.gx_InvalidText (pa_cons (pv 1) pa_nil))))
  pss_nil)))
  pss_nil)
  (pss_cons (ps_if (pt_cmpR op_gt (pv 3) (pe_op op_mul (pe_glob (v := .int 16) rfl T.c_MOST_INTEGER ⟨_, rfl⟩) (pv 5)) (nomark _))
  (pss_one (ps_raise rfl (takes_of rfl rfl rfl rfl) (pmk_oex T.ox_InvalidText.ok T.ic_InvalidText T.ti_InvalidText (I_InvalidText___init__) (hr.mono (Nat.le_refl _)) T.b_InvalidText___init__ .nil (passes_call (takes_of rfl rfl rfl rfl) (fun _ _ _ _ h => h.elim)) rfl T.gx_InvalidText (pa_cons (pv 1) pa_nil))))
  pss_nil)
  (pss_one (ps_ret (pe_tup (pa_cons (pe_call G_number_form hr rfl T.g_number_form T.F_number_form.kp T.b_number_form .nil pass0 (pa_cons (pe_ifExp (pt_val (pv 2)) (pe_un un_neg (pv 3)) (pv 3)) (pa_cons (pv 5) pa_nil))) (pa_cons (pv 4) pa_nil))))))))))), fnX_run (N := ["text", "start", "minus", "top", "at", "bottom"]) h (fun A' Hz' R' hE => (ss_seq (ss_asg (se_op sr_eqD (se_op sr_ixS se_var se_var) se_str) sg_name)
  (ss_cut (ss_asg (se_callX hE (sa_cons se_var (sa_cons (se_if (st_B se_var) (se_op (sr_I0 (fun _ _ => rfl)) se_var se_int) se_var) (sa_cons se_var sa_nil)))) (sg_tup (sgs_cons sg_name (sgs_cons sg_name sgs_nil))))
  (ss_seq (ss_if (st_and (st_B se_var) (st_test (se_op sr_eqD se_var se_int)))
  (ss_raiseI (x := "place") T.ox_InvalidText.ok T.no_InvalidText hE (sa_cons se_var sa_nil))
  ss_next)
  (ss_seq (ss_asg se_int sg_name)
  (ss_cut (ss_if (st_and (st_test (se_op (sr_I0 (fun _ _ => rfl)) se_var (se_cb1 sc_lenS se_var))) (st_test (se_op sr_eqD (se_op sr_ixS se_var se_var) se_str)))
  (ss_seq (ss_asg (se_callX hE (sa_cons se_var (sa_cons (se_op (sr_I0 (fun _ _ => rfl)) se_var se_int) (sa_cons se_var sa_nil)))) (sg_tup (sgs_cons sg_name (sgs_cons sg_name sgs_nil))))
  (ss_if (st_or (st_test (se_op sr_in se_var (se_tup (sa_cons se_int (sa_cons se_int (sa_cons se_int (sa_cons se_int sa_nil))))))) (st_test (se_op sr_eqD (se_op (sr_I (fun _ _ => rfl)) se_var se_int) se_int)))
  (ss_raiseI (x := "place") T.ox_InvalidText.ok T.no_InvalidText hE (sa_cons se_var sa_nil))
  ss_next))
  ss_next)
  (ss_seq (ss_if (st_test (se_op (sr_I0 (fun _ _ => rfl)) se_var (se_op (sr_I (fun _ _ => rfl)) se_int se_var)))
  (ss_raiseI (x := "place") T.ox_InvalidText.ok T.no_InvalidText hE (sa_cons se_var sa_nil))
  ss_next)
  (ss_ret (se_tup (sa_cons (se_call (sa_cons (se_if (st_B se_var) (se_un (fun _ => rfl) se_var) se_var) (sa_cons se_var sa_nil))) (sa_cons se_var sa_nil))))))))))) (fun args P R hl hF => ?_) (by rw [spX_len hA h]; exact Nat.le_of_ble_eq_true rfl)⟩)) (fun args P R hF => ?_)
  rotate_left
  · obtain ⟨x, s, i, rfl, _⟩ := hF
    rfl
  obtain ⟨x, s, i, rfl, hx, hd, hne, hG⟩ := hF
  have hx5 := hx.len
  have hls := dr_len hx.le hd
  have hsl : s.length ≤ x.length := by rw [← hd, List.length_drop]; omega
  have hpos := List.length_pos_iff.mpr hne
  obtain ⟨c, s', rfl⟩ : ∃ c s', s = c :: s' := ⟨_, _, (List.cons_head_tail hne).symm⟩
  have hc : x[i]? = some c := by rw [← head_at hd]; rfl
  have hc128 := hx.cd c (List.mem_of_getElem? hc)
  have em : Str.ofString "-" = stC [45] := by decide +kernel
  have esl : Str.ofString "/" = stC [47] := by decide +kernel
  have xl : x.length ≤ sizeLine := Nat.le_trans hx5 (by decide)
  have okc := one1 hc128
  have ok45 := one1 (c := 45) (by decide)
  have hi1 : x.drop (i + 1) = s' := by rw [← List.drop_drop, hd]; rfl
  have hil : i + 1 ≤ x.length := by rw [List.length_cons] at hls hsl; omega
  unfold number at hG
  rw [List.headD_cons, List.drop_one, List.tail_cons] at hG
  generalize hn0 : (c :: s').length = n0 at *
  have hplace : ((x.length - n0 : Nat) : Int) = (i : Int) := by rw [hls]
  simp -implicitDefEqProofs only [DL.WW, List.isEmpty_nil, List.lookup_cons, List.lookup_nil, List.map, List.length, List.length_cons, List.length_nil, List.length_set, List.replicate, List.append, List.cons_append, List.nil_append, List.append_nil, List.getElem?_cons_zero, List.getElem?_cons_succ, List.getElem?_nil, List.set_cons_zero, List.set_cons_succ, ↓reduceIte, Bool.false_eq_true, Bool.not_true, Bool.not_false, Bool.true_and, Bool.false_and, Bool.and_true, Bool.and_false, Bool.or_true, Bool.or_false, Bool.true_or, Bool.false_or, Nat.reduceAdd, Nat.reduceSub, Nat.reduceLT, Nat.reduceLeDiff, true_and, and_true, and_self, decide_eq_true_eq, Nat.zero_lt_succ, Nat.lt_add_left_iff_pos, beq_self_eq_true, String.reduceBEq, String.reduceEq, Nat.le_refl, Nat.zero_le, Bool.true_eq_false, decide_true, decide_false, Int.reduceEq, Int.reduceLT, Int.reduceLE, Int.reduceSub, Int.reduceAdd, DL.wIfT, DL.wListRg, DL.eSortT, DL.eAddS, DL.eInS, DL.eLenS, DL.wSlS, DL.wI2, DL.evd_mx, DL.evd_mn, DL.evd_gcd, DL.wIStr, DL.wIEnumS, DL.wFun, DL.wWord, DL.wWordV, DL.wCallX, DL.wRaise, DL.wWordG, DL.wWordVG, DL.wRaiseI, DL.eJnL, DL.eJnT, DL.wJoin, DL.eStrI, DL.eIntS, DL.strsD_map, stC_len, at_atI hc, em, ecs1, stE, okc, ok45]
  refine ⟨xl, ?_⟩
  refine cut_use (fun e => ∃ (p : Nat) (r : List Nat), whole (if c = 45 then s' else c :: s') n0 = .ok p r ∧ e = [some (.dat (.str (stC x))), some (.dat (.int i)), some (.dat (.bool (decide (c = 45)))), some (.dat (.int p)), some (.dat (.int ((x.length - r.length : Nat) : Int))), none]) ?_ ?_
  · have call : ∀ (z : Int) (j : Nat) (s2 : List Nat) (P2 : Vl → En → Prop) (R2 : ExP), z = (j : Int) → XOk x j → x.drop j = s2 → Gv x [none, none, none] (fun p => .int ((p : Nat) : Int)) T.C_InvalidText P2 R2 (whole s2 n0) → FX_read_whole T [some (.dat (.str (stC x))), some (.dat (.int z)), some (.dat (.int i))] P2 R2 := fun z j s2 P2 R2 hz h1 h2 h3 => by
      subst hz
      exact ⟨x, s2, j, n0, by rw [hplace], h1, h2, h3⟩
    by_cases c45 : c = 45
    · simp -implicitDefEqProofs only [DL.WW, List.isEmpty_nil, List.lookup_cons, List.lookup_nil, List.map, List.length, List.length_cons, List.length_nil, List.length_set, List.replicate, List.append, List.cons_append, List.nil_append, List.append_nil, List.getElem?_cons_zero, List.getElem?_cons_succ, List.getElem?_nil, List.set_cons_zero, List.set_cons_succ, ↓reduceIte, Bool.false_eq_true, Bool.not_true, Bool.not_false, Bool.true_and, Bool.false_and, Bool.and_true, Bool.and_false, Bool.or_true, Bool.or_false, Bool.true_or, Bool.false_or, Nat.reduceAdd, Nat.reduceSub, Nat.reduceLT, Nat.reduceLeDiff, true_and, and_true, and_self, decide_eq_true_eq, Nat.zero_lt_succ, Nat.lt_add_left_iff_pos, beq_self_eq_true, String.reduceBEq, String.reduceEq, Nat.le_refl, Nat.zero_le, Bool.true_eq_false, decide_true, decide_false, Int.reduceEq, Int.reduceLT, Int.reduceLE, Int.reduceSub, Int.reduceAdd, DL.wIfT, DL.wListRg, DL.eSortT, DL.eAddS, DL.eInS, DL.eLenS, DL.wSlS, DL.wI2, DL.evd_mx, DL.evd_mn, DL.evd_gcd, DL.wIStr, DL.wIEnumS, DL.wFun, DL.wWord, DL.wWordV, DL.wCallX, DL.wRaise, DL.wWordG, DL.wWordVG, DL.wRaiseI, DL.eJnL, DL.eJnT, DL.wJoin, DL.eStrI, DL.eIntS, DL.strsD_map, c45]
      rw [if_pos c45] at hG
      refine call _ (i + 1) s' _ _ (by omega) ⟨hx5, hx.cd, hil⟩ hi1 ?_
      generalize hw : whole s' n0 = wr at hG
      cases wr with
      | out => exact hG.elim
      | err n => exact hG
      | ok p r =>
        dsimp only [Gv]
        simp -implicitDefEqProofs only [DL.WW, List.isEmpty_nil, List.lookup_cons, List.lookup_nil, List.map, List.length, List.length_cons, List.length_nil, List.length_set, List.replicate, List.append, List.cons_append, List.nil_append, List.append_nil, List.getElem?_cons_zero, List.getElem?_cons_succ, List.getElem?_nil, List.set_cons_zero, List.set_cons_succ, ↓reduceIte, Bool.false_eq_true, Bool.not_true, Bool.not_false, Bool.true_and, Bool.false_and, Bool.and_true, Bool.and_false, Bool.or_true, Bool.or_false, Bool.true_or, Bool.false_or, Nat.reduceAdd, Nat.reduceSub, Nat.reduceLT, Nat.reduceLeDiff, true_and, and_true, and_self, decide_eq_true_eq, Nat.zero_lt_succ, Nat.lt_add_left_iff_pos, beq_self_eq_true, String.reduceBEq, String.reduceEq, Nat.le_refl, Nat.zero_le, Bool.true_eq_false, decide_true, decide_false, Int.reduceEq, Int.reduceLT, Int.reduceLE, Int.reduceSub, Int.reduceAdd, DL.wIfT, DL.wListRg, DL.eSortT, DL.eAddS, DL.eInS, DL.eLenS, DL.wSlS, DL.wI2, DL.evd_mx, DL.evd_mn, DL.evd_gcd, DL.wIStr, DL.wIEnumS, DL.wFun, DL.wWord, DL.wWordV, DL.wCallX, DL.wRaise, DL.wWordG, DL.wWordVG, DL.wRaiseI, DL.eJnL, DL.eJnT, DL.wJoin, DL.eStrI, DL.eIntS, DL.strsD_map]
        exact ⟨p, r, rfl, rfl⟩
    · simp -implicitDefEqProofs only [DL.WW, List.isEmpty_nil, List.lookup_cons, List.lookup_nil, List.map, List.length, List.length_cons, List.length_nil, List.length_set, List.replicate, List.append, List.cons_append, List.nil_append, List.append_nil, List.getElem?_cons_zero, List.getElem?_cons_succ, List.getElem?_nil, List.set_cons_zero, List.set_cons_succ, ↓reduceIte, Bool.false_eq_true, Bool.not_true, Bool.not_false, Bool.true_and, Bool.false_and, Bool.and_true, Bool.and_false, Bool.or_true, Bool.or_false, Bool.true_or, Bool.false_or, Nat.reduceAdd, Nat.reduceSub, Nat.reduceLT, Nat.reduceLeDiff, true_and, and_true, and_self, decide_eq_true_eq, Nat.zero_lt_succ, Nat.lt_add_left_iff_pos, beq_self_eq_true, String.reduceBEq, String.reduceEq, Nat.le_refl, Nat.zero_le, Bool.true_eq_false, decide_true, decide_false, Int.reduceEq, Int.reduceLT, Int.reduceLE, Int.reduceSub, Int.reduceAdd, DL.wIfT, DL.wListRg, DL.eSortT, DL.eAddS, DL.eInS, DL.eLenS, DL.wSlS, DL.wI2, DL.evd_mx, DL.evd_mn, DL.evd_gcd, DL.wIStr, DL.wIEnumS, DL.wFun, DL.wWord, DL.wWordV, DL.wCallX, DL.wRaise, DL.wWordG, DL.wWordVG, DL.wRaiseI, DL.eJnL, DL.eJnT, DL.wJoin, DL.eStrI, DL.eIntS, DL.strsD_map, c45]
      rw [if_neg c45] at hG
      refine call _ i (c :: s') _ _ rfl hx hd ?_
      generalize hw : whole (c :: s') n0 = wr at hG
      cases wr with
      | out => exact hG.elim
      | err n => exact hG
      | ok p r =>
        dsimp only [Gv]
        simp -implicitDefEqProofs only [DL.WW, List.isEmpty_nil, List.lookup_cons, List.lookup_nil, List.map, List.length, List.length_cons, List.length_nil, List.length_set, List.replicate, List.append, List.cons_append, List.nil_append, List.append_nil, List.getElem?_cons_zero, List.getElem?_cons_succ, List.getElem?_nil, List.set_cons_zero, List.set_cons_succ, ↓reduceIte, Bool.false_eq_true, Bool.not_true, Bool.not_false, Bool.true_and, Bool.false_and, Bool.and_true, Bool.and_false, Bool.or_true, Bool.or_false, Bool.true_or, Bool.false_or, Nat.reduceAdd, Nat.reduceSub, Nat.reduceLT, Nat.reduceLeDiff, true_and, and_true, and_self, decide_eq_true_eq, Nat.zero_lt_succ, Nat.lt_add_left_iff_pos, beq_self_eq_true, String.reduceBEq, String.reduceEq, Nat.le_refl, Nat.zero_le, Bool.true_eq_false, decide_true, decide_false, Int.reduceEq, Int.reduceLT, Int.reduceLE, Int.reduceSub, Int.reduceAdd, DL.wIfT, DL.wListRg, DL.eSortT, DL.eAddS, DL.eInS, DL.eLenS, DL.wSlS, DL.wI2, DL.evd_mx, DL.evd_mn, DL.evd_gcd, DL.wIStr, DL.wIEnumS, DL.wFun, DL.wWord, DL.wWordV, DL.wCallX, DL.wRaise, DL.wWordG, DL.wWordVG, DL.wRaiseI, DL.eJnL, DL.eJnT, DL.wJoin, DL.eStrI, DL.eIntS, DL.strsD_map]
        exact ⟨p, r, rfl, rfl⟩
  rintro e ⟨p, r, hw, rfl⟩
  rw [hw] at hG
  have hlf : r <:+ c :: s' := by
    by_cases c45 : c = 45
    · rw [if_pos c45] at hw
      exact (whole_suf hw).1.trans (List.suffix_cons _ _)
    · rw [if_neg c45] at hw
      exact (whole_suf hw).1
  have hrl : r.length ≤ x.length := by have := hlf.length_le; omega
  have hdr := suf_drop hd hlf
  have hxr : XOk x (x.length - r.length) := ⟨hx5, hx.cd, by omega⟩
  dsimp only at hG
  simp -implicitDefEqProofs only [DL.WW, List.isEmpty_nil, List.lookup_cons, List.lookup_nil, List.map, List.length, List.length_cons, List.length_nil, List.length_set, List.replicate, List.append, List.cons_append, List.nil_append, List.append_nil, List.getElem?_cons_zero, List.getElem?_cons_succ, List.getElem?_nil, List.set_cons_zero, List.set_cons_succ, ↓reduceIte, Bool.false_eq_true, Bool.not_true, Bool.not_false, Bool.true_and, Bool.false_and, Bool.and_true, Bool.and_false, Bool.or_true, Bool.or_false, Bool.true_or, Bool.false_or, Nat.reduceAdd, Nat.reduceSub, Nat.reduceLT, Nat.reduceLeDiff, true_and, and_true, and_self, decide_eq_true_eq, Nat.zero_lt_succ, Nat.lt_add_left_iff_pos, beq_self_eq_true, String.reduceBEq, String.reduceEq, Nat.le_refl, Nat.zero_le, Bool.true_eq_false, decide_true, decide_false, Int.reduceEq, Int.reduceLT, Int.reduceLE, Int.reduceSub, Int.reduceAdd, DL.wIfT, DL.wListRg, DL.eSortT, DL.eAddS, DL.eInS, DL.eLenS, DL.wSlS, DL.wI2, DL.evd_mx, DL.evd_mn, DL.evd_gcd, DL.wIStr, DL.wIEnumS, DL.wFun, DL.wWord, DL.wWordV, DL.wCallX, DL.wRaise, DL.wWordG, DL.wWordVG, DL.wRaiseI, DL.eJnL, DL.eJnT, DL.wJoin, DL.eStrI, DL.eIntS, DL.strsD_map]
  by_cases hz : c = 45 ∧ p = 0
  · rw [if_pos hz] at hG
    rw [if_pos hz.1, if_pos (by omega)]
    dsimp only [Gv] at hG
    rw [hplace] at hG
    exact ⟨_, rfl, hG⟩
  rw [if_neg hz] at hG
  refine ite2n (fun h => hz ⟨h.1, by omega⟩) ?_
  obtain ⟨nb, hnb⟩ : ∃ nb, decide (c = 45) = nb := ⟨_, rfl⟩
  rw [hnb] at hG
  clear hw hz
  refine cut_use (fun e => ∃ (b : Nat) (r2 : List Nat), (b = 1 ∨ b = 2 ∨ b = 4 ∨ b = 8 ∨ b = 16) ∧ (b = 1 ∨ p % 2 = 1) ∧ Gv x [none, none] gD T.C_InvalidText P R (if 16 * b < p then .err n0 else .ok (numG (if nb then -(p : Int) else p) (logB b)) r2) ∧
    e = [some (.dat (.str (stC x))), some (.dat (.int i)), some (.dat (.bool (decide (c = 45)))), some (.dat (.int p)), some (.dat (.int ((x.length - r2.length : Nat) : Int))), some (.dat (.int b))]) ?_ ?_
  · unfold numR at hG
    simp -implicitDefEqProofs only [DL.WW, List.isEmpty_nil, List.lookup_cons, List.lookup_nil, List.map, List.length, List.length_cons, List.length_nil, List.length_set, List.replicate, List.append, List.cons_append, List.nil_append, List.append_nil, List.getElem?_cons_zero, List.getElem?_cons_succ, List.getElem?_nil, List.set_cons_zero, List.set_cons_succ, ↓reduceIte, Bool.false_eq_true, Bool.not_true, Bool.not_false, Bool.true_and, Bool.false_and, Bool.and_true, Bool.and_false, Bool.or_true, Bool.or_false, Bool.true_or, Bool.false_or, Nat.reduceAdd, Nat.reduceSub, Nat.reduceLT, Nat.reduceLeDiff, true_and, and_true, and_self, decide_eq_true_eq, Nat.zero_lt_succ, Nat.lt_add_left_iff_pos, beq_self_eq_true, String.reduceBEq, String.reduceEq, Nat.le_refl, Nat.zero_le, Bool.true_eq_false, decide_true, decide_false, Int.reduceEq, Int.reduceLT, Int.reduceLE, Int.reduceSub, Int.reduceAdd, DL.wIfT, DL.wListRg, DL.eSortT, DL.eAddS, DL.eInS, DL.eLenS, DL.wSlS, DL.wI2, DL.evd_mx, DL.evd_mn, DL.evd_gcd, DL.wIStr, DL.wIEnumS, DL.wFun, DL.wWord, DL.wWordV, DL.wCallX, DL.wRaise, DL.wWordG, DL.wWordVG, DL.wRaiseI, DL.eJnL, DL.eJnT, DL.wJoin, DL.eStrI, DL.eIntS, DL.strsD_map, stC_len, esl]
    refine ⟨xl, ?_⟩
    split
    · rename_i hlt
      obtain ⟨y, hy⟩ : ∃ y, x[x.length - r.length]? = some y := ⟨_, List.getElem?_eq_getElem (by omega)⟩
      have hy2 : r.head? = some y := by rw [head_at hdr]; exact hy
      obtain ⟨r1, rfl⟩ : ∃ r1, r = y :: r1 := by
        cases r with
        | nil => cases hy2
        | cons a r1 => cases hy2; exact ⟨r1, rfl⟩
      have hyc := hx.cd y (List.mem_of_getElem? hy)
      rw [at_atI hy]
      refine ⟨xl, ?_⟩
      show _ ∧ _
      refine ⟨one1 hyc, one1 (by decide), ?_⟩
      rw [List.headD_cons, List.drop_one, List.tail_cons] at hG
      simp only [ecs1, stE]
      by_cases h47 : y = 47
      · rw [if_pos h47] at hG
        rw [if_pos h47]
        have hd1 : x.drop (x.length - (y :: r1).length + 1) = r1 := by rw [← List.drop_drop, hdr]; rfl
        have ez : ((x.length - (y :: r1).length : Nat) : Int) + 1 = ((x.length - (y :: r1).length + 1 : Nat) : Int) := by omega
        rw [ez]
        refine ⟨x, r1, _, n0, by rw [hplace], ⟨hx5, hx.cd, by omega⟩, hd1, ?_⟩
        generalize hw : whole r1 n0 = wr at hG
        cases wr with
        | out => exact hG.elim
        | err n => exact hG
        | ok b r2 =>
          dsimp only [Gv]
          dsimp only at hG
          have hin : inV (dV (PyData.int ((b : Nat) : Int))) [dV (PyData.int 2), dV (PyData.int 4), dV (PyData.int 8), dV (PyData.int 16)] = decide (b = 2 ∨ b = 4 ∨ b = 8 ∨ b = 16) := inB b
          simp -implicitDefEqProofs only [DL.WW, List.isEmpty_nil, List.lookup_cons, List.lookup_nil, List.map, List.length, List.length_cons, List.length_nil, List.length_set, List.replicate, List.append, List.cons_append, List.nil_append, List.append_nil, List.getElem?_cons_zero, List.getElem?_cons_succ, List.getElem?_nil, List.set_cons_zero, List.set_cons_succ, ↓reduceIte, Bool.false_eq_true, Bool.not_true, Bool.not_false, Bool.true_and, Bool.false_and, Bool.and_true, Bool.and_false, Bool.or_true, Bool.or_false, Bool.true_or, Bool.false_or, Nat.reduceAdd, Nat.reduceSub, Nat.reduceLT, Nat.reduceLeDiff, true_and, and_true, and_self, decide_eq_true_eq, Nat.zero_lt_succ, Nat.lt_add_left_iff_pos, beq_self_eq_true, String.reduceBEq, String.reduceEq, Nat.le_refl, Nat.zero_le, Bool.true_eq_false, decide_true, decide_false, Int.reduceEq, Int.reduceLT, Int.reduceLE, Int.reduceSub, Int.reduceAdd, DL.wIfT, DL.wListRg, DL.eSortT, DL.eAddS, DL.eInS, DL.eLenS, DL.wSlS, DL.wI2, DL.evd_mx, DL.evd_mn, DL.evd_gcd, DL.wIStr, DL.wIEnumS, DL.wFun, DL.wWord, DL.wWordV, DL.wCallX, DL.wRaise, DL.wWordG, DL.wWordVG, DL.wRaiseI, DL.eJnL, DL.eJnT, DL.wJoin, DL.eStrI, DL.eIntS, DL.strsD_map, hin]
          refine ⟨by decide, ?_⟩
          by_cases hb : b = 2 ∨ b = 4 ∨ b = 8 ∨ b = 16
          · rw [decide_eq_true hb, if_neg (by decide)]
            by_cases hp : p % 2 = 0
            · rw [if_pos (.inr hp)] at hG
              rw [if_pos (by omega)]
              dsimp only [Gv] at hG
              rw [hplace] at hG
              exact ⟨_, rfl, hG⟩
            · rw [if_neg (fun h => h.elim (fun h => h hb) hp)] at hG
              rw [if_neg (by omega)]
              exact ⟨b, r2, by omega, by omega, hG, rfl⟩
          · rw [if_pos (.inl hb)] at hG
            rw [decide_eq_false hb, if_pos (by decide)]
            dsimp only [Gv] at hG
            rw [hplace] at hG
            exact ⟨_, rfl, hG⟩
      · rw [if_neg h47] at hG
        rw [if_neg h47]
        exact ⟨1, y :: r1, by omega, by omega, hG, rfl⟩
    · rename_i hlt
      have hr0 : r = [] := List.length_eq_zero_iff.mp (by omega)
      subst hr0
      rw [if_neg (by decide)] at hG
      exact ⟨1, [], by omega, by omega, hG, rfl⟩
  rintro e ⟨b, r2, hb, hpb, hG2, rfl⟩
  obtain ⟨hb1, hb2, hb3⟩ := log2B hb
  have hcm : CMul 16 ((b : Nat) : Int) := .inl ⟨by decide, by omega⟩
  simp -implicitDefEqProofs only [DL.WW, List.isEmpty_nil, List.lookup_cons, List.lookup_nil, List.map, List.length, List.length_cons, List.length_nil, List.length_set, List.replicate, List.append, List.cons_append, List.nil_append, List.append_nil, List.getElem?_cons_zero, List.getElem?_cons_succ, List.getElem?_nil, List.set_cons_zero, List.set_cons_succ, ↓reduceIte, Bool.false_eq_true, Bool.not_true, Bool.not_false, Bool.true_and, Bool.false_and, Bool.and_true, Bool.and_false, Bool.or_true, Bool.or_false, Bool.true_or, Bool.false_or, Nat.reduceAdd, Nat.reduceSub, Nat.reduceLT, Nat.reduceLeDiff, true_and, and_true, and_self, decide_eq_true_eq, Nat.zero_lt_succ, Nat.lt_add_left_iff_pos, beq_self_eq_true, String.reduceBEq, String.reduceEq, Nat.le_refl, Nat.zero_le, Bool.true_eq_false, decide_true, decide_false, Int.reduceEq, Int.reduceLT, Int.reduceLE, Int.reduceSub, Int.reduceAdd, DL.wIfT, DL.wListRg, DL.eSortT, DL.eAddS, DL.eInS, DL.eLenS, DL.wSlS, DL.wI2, DL.evd_mx, DL.evd_mn, DL.evd_gcd, DL.wIStr, DL.wIEnumS, DL.wFun, DL.wWord, DL.wWordV, DL.wCallX, DL.wRaise, DL.wWordG, DL.wWordVG, DL.wRaiseI, DL.eJnL, DL.eJnT, DL.wJoin, DL.eStrI, DL.eIntS, DL.strsD_map]
  refine ⟨hcm, ?_⟩
  by_cases hle : 16 * b < p
  · rw [if_pos hle] at hG2
    rw [if_pos (by omega)]
    dsimp only [Gv] at hG2
    rw [hplace] at hG2
    exact ⟨_, rfl, hG2⟩
  rw [if_neg hle] at hG2
  rw [if_neg (by omega)]
  dsimp only [Gv] at hG2
  have hodd : logB b = 0 ∨ p % 2 = 1 := hpb.elim (fun h => .inl (hb3.mpr h)) .inr
  have hbi : ((b : Nat) : Int) = ((2 ^ logB b : Nat) : Int) := by rw [hb1]
  by_cases c45 : c = 45
  · rw [if_pos c45]
    rw [if_pos (by rw [← hnb]; exact decide_eq_true c45)] at hG2
    have en : nfD (numN 6 (-(p : Int)) (logB b)) = gD (numG (-(p : Int)) (logB b)) := nfD_nG _
    rw [hbi]
    refine ⟨-(p : Int), logB b, rfl, by omega, by omega, by omega, by omega, ?_⟩
    simp -implicitDefEqProofs only [DL.WW, List.isEmpty_nil, List.lookup_cons, List.lookup_nil, List.map, List.length, List.length_cons, List.length_nil, List.length_set, List.replicate, List.append, List.cons_append, List.nil_append, List.append_nil, List.getElem?_cons_zero, List.getElem?_cons_succ, List.getElem?_nil, List.set_cons_zero, List.set_cons_succ, ↓reduceIte, Bool.false_eq_true, Bool.not_true, Bool.not_false, Bool.true_and, Bool.false_and, Bool.and_true, Bool.and_false, Bool.or_true, Bool.or_false, Bool.true_or, Bool.false_or, Nat.reduceAdd, Nat.reduceSub, Nat.reduceLT, Nat.reduceLeDiff, true_and, and_true, and_self, decide_eq_true_eq, Nat.zero_lt_succ, Nat.lt_add_left_iff_pos, beq_self_eq_true, String.reduceBEq, String.reduceEq, Nat.le_refl, Nat.zero_le, Bool.true_eq_false, decide_true, decide_false, Int.reduceEq, Int.reduceLT, Int.reduceLE, Int.reduceSub, Int.reduceAdd, DL.wIfT, DL.wListRg, DL.eSortT, DL.eAddS, DL.eInS, DL.eLenS, DL.wSlS, DL.wI2, DL.evd_mx, DL.evd_mn, DL.evd_gcd, DL.wIStr, DL.wIEnumS, DL.wFun, DL.wWord, DL.wWordV, DL.wCallX, DL.wRaise, DL.wWordG, DL.wWordVG, DL.wRaiseI, DL.eJnL, DL.eJnT, DL.wJoin, DL.eStrI, DL.eIntS, DL.strsD_map, en]
    exact hG2
  · rw [if_neg c45]
    rw [if_neg (fun h => c45 (of_decide_eq_true (hnb.trans h)))] at hG2
    have en : nfD (numN 6 (p : Int) (logB b)) = gD (numG (p : Int) (logB b)) := nfD_nG _
    rw [hbi]
    refine ⟨(p : Int), logB b, rfl, by omega, by omega, by omega, by omega, ?_⟩
    simp -implicitDefEqProofs only [DL.WW, List.isEmpty_nil, List.lookup_cons, List.lookup_nil, List.map, List.length, List.length_cons, List.length_nil, List.length_set, List.replicate, List.append, List.cons_append, List.nil_append, List.append_nil, List.getElem?_cons_zero, List.getElem?_cons_succ, List.getElem?_nil, List.set_cons_zero, List.set_cons_succ, ↓reduceIte, Bool.false_eq_true, Bool.not_true, Bool.not_false, Bool.true_and, Bool.false_and, Bool.and_true, Bool.and_false, Bool.or_true, Bool.or_false, Bool.true_or, Bool.false_or, Nat.reduceAdd, Nat.reduceSub, Nat.reduceLT, Nat.reduceLeDiff, true_and, and_true, and_self, decide_eq_true_eq, Nat.zero_lt_succ, Nat.lt_add_left_iff_pos, beq_self_eq_true, String.reduceBEq, String.reduceEq, Nat.le_refl, Nat.zero_le, Bool.true_eq_false, decide_true, decide_false, Int.reduceEq, Int.reduceLT, Int.reduceLE, Int.reduceSub, Int.reduceAdd, DL.wIfT, DL.wListRg, DL.eSortT, DL.eAddS, DL.eInS, DL.eLenS, DL.wSlS, DL.wI2, DL.evd_mx, DL.evd_mn, DL.evd_gcd, DL.wIStr, DL.wIEnumS, DL.wFun, DL.wWord, DL.wWordV, DL.wCallX, DL.wRaise, DL.wWordG, DL.wWordVG, DL.wRaiseI, DL.eJnL, DL.eJnT, DL.wJoin, DL.eStrI, DL.eIntS, DL.strsD_map, en]
    exact hG2
end
end K07D


set_option Elab.async false
set_option linter.all false
set_option maxRecDepth 100000
set_option maxHeartbeats 4000000
namespace K07D
open PySem L2 TG DL K07 SK TXG
section
variable {P : Program} {w : World} {K : PySem.W.Frag} {mg : Str → Option Value} {base : Heap}
def FX_read_star (T : Txt K mg) : FXp := fun args P R => ∃ (x s : List Nat) (i : Nat), args = [some (.dat (.str (stC x))), some (.dat (.int i))] ∧ XOk x i ∧ x.drop i = 42 :: s ∧ Gv x [none, none] gD T.C_InvalidText P R (starR (42 :: s))
theorem okX_read_star {k : Nat} (T : Txt K mg) (G_digits_from : FnOk P w K mg base CX0 (k + 1) T.a_digits_from T.d_digits_from ["text", "at"] (spD K F_digits_from)) (G_nimber_form : FnOk P w K mg base CX0 (k + 1) T.a_nimber_form T.d_nimber_form ["size"] (spD K F_nimber_form)) (I_InvalidText___init__ : FnOk P w K mg base (L2.CX P w) k T.a_InvalidText___init__ T.d_InvalidText___init__ ["self", "place"] (LamY.spKeep K "place")) : FnOk P w K mg base (L2.CX P w) (k + 2) T.a_read_star T.d_read_star ["text", "start"] (spX K (FX_read_star T)) := by
  refine (fun (hA : ∀ args P R, (FX_read_star T) args P R → args.length = 2) => T.F_read_star.okE (sp := spX K (FX_read_star T)) sc_read_star (fun vs H Q E h => spX_len hA h) (fun cdv A outer s H vs Q E hr h => ⟨_, (pss_cons (ps_set (i := 2) sc_read_star.nd rfl (Or.inl rfl) (pe_call G_digits_from hr rfl T.g_digits_from T.F_digits_from.kp T.b_digits_from .nil pass0 (pa_cons (pv 0) (pa_cons (pe_op op_add (pv 1) pe_int) pa_nil))))
  (pss_cons (ps_if (pt_cmpR (op_eqDK (K := K) rfl hr.units) (pv 2) (pe_op op_add (pv 1) pe_int) (nomark _))
  (pss_one (ps_ret (pe_tup (pa_cons (pe_glob (v := T.v_STAR) rfl T.c_STAR T.r_STAR) (pa_cons (pv 2) pa_nil)))))
  pss_nil)
  (pss_cons (ps_if (PW.pt (pw_or (pt_cmpR op_gt (pv 2) (pe_op op_add (pv 1) pe_int) (nomark _)) (pw_or1 (pt_cmpR op_notIn_sign (pe_ix ix_str (pv 0) (pe_op op_add (pv 1) pe_int) (fun _ _ => rfl)) pe_str rfl))))
  (pss_one (ps_raise rfl (takes_of rfl rfl rfl rfl) (pmk_oex T.ox_InvalidText.ok T.ic_InvalidText T.ti_InvalidText (I_InvalidText___init__) (hr.mono (Nat.le_refl _)) T.b_InvalidText___init__ .nil (passes_call (takes_of rfl rfl rfl rfl) (fun _ _ _ _ h => h.elim)) rfl T.gx_InvalidText (pa_cons (pv 1) pa_nil))))
  pss_nil)
  (pss_one (ps_ret (pe_tup (pa_cons (pe_call G_nimber_form hr rfl T.g_nimber_form T.F_nimber_form.kp T.b_nimber_form .nil pass0 (pa_cons (pe_callTy call_int_str rfl T.m_int (by decide +kernel) (pa_cons (pe_ix ix_str (pv 0) (pe_op op_add (pv 1) pe_int) (fun _ _ => rfl)) pa_nil)) pa_nil)) (pa_cons (pv 2) pa_nil)))))))), fnX_run (N := ["text", "start", "end"]) h (fun A' Hz' R' hE => (ss_seq (ss_asg (se_call (sa_cons se_var (sa_cons (se_op (sr_I0 (fun _ _ => rfl)) se_var se_int) sa_nil))) sg_name)
  (ss_seq (ss_if (st_test (se_op sr_eqD se_var (se_op (sr_I0 (fun _ _ => rfl)) se_var se_int)))
  (ss_ret (se_tup (sa_cons (se_gd fun H => dp_of _ _ (T.q_STAR H)) (sa_cons se_var sa_nil))))
  ss_next)
  (ss_seq (ss_if (st_or (st_test (se_op (sr_I0 (fun _ _ => rfl)) se_var (se_op (sr_I0 (fun _ _ => rfl)) se_var se_int))) (st_test (se_op sr_notInS (se_op sr_ixS se_var (se_op (sr_I0 (fun _ _ => rfl)) se_var se_int)) se_str)))
  (ss_raiseI (x := "place") T.ox_InvalidText.ok T.no_InvalidText hE (sa_cons se_var sa_nil))
  ss_next)
  (ss_ret (se_tup (sa_cons (se_call (sa_cons (se_cb1 sc_intS (se_op sr_ixS se_var (se_op (sr_I0 (fun _ _ => rfl)) se_var se_int))) sa_nil)) (sa_cons se_var sa_nil)))))))) (fun args P R hl hF => ?_) (by rw [spX_len hA h]; exact Nat.le_of_ble_eq_true rfl)⟩)) (fun args P R hF => ?_)
  rotate_left
  · obtain ⟨x, s, i, rfl, _⟩ := hF
    rfl
  obtain ⟨x, s, i, rfl, hx, hd, hG⟩ := hF
  have hx5 := hx.len
  have xl : x.length ≤ sizeLine := Nat.le_trans hx5 (by decide)
  have hls := dr_len hx.le hd
  have hd1 : x.drop (i + 1) = s := by rw [← List.drop_drop, hd]; rfl
  have hl1 := len_drop (show x.drop i = [42] ++ s from hd) hx.le
  rw [show ([42] : List Nat).length = 1 from rfl] at hl1
  have e := spanD_app s
  have hdd : x.drop (i + 1) = (spanD s).1 ++ (spanD s).2 := hd1.trans e
  have hl := len_drop hdd (by omega)
  unfold starR at hG
  rw [List.drop_one, List.tail_cons] at hG
  simp -implicitDefEqProofs only [DL.WW, List.isEmpty_nil, List.lookup_cons, List.lookup_nil, List.map, List.length, List.length_cons, List.length_nil, List.length_set, List.replicate, List.append, List.cons_append, List.nil_append, List.append_nil, List.getElem?_cons_zero, List.getElem?_cons_succ, List.getElem?_nil, List.set_cons_zero, List.set_cons_succ, ↓reduceIte, Bool.false_eq_true, Bool.not_true, Bool.not_false, Bool.true_and, Bool.false_and, Bool.and_true, Bool.and_false, Bool.or_true, Bool.or_false, Bool.true_or, Bool.false_or, Nat.reduceAdd, Nat.reduceSub, Nat.reduceLT, Nat.reduceLeDiff, true_and, and_true, and_self, decide_eq_true_eq, Nat.zero_lt_succ, Nat.lt_add_left_iff_pos, beq_self_eq_true, String.reduceBEq, String.reduceEq, Nat.le_refl, Nat.zero_le, Bool.true_eq_false, decide_true, decide_false, Int.reduceEq, Int.reduceLT, Int.reduceLE, Int.reduceSub, Int.reduceAdd, DL.wIfT, DL.wListRg, DL.eSortT, DL.eAddS, DL.eInS, DL.eLenS, DL.wSlS, DL.wI2, DL.evd_mx, DL.evd_mn, DL.evd_gcd, DL.wIStr, DL.wIEnumS, DL.wFun, DL.wWord, DL.wWordV, DL.wCallX, DL.wRaise, DL.wWordG, DL.wWordVG, DL.wRaiseI, DL.eJnL, DL.eJnT, DL.wJoin, DL.eStrI, DL.eIntS, DL.strsD_map]
  have ei : (i : Int) + 1 = ((i + 1 : Nat) : Int) := by omega
  rw [ei]
  refine ⟨x, _, _, i + 1, rfl, hx5, by omega, hdd, spanD_dg s, spanD_nd s, ?_⟩
  simp -implicitDefEqProofs only [DL.WW, List.isEmpty_nil, List.lookup_cons, List.lookup_nil, List.map, List.length, List.length_cons, List.length_nil, List.length_set, List.replicate, List.append, List.cons_append, List.nil_append, List.append_nil, List.getElem?_cons_zero, List.getElem?_cons_succ, List.getElem?_nil, List.set_cons_zero, List.set_cons_succ, ↓reduceIte, Bool.false_eq_true, Bool.not_true, Bool.not_false, Bool.true_and, Bool.false_and, Bool.and_true, Bool.and_false, Bool.or_true, Bool.or_false, Bool.true_or, Bool.false_or, Nat.reduceAdd, Nat.reduceSub, Nat.reduceLT, Nat.reduceLeDiff, true_and, and_true, and_self, decide_eq_true_eq, Nat.zero_lt_succ, Nat.lt_add_left_iff_pos, beq_self_eq_true, String.reduceBEq, String.reduceEq, Nat.le_refl, Nat.zero_le, Bool.true_eq_false, decide_true, decide_false, Int.reduceEq, Int.reduceLT, Int.reduceLE, Int.reduceSub, Int.reduceAdd, DL.wIfT, DL.wListRg, DL.eSortT, DL.eAddS, DL.eInS, DL.eLenS, DL.wSlS, DL.wI2, DL.evd_mx, DL.evd_mn, DL.evd_gcd, DL.wIStr, DL.wIEnumS, DL.wFun, DL.wWord, DL.wWordV, DL.wCallX, DL.wRaise, DL.wWordG, DL.wWordVG, DL.wRaiseI, DL.eJnL, DL.eJnT, DL.wJoin, DL.eStrI, DL.eIntS, DL.strsD_map, dZ, dS]
  by_cases c0 : (spanD s).1 = []
  · rw [if_pos c0] at hG
    dsimp only [Gv] at hG
    have : x.length - s.length = i + 1 := by omega
    rw [this] at hG
    have e0 : ((i + 1 + (spanD s).1.length : Nat) : Int) = ((i + 1 : Nat) : Int) := by rw [c0]; rfl
    rw [e0, if_pos (by omega)]
    exact hG
  rw [if_neg c0] at hG
  have hne := List.length_pos_iff.mpr c0
  rw [if_neg (by omega)]
  have hc0 : x[i + 1]? = some (spanD s).1[0] := by simpa using at_drop hdd hne
  have hh : s.headD 0 = (spanD s).1[0] := by
    rw [List.headD_eq_head?_getD, head_at hd1, hc0]
    rfl
  have hdg := spanD_dg s _ (List.getElem_mem hne)
  rw [hh] at hG
  generalize (spanD s).1[0] = c at *
  have hcc : 48 ≤ c ∧ c ≤ 57 := hdg
  by_cases c1 : 1 < (spanD s).1.length
  · rw [if_pos (.inl c1)] at hG
    rw [if_pos (by omega)]
    dsimp only [Gv] at hG
    rw [hls] at hG
    exact ⟨_, rfl, hG⟩
  rw [if_neg (by omega)]
  have e2 : (i : Int) + 1 = ((i + 1 : Nat) : Int) := by omega
  simp only [e2, at_atI hc0]
  have hm : decide (c ∈ (Str.ofString "2345").cps.toList) = decide (50 ≤ c ∧ c ≤ 53) := by
    have : c = 48 ∨ c = 49 ∨ c = 50 ∨ c = 51 ∨ c = 52 ∨ c = 53 ∨ c = 54 ∨ c = 55 ∨ c = 56 ∨ c = 57 := by omega
    rcases this with rfl | rfl | rfl | rfl | rfl | rfl | rfl | rfl | rfl | rfl <;> decide +kernel
  refine ⟨by rw [stC_len]; exact xl, ?_⟩
  show ∃ c1, _
  refine ⟨c, rfl, ?_⟩
  rw [hm]
  by_cases c2 : 50 ≤ c ∧ c ≤ 53
  · rw [if_neg (fun h => h.elim c1 (fun h => h c2))] at hG
    rw [decide_eq_true c2, if_neg (by decide)]
    dsimp only [Gv] at hG
    have hv : intText? (stC [c]) = some ((c - 48 : Nat) : Int) := by
      have : c = 50 ∨ c = 51 ∨ c = 52 ∨ c = 53 := by omega
      rcases this with rfl | rfl | rfl | rfl <;> decide +kernel
    refine ⟨by rw [stC_len]; exact xl, ?_⟩
    show _ ∧ _
    refine ⟨by show (stC [c]).length ≤ 640; rw [stC_len]; simp, ?_⟩
    simp only [ecs1, hv]
    rw [ob1_some]
    refine ⟨c - 48, rfl, by omega, ?_⟩
    simp -implicitDefEqProofs only [DL.WW, List.isEmpty_nil, List.lookup_cons, List.lookup_nil, List.map, List.length, List.length_cons, List.length_nil, List.length_set, List.replicate, List.append, List.cons_append, List.nil_append, List.append_nil, List.getElem?_cons_zero, List.getElem?_cons_succ, List.getElem?_nil, List.set_cons_zero, List.set_cons_succ, ↓reduceIte, Bool.false_eq_true, Bool.not_true, Bool.not_false, Bool.true_and, Bool.false_and, Bool.and_true, Bool.and_false, Bool.or_true, Bool.or_false, Bool.true_or, Bool.false_or, Nat.reduceAdd, Nat.reduceSub, Nat.reduceLT, Nat.reduceLeDiff, true_and, and_true, and_self, decide_eq_true_eq, Nat.zero_lt_succ, Nat.lt_add_left_iff_pos, beq_self_eq_true, String.reduceBEq, String.reduceEq, Nat.le_refl, Nat.zero_le, Bool.true_eq_false, decide_true, decide_false, Int.reduceEq, Int.reduceLT, Int.reduceLE, Int.reduceSub, Int.reduceAdd, DL.wIfT, DL.wListRg, DL.eSortT, DL.eAddS, DL.eInS, DL.eLenS, DL.wSlS, DL.wI2, DL.evd_mx, DL.evd_mn, DL.evd_gcd, DL.wIStr, DL.wIEnumS, DL.wFun, DL.wWord, DL.wWordV, DL.wCallX, DL.wRaise, DL.wWordG, DL.wWordVG, DL.wRaiseI, DL.eJnL, DL.eJnT, DL.wJoin, DL.eStrI, DL.eIntS, DL.strsD_map]
    have : x.length - (spanD s).2.length = i + 1 + (spanD s).1.length := by omega
    rw [this] at hG
    exact hG
  · rw [if_pos (.inr c2)] at hG
    rw [decide_eq_false c2, if_pos (by decide)]
    dsimp only [Gv] at hG
    rw [hls] at hG
    exact ⟨_, rfl, hG⟩
def FX_rf (d : Nat) (T : Txt K mg) : FXp := fun args P R => ∃ (x s : List Nat) (i : Nat), args = [some (.dat (.str (stC x))), some (.dat (.int i))] ∧ XOk x i ∧ x.drop i = s ∧ Gv x [none, none] gD T.C_InvalidText P R (rf d s)
def FX_rs (d : Nat) (T : Txt K mg) : FXp := fun args P R => ∃ (x s : List Nat) (i l : Nat), args = [some (.dat (.str (stC x))), some (.dat (.int i)), some (.dat (.str (stC [l])))] ∧ XOk x i ∧ (l = 124 ∨ l = 125) ∧ x.drop i = s ∧
  Gv x [none, none, none] (fun gs => .tuple (gs.map gD)) T.C_InvalidText P R (side (rf d) l s)
section
variable {d : Nat} {T0 : Txt K mg} {FX_read_side : Txt K mg → FXp} (hS : ∀ T d', d = d' + 1 → FX_read_side T = FX_rs d' T)
include hS
theorem okX_read_from {k : Nat} (T : Txt K mg) (GX_read_number : FnOk P w K mg base (L2.CX P w) (k + 1) T.a_read_number T.d_read_number ["text", "start"] (spX K (FX_read_number T))) (GX_read_star : FnOk P w K mg base (L2.CX P w) (k + 1) T.a_read_star T.d_read_star ["text", "start"] (spX K (FX_read_star T))) (GX_read_side : FnOk P w K mg base (L2.CX P w) (k + 1) T.a_read_side T.d_read_side ["text", "at", "last"] (spX K (FX_read_side T))) (I_InvalidText___init__ : FnOk P w K mg base (L2.CX P w) k T.a_InvalidText___init__ T.d_InvalidText___init__ ["self", "place"] (LamY.spKeep K "place")) : FnOk P w K mg base (L2.CX P w) (k + 2) T.a_read_from T.d_read_from ["text", "at"] (spX K (FX_rf d T)) := by
  refine (fun (hA : ∀ args P R, (FX_rf d T) args P R → args.length = 2) => T.F_read_from.okE (sp := spX K (FX_rf d T)) sc_read_from (fun vs H Q E h => spX_len hA h) (fun cdv A outer s H vs Q E hr h => ⟨_, (pss_cons (ps_if (pt_cmpR (op_eqDK (K := K) rfl hr.units) (pv 1) (pe_callB call_len_str rfl T.m_len PySem.boot_len (pa_cons (pv 0) pa_nil)) (nomark _))
  (pss_one (ps_raise rfl (takes_of rfl rfl rfl rfl) (pmk_oex T.ox_InvalidText.ok T.ic_InvalidText T.ti_InvalidText (I_InvalidText___init__) (hr.mono (Nat.le_refl _)) T.b_InvalidText___init__ .nil (passes_call (takes_of rfl rfl rfl rfl) (fun _ _ _ _ h => h.elim)) rfl T.gx_InvalidText (pa_cons (pv 1) pa_nil))))
  pss_nil)
  (pss_cons (ps_set (i := 2) sc_read_from.nd rfl (Or.inl rfl) (pe_ix ix_str (pv 0) (pv 1) (fun _ _ => rfl)))
  (pss_cons (ps_if (PW.pt (pw_or (pt_cmpR (op_eqDK (K := K) rfl hr.units) (pv 2) pe_str (nomark _)) (pw_or1 (pt_cmpR op_in_sign (pv 2) (pe_glob (v := .str "0123456789") rfl T.c_DIGITS ⟨_, rfl⟩) rfl))))
  (pss_one (ps_ret (pe_call GX_read_number hr rfl T.g_read_number T.F_read_number.kp T.b_read_number .nil (passes_call (takes_of rfl rfl rfl rfl) (fun _ _ _ _ h => h)) (pa_cons (pv 0) (pa_cons (pv 1) pa_nil)))))
  pss_nil)
  (pss_cons (ps_if (pt_cmpR (op_eqDK (K := K) rfl hr.units) (pv 2) pe_str (nomark _))
  (pss_one (ps_ret (pe_call GX_read_star hr rfl T.g_read_star T.F_read_star.kp T.b_read_star .nil (passes_call (takes_of rfl rfl rfl rfl) (fun _ _ _ _ h => h)) (pa_cons (pv 0) (pa_cons (pv 1) pa_nil)))))
  pss_nil)
  (pss_cons (ps_if (pt_cmpR (op_in_seqK (K := K) rfl) (pv 2) (pe_tup (pa_cons pe_str (pa_cons pe_str pa_nil))) (by rfl))
  (pss_cons (ps_if (PW.pt (pw_and (pt_cmpR op_lt (pe_op op_add (pv 1) pe_int) (pe_callB call_len_str rfl T.m_len PySem.boot_len (pa_cons (pv 0) pa_nil)) (nomark _)) (pw_and1 (pt_cmpR (op_eqDK (K := K) rfl hr.units) (pe_ix ix_str (pv 0) (pe_op op_add (pv 1) pe_int) (fun _ _ => rfl)) pe_str (nomark _)))))
  (pss_one (ps_ret (pe_tup (pa_cons (pe_ifExp (pt_cmpR (op_eqDK (K := K) rfl hr.units) (pv 2) pe_str (nomark _)) (pe_glob (v := T.v_UP_STAR) rfl T.c_UP_STAR T.r_UP_STAR) (pe_glob (v := T.v_DOWN_STAR) rfl T.c_DOWN_STAR T.r_DOWN_STAR)) (pa_cons (pe_op op_add (pv 1) pe_int) pa_nil)))))
  pss_nil)
  (pss_one (ps_ret (pe_tup (pa_cons (pe_ifExp (pt_cmpR (op_eqDK (K := K) rfl hr.units) (pv 2) pe_str (nomark _)) (pe_glob (v := T.v_UP) rfl T.c_UP T.r_UP) (pe_glob (v := T.v_DOWN) rfl T.c_DOWN T.r_DOWN)) (pa_cons (pe_op op_add (pv 1) pe_int) pa_nil))))))
  pss_nil)
  (pss_cons (ps_if (pt_cmpR (op_neDK (K := K) rfl hr.units) (pv 2) pe_str (nomark _))
  (pss_one (ps_raise rfl (takes_of rfl rfl rfl rfl) (pmk_oex T.ox_InvalidText.ok T.ic_InvalidText T.ti_InvalidText (I_InvalidText___init__) (hr.mono (Nat.le_refl _)) T.b_InvalidText___init__ .nil (passes_call (takes_of rfl rfl rfl rfl) (fun _ _ _ _ h => h.elim)) rfl T.gx_InvalidText (pa_cons (pv 1) pa_nil))))
  pss_nil)
  (pss_cons (ps_asg (pe_call GX_read_side hr rfl T.g_read_side T.F_read_side.kp T.b_read_side .nil (passes_call (takes_of rfl rfl rfl rfl) (fun _ _ _ _ h => h)) (pa_cons (pv 0) (pa_cons (pe_op op_add (pv 1) pe_int) (pa_cons pe_str pa_nil)))) (pg_tupK (K := K) (n := 2) rfl rfl (pgs_cons (pg_name (i := 3) sc_read_from.nd rfl (Or.inl rfl)) (pgs_cons (pg_name (i := 1) sc_read_from.nd rfl (Or.inl rfl)) pgs_nil))))
  (pss_cons (ps_asg (pe_call GX_read_side hr rfl T.g_read_side T.F_read_side.kp T.b_read_side .nil (passes_call (takes_of rfl rfl rfl rfl) (fun _ _ _ _ h => h)) (pa_cons (pv 0) (pa_cons (pv 1) (pa_cons pe_str pa_nil)))) (pg_tupK (K := K) (n := 2) rfl rfl (pgs_cons (pg_name (i := 4) sc_read_from.nd rfl (Or.inl rfl)) (pgs_cons (pg_name (i := 1) sc_read_from.nd rfl (Or.inl rfl)) pgs_nil))))
  (pss_one (ps_ret (pe_tup (pa_cons (pe_tup (pa_cons (pv 3) (pa_cons (pv 4) pa_nil))) (pa_cons (pv 1) pa_nil))))))))))))), fnX_run (N := ["text", "at", "sign", "lefts", "rights"]) h (fun A' Hz' R' hE => (ss_seq (ss_if (st_test (se_op sr_eqD se_var (se_cb1 sc_lenS se_var)))
  (ss_raiseI (x := "place") T.ox_InvalidText.ok T.no_InvalidText hE (sa_cons se_var sa_nil))
  ss_next)
  (ss_seq (ss_asg (se_op sr_ixS se_var se_var) sg_name)
  (ss_seq (ss_if (st_or (st_test (se_op sr_eqD se_var se_str)) (st_test (se_op sr_inS se_var se_str)))
  (ss_ret (se_callX hE (sa_cons se_var (sa_cons se_var sa_nil))))
  ss_next)
  (ss_seq (ss_if (st_test (se_op sr_eqD se_var se_str))
  (ss_ret (se_callX hE (sa_cons se_var (sa_cons se_var sa_nil))))
  ss_next)
  (ss_seq (ss_if (st_test (se_op sr_in se_var (se_tup (sa_cons se_str (sa_cons se_str sa_nil)))))
  (ss_seq (ss_if (st_and (st_test (se_op (sr_I0 (fun _ _ => rfl)) (se_op (sr_I0 (fun _ _ => rfl)) se_var se_int) (se_cb1 sc_lenS se_var))) (st_test (se_op sr_eqD (se_op sr_ixS se_var (se_op (sr_I0 (fun _ _ => rfl)) se_var se_int)) se_str)))
  (ss_ret (se_tup (sa_cons (se_if (st_test (se_op sr_eqD se_var se_str)) (se_gd fun H => dp_of _ _ (T.q_UP_STAR H)) (se_gd fun H => dp_of _ _ (T.q_DOWN_STAR H))) (sa_cons (se_op (sr_I0 (fun _ _ => rfl)) se_var se_int) sa_nil))))
  ss_next)
  (ss_ret (se_tup (sa_cons (se_if (st_test (se_op sr_eqD se_var se_str)) (se_gd fun H => dp_of _ _ (T.q_UP H)) (se_gd fun H => dp_of _ _ (T.q_DOWN H))) (sa_cons (se_op (sr_I0 (fun _ _ => rfl)) se_var se_int) sa_nil)))))
  ss_next)
  (ss_seq (ss_if (st_test (se_op sr_neD se_var se_str))
  (ss_raiseI (x := "place") T.ox_InvalidText.ok T.no_InvalidText hE (sa_cons se_var sa_nil))
  ss_next)
  (ss_seq (ss_asg (se_callX hE (sa_cons se_var (sa_cons (se_op (sr_I0 (fun _ _ => rfl)) se_var se_int) (sa_cons se_str sa_nil)))) (sg_tup (sgs_cons sg_name (sgs_cons sg_name sgs_nil))))
  (ss_seq (ss_asg (se_callX hE (sa_cons se_var (sa_cons se_var (sa_cons se_str sa_nil)))) (sg_tup (sgs_cons sg_name (sgs_cons sg_name sgs_nil))))
  (ss_ret (se_tup (sa_cons (se_tup (sa_cons se_var (sa_cons se_var sa_nil))) (sa_cons se_var sa_nil))))))))))))) (fun args P R hl hF => ?_) (by rw [spX_len hA h]; exact Nat.le_of_ble_eq_true rfl)⟩)) (fun args P R hF => ?_)
  rotate_left
  · obtain ⟨x, s, i, rfl, _⟩ := hF
    rfl
  obtain ⟨x, s, i, rfl, hx, hd, hG⟩ := hF
  have hx5 := hx.len
  have xl : x.length ≤ sizeLine := Nat.le_trans hx5 (by decide)
  have hls := dr_len hx.le hd
  have sm : Str.ofString "-" = stC [45] := by decide +kernel
  have ss : Str.ofString "*" = stC [42] := by decide +kernel
  have su : Str.ofString "^" = stC [94] := by decide +kernel
  have sv : Str.ofString "v" = stC [118] := by decide +kernel
  have sb : Str.ofString "{" = stC [123] := by decide +kernel
  have s1 : Str.ofString "|" = stC [124] := by decide +kernel
  have s2 : Str.ofString "}" = stC [125] := by decide +kernel
  simp -implicitDefEqProofs only [DL.WW, List.isEmpty_nil, List.lookup_cons, List.lookup_nil, List.map, List.length, List.length_cons, List.length_nil, List.length_set, List.replicate, List.append, List.cons_append, List.nil_append, List.append_nil, List.getElem?_cons_zero, List.getElem?_cons_succ, List.getElem?_nil, List.set_cons_zero, List.set_cons_succ, ↓reduceIte, Bool.false_eq_true, Bool.not_true, Bool.not_false, Bool.true_and, Bool.false_and, Bool.and_true, Bool.and_false, Bool.or_true, Bool.or_false, Bool.true_or, Bool.false_or, Nat.reduceAdd, Nat.reduceSub, Nat.reduceLT, Nat.reduceLeDiff, true_and, and_true, and_self, decide_eq_true_eq, Nat.zero_lt_succ, Nat.lt_add_left_iff_pos, beq_self_eq_true, String.reduceBEq, String.reduceEq, Nat.le_refl, Nat.zero_le, Bool.true_eq_false, decide_true, decide_false, Int.reduceEq, Int.reduceLT, Int.reduceLE, Int.reduceSub, Int.reduceAdd, DL.wIfT, DL.wListRg, DL.eSortT, DL.eAddS, DL.eInS, DL.eLenS, DL.wSlS, DL.wI2, DL.evd_mx, DL.evd_mn, DL.evd_gcd, DL.wIStr, DL.wIEnumS, DL.wFun, DL.wWord, DL.wWordV, DL.wCallX, DL.wRaise, DL.wWordG, DL.wWordVG, DL.wRaiseI, DL.eJnL, DL.eJnT, DL.wJoin, DL.eStrI, DL.eIntS, DL.strsD_map, stC_len]
  refine ⟨xl, ?_⟩
  cases s with
  | nil =>
    rw [rf_nil] at hG
    dsimp only [Gv] at hG
    rw [List.length_nil] at hls
    rw [hls] at hG
    rw [if_pos (by omega)]
    exact ⟨_, rfl, hG⟩
  | cons c s =>
    have hc : x[i]? = some c := by rw [← head_at hd]; rfl
    have hc128 := hx.cd c (List.mem_of_getElem? hc)
    have hl1 := len_drop (show x.drop i = [c] ++ s from hd) hx.le
    rw [show ([c] : List Nat).length = 1 from rfl] at hl1
    have hd1 : x.drop (i + 1) = s := by rw [← List.drop_drop, hd]; rfl
    have okc := one1 hc128
    rw [if_neg (by omega), at_atI hc]
    rw [rf_cons] at hG
    refine ⟨xl, ?_⟩
    simp only [ecs1]
    simp -implicitDefEqProofs only [DL.WW, List.isEmpty_nil, List.lookup_cons, List.lookup_nil, List.map, List.length, List.length_cons, List.length_nil, List.length_set, List.replicate, List.append, List.cons_append, List.nil_append, List.append_nil, List.getElem?_cons_zero, List.getElem?_cons_succ, List.getElem?_nil, List.set_cons_zero, List.set_cons_succ, ↓reduceIte, Bool.false_eq_true, Bool.not_true, Bool.not_false, Bool.true_and, Bool.false_and, Bool.and_true, Bool.and_false, Bool.or_true, Bool.or_false, Bool.true_or, Bool.false_or, Nat.reduceAdd, Nat.reduceSub, Nat.reduceLT, Nat.reduceLeDiff, true_and, and_true, and_self, decide_eq_true_eq, Nat.zero_lt_succ, Nat.lt_add_left_iff_pos, beq_self_eq_true, String.reduceBEq, String.reduceEq, Nat.le_refl, Nat.zero_le, Bool.true_eq_false, decide_true, decide_false, Int.reduceEq, Int.reduceLT, Int.reduceLE, Int.reduceSub, Int.reduceAdd, DL.wIfT, DL.wListRg, DL.eSortT, DL.eAddS, DL.eInS, DL.eLenS, DL.wSlS, DL.wI2, DL.evd_mx, DL.evd_mn, DL.evd_gcd, DL.wIStr, DL.wIEnumS, DL.wFun, DL.wWord, DL.wWordV, DL.wCallX, DL.wRaise, DL.wWordG, DL.wWordVG, DL.wRaiseI, DL.eJnL, DL.eJnT, DL.wJoin, DL.eStrI, DL.eIntS, DL.strsD_map, sm, ss, su, sv, sb, s1, s2, stE, okc, dZ, dS, dU, dD, dUS, dDS]
    refine ⟨one1 (by decide), ?_⟩
    by_cases c45 : c = 45
    · rw [if_pos c45]
      rw [if_pos (.inl c45)] at hG
      refine ⟨x, c :: s, i, rfl, hx, hd, by simp, ?_⟩
      generalize number (c :: s) = z at hG ⊢
      cases z with
      | out => exact hG.elim
      | err n => exact hG
      | ok g r =>
        dsimp only [Gv]
        simp -implicitDefEqProofs only [DL.WW, List.isEmpty_nil, List.lookup_cons, List.lookup_nil, List.map, List.length, List.length_cons, List.length_nil, List.length_set, List.replicate, List.append, List.cons_append, List.nil_append, List.append_nil, List.getElem?_cons_zero, List.getElem?_cons_succ, List.getElem?_nil, List.set_cons_zero, List.set_cons_succ, ↓reduceIte, Bool.false_eq_true, Bool.not_true, Bool.not_false, Bool.true_and, Bool.false_and, Bool.and_true, Bool.and_false, Bool.or_true, Bool.or_false, Bool.true_or, Bool.false_or, Nat.reduceAdd, Nat.reduceSub, Nat.reduceLT, Nat.reduceLeDiff, true_and, and_true, and_self, decide_eq_true_eq, Nat.zero_lt_succ, Nat.lt_add_left_iff_pos, beq_self_eq_true, String.reduceBEq, String.reduceEq, Nat.le_refl, Nat.zero_le, Bool.true_eq_false, decide_true, decide_false, Int.reduceEq, Int.reduceLT, Int.reduceLE, Int.reduceSub, Int.reduceAdd, DL.wIfT, DL.wListRg, DL.eSortT, DL.eAddS, DL.eInS, DL.eLenS, DL.wSlS, DL.wI2, DL.evd_mx, DL.evd_mn, DL.evd_gcd, DL.wIStr, DL.wIEnumS, DL.wFun, DL.wWord, DL.wWordV, DL.wCallX, DL.wRaise, DL.wWordG, DL.wWordVG, DL.wRaiseI, DL.eJnL, DL.eJnT, DL.wJoin, DL.eStrI, DL.eIntS, DL.strsD_map]
        exact hG
    rw [if_neg c45]
    refine ⟨c, rfl, ?_⟩
    by_cases cdg : Dg c
    · rw [if_pos (of_decide_eq_true (dg_in cdg))]
      rw [if_pos (.inr ((dgB_iff c).mpr cdg))] at hG
      refine ⟨x, c :: s, i, rfl, hx, hd, by simp, ?_⟩
      generalize number (c :: s) = z at hG ⊢
      cases z with
      | out => exact hG.elim
      | err n => exact hG
      | ok g r =>
        dsimp only [Gv]
        simp -implicitDefEqProofs only [DL.WW, List.isEmpty_nil, List.lookup_cons, List.lookup_nil, List.map, List.length, List.length_cons, List.length_nil, List.length_set, List.replicate, List.append, List.cons_append, List.nil_append, List.append_nil, List.getElem?_cons_zero, List.getElem?_cons_succ, List.getElem?_nil, List.set_cons_zero, List.set_cons_succ, ↓reduceIte, Bool.false_eq_true, Bool.not_true, Bool.not_false, Bool.true_and, Bool.false_and, Bool.and_true, Bool.and_false, Bool.or_true, Bool.or_false, Bool.true_or, Bool.false_or, Nat.reduceAdd, Nat.reduceSub, Nat.reduceLT, Nat.reduceLeDiff, true_and, and_true, and_self, decide_eq_true_eq, Nat.zero_lt_succ, Nat.lt_add_left_iff_pos, beq_self_eq_true, String.reduceBEq, String.reduceEq, Nat.le_refl, Nat.zero_le, Bool.true_eq_false, decide_true, decide_false, Int.reduceEq, Int.reduceLT, Int.reduceLE, Int.reduceSub, Int.reduceAdd, DL.wIfT, DL.wListRg, DL.eSortT, DL.eAddS, DL.eInS, DL.eLenS, DL.wSlS, DL.wI2, DL.evd_mx, DL.evd_mn, DL.evd_gcd, DL.wIStr, DL.wIEnumS, DL.wFun, DL.wWord, DL.wWordV, DL.wCallX, DL.wRaise, DL.wWordG, DL.wWordVG, DL.wRaiseI, DL.eJnL, DL.eJnT, DL.wJoin, DL.eStrI, DL.eIntS, DL.strsD_map]
        exact hG
    rw [if_neg (of_decide_eq_false (dg_out cdg))]
    rw [if_neg (fun h => h.elim c45 fun h => cdg ((dgB_iff c).mp h))] at hG
    refine ⟨one1 (by decide), ?_⟩
    by_cases c42 : c = 42
    · subst c42
      rw [if_pos rfl]
      rw [if_pos rfl] at hG
      refine ⟨x, s, i, rfl, hx, hd, ?_⟩
      generalize starR (42 :: s) = z at hG ⊢
      cases z with
      | out => exact hG.elim
      | err n => exact hG
      | ok g r =>
        dsimp only [Gv]
        simp -implicitDefEqProofs only [DL.WW, List.isEmpty_nil, List.lookup_cons, List.lookup_nil, List.map, List.length, List.length_cons, List.length_nil, List.length_set, List.replicate, List.append, List.cons_append, List.nil_append, List.append_nil, List.getElem?_cons_zero, List.getElem?_cons_succ, List.getElem?_nil, List.set_cons_zero, List.set_cons_succ, ↓reduceIte, Bool.false_eq_true, Bool.not_true, Bool.not_false, Bool.true_and, Bool.false_and, Bool.and_true, Bool.and_false, Bool.or_true, Bool.or_false, Bool.true_or, Bool.false_or, Nat.reduceAdd, Nat.reduceSub, Nat.reduceLT, Nat.reduceLeDiff, true_and, and_true, and_self, decide_eq_true_eq, Nat.zero_lt_succ, Nat.lt_add_left_iff_pos, beq_self_eq_true, String.reduceBEq, String.reduceEq, Nat.le_refl, Nat.zero_le, Bool.true_eq_false, decide_true, decide_false, Int.reduceEq, Int.reduceLT, Int.reduceLE, Int.reduceSub, Int.reduceAdd, DL.wIfT, DL.wListRg, DL.eSortT, DL.eAddS, DL.eInS, DL.eLenS, DL.wSlS, DL.wI2, DL.evd_mx, DL.evd_mn, DL.evd_gcd, DL.wIStr, DL.wIEnumS, DL.wFun, DL.wWord, DL.wWordV, DL.wCallX, DL.wRaise, DL.wWordG, DL.wWordVG, DL.wRaiseI, DL.eJnL, DL.eJnT, DL.wJoin, DL.eStrI, DL.eIntS, DL.strsD_map]
        exact hG
    rw [if_neg c42]
    rw [if_neg c42] at hG
    refine ⟨rfl, ?_⟩
    have hin : inV (V.str (stC [c])) [V.str (stC [94]), V.str (stC [118])] = decide (c = 94 ∨ c = 118) := by
      have e : ∀ y, eqV (V.str (stC [y])) (V.str (stC [c])) = decide (c = y) := fun y => by
        show (stC [y] == stC [c]) = _
        rw [Bool.eq_iff_iff, decide_eq_true_eq, beq_iff_eq, stE]
        exact ⟨fun h => h.symm, fun h => h.symm⟩
      unfold inV
      simp only [List.any_cons, List.any_nil, e, Bool.or_false]
      rw [Bool.eq_iff_iff]
      simp only [Bool.or_eq_true, decide_eq_true_eq]
    have ei : (i : Int) + 1 = ((i + 1 : Nat) : Int) := by omega
    have e2 : (i : Int) + 2 = ((i + 2 : Nat) : Int) := by omega
    have hin2 : inV (dV (PyData.str (stC [c]))) [dV (PyData.str (stC [94])), dV (PyData.str (stC [118]))] = decide (c = 94 ∨ c = 118) := hin
    rw [hin2]
    by_cases cud : c = 94 ∨ c = 118
    · rw [if_pos (decide_eq_true cud)]
      rw [if_pos cud] at hG
      rw [ei, e2]
      have ends : ∀ (g1 g2 : G) (j : Nat) (r : List Nat), x.length - r.length = j → Gv x [none, none] gD T.C_InvalidText P R (.ok (if c = 94 then g1 else g2) r) → PyData.strOk (stC [94]) = true ∧ if c = 94 then P (Vl.dat (PyData.tuple [gD g1, PyData.int ((j : Nat) : Int)])) [none, none] else P (Vl.dat (PyData.tuple [gD g2, PyData.int ((j : Nat) : Int)])) [none, none] := fun g1 g2 j r hj h => by
        dsimp only [Gv] at h
        rw [hj] at h
        refine ⟨one1 (by decide), ?_⟩
        split at h <;> (rename_i h9; simp only [h9, if_true, if_false]; exact h)
      refine ⟨xl, ?_⟩
      split
      · rename_i hlt
        obtain ⟨y, hy⟩ : ∃ y, x[i + 1]? = some y := ⟨_, List.getElem?_eq_getElem (by omega)⟩
        have hy2 : s.head? = some y := by rw [head_at hd1]; exact hy
        rw [at_atI hy]
        rw [hy2] at hG
        refine ⟨xl, ?_⟩
        show _ ∧ _
        refine ⟨one1 (hx.cd y (List.mem_of_getElem? hy)), one1 (by decide), ?_⟩
        by_cases y42 : y = 42
        · rw [if_pos y42]
          rw [if_pos (by rw [y42])] at hG
          refine ends _ _ _ (s.drop 1) ?_ hG
          have : 0 < s.length := by cases s with
            | nil => cases hy2
            | cons a s => simp
          rw [List.length_drop]
          omega
        · rw [if_neg y42]
          rw [if_neg (fun h => y42 (Option.some.inj h))] at hG
          exact ends _ _ _ s (by omega) hG
      · rename_i hlt
        have hs0 : s = [] := List.length_eq_zero_iff.mp (by omega)
        subst hs0
        rw [if_neg (by simp)] at hG
        exact ends _ _ _ [] (by rw [List.length_nil] at hl1 ⊢; omega) hG
    rw [if_neg (fun h => cud (of_decide_eq_true h))]
    rw [if_neg cud] at hG
    refine ⟨one1 (by decide), ?_⟩
    by_cases c123 : c = 123
    · rw [if_neg (fun h => h c123)] at hG
      rw [if_neg (by rw [decide_eq_true c123]; decide)]
      cases d with
      | zero => exact hG.elim
      | succ d =>
        dsimp only at hG
        unfold brace at hG
        rw [ei, hS T d rfl]
        refine ⟨x, s, i + 1, 124, rfl, ⟨hx5, hx.cd, by omega⟩, .inl rfl, hd1, ?_⟩
        generalize hw : side (rf d) 124 s = z at hG ⊢
        cases z with
        | out => exact hG.elim
        | err n => exact hG
        | ok l r =>
          have k1 := side_suf (rf_suf d) hw
          have hdr := suf_drop hd1 k1.1
          dsimp only [Gv]
          dsimp only at hG
          simp -implicitDefEqProofs only [DL.WW, List.isEmpty_nil, List.lookup_cons, List.lookup_nil, List.map, List.length, List.length_cons, List.length_nil, List.length_set, List.replicate, List.append, List.cons_append, List.nil_append, List.append_nil, List.getElem?_cons_zero, List.getElem?_cons_succ, List.getElem?_nil, List.set_cons_zero, List.set_cons_succ, ↓reduceIte, Bool.false_eq_true, Bool.not_true, Bool.not_false, Bool.true_and, Bool.false_and, Bool.and_true, Bool.and_false, Bool.or_true, Bool.or_false, Bool.true_or, Bool.false_or, Nat.reduceAdd, Nat.reduceSub, Nat.reduceLT, Nat.reduceLeDiff, true_and, and_true, and_self, decide_eq_true_eq, Nat.zero_lt_succ, Nat.lt_add_left_iff_pos, beq_self_eq_true, String.reduceBEq, String.reduceEq, Nat.le_refl, Nat.zero_le, Bool.true_eq_false, decide_true, decide_false, Int.reduceEq, Int.reduceLT, Int.reduceLE, Int.reduceSub, Int.reduceAdd, DL.wIfT, DL.wListRg, DL.eSortT, DL.eAddS, DL.eInS, DL.eLenS, DL.wSlS, DL.wI2, DL.evd_mx, DL.evd_mn, DL.evd_gcd, DL.wIStr, DL.wIEnumS, DL.wFun, DL.wWord, DL.wWordV, DL.wCallX, DL.wRaise, DL.wWordG, DL.wWordVG, DL.wRaiseI, DL.eJnL, DL.eJnT, DL.wJoin, DL.eStrI, DL.eIntS, DL.strsD_map]
          refine ⟨x, r, _, 125, rfl, ⟨hx5, hx.cd, by omega⟩, .inr rfl, hdr, ?_⟩
          generalize side (rf d) 125 r = z2 at hG ⊢
          cases z2 with
          | out => exact hG.elim
          | err n => exact hG
          | ok l2 r2 =>
            dsimp only [Gv]
            simp -implicitDefEqProofs only [DL.WW, List.isEmpty_nil, List.lookup_cons, List.lookup_nil, List.map, List.length, List.length_cons, List.length_nil, List.length_set, List.replicate, List.append, List.cons_append, List.nil_append, List.append_nil, List.getElem?_cons_zero, List.getElem?_cons_succ, List.getElem?_nil, List.set_cons_zero, List.set_cons_succ, ↓reduceIte, Bool.false_eq_true, Bool.not_true, Bool.not_false, Bool.true_and, Bool.false_and, Bool.and_true, Bool.and_false, Bool.or_true, Bool.or_false, Bool.true_or, Bool.false_or, Nat.reduceAdd, Nat.reduceSub, Nat.reduceLT, Nat.reduceLeDiff, true_and, and_true, and_self, decide_eq_true_eq, Nat.zero_lt_succ, Nat.lt_add_left_iff_pos, beq_self_eq_true, String.reduceBEq, String.reduceEq, Nat.le_refl, Nat.zero_le, Bool.true_eq_false, decide_true, decide_false, Int.reduceEq, Int.reduceLT, Int.reduceLE, Int.reduceSub, Int.reduceAdd, DL.wIfT, DL.wListRg, DL.eSortT, DL.eAddS, DL.eInS, DL.eLenS, DL.wSlS, DL.wI2, DL.evd_mx, DL.evd_mn, DL.evd_gcd, DL.wIStr, DL.wIEnumS, DL.wFun, DL.wWord, DL.wWordV, DL.wCallX, DL.wRaise, DL.wWordG, DL.wWordVG, DL.wRaiseI, DL.eJnL, DL.eJnT, DL.wJoin, DL.eStrI, DL.eIntS, DL.strsD_map]
            dsimp only [Gv] at hG
            rw [gD_mk] at hG
            exact hG
    · rw [if_pos c123] at hG
      rw [if_pos (by rw [decide_eq_false c123]; rfl)]
      dsimp only [Gv] at hG
      have : x.length - (s.length + 1) = i := by omega
      rw [this] at hG
      exact ⟨_, rfl, hG⟩
end
end
end K07D


set_option Elab.async false
set_option linter.all false
set_option maxRecDepth 100000
set_option maxHeartbeats 4000000
namespace K07D
open PySem L2 TG DL K07 SK TXG
section
variable {P : Program} {w : World} {K : PySem.W.Frag} {mg : Str → Option Value} {base : Heap}
def pre (gs : List G) : TXG.R (List G) → TXG.R (List G)
  | .out => .out
  | .err n => .err n
  | .ok l r => .ok (gs ++ l) r
theorem side_start {x s : List Nat} {i l : Nat} (hx : XOk x i) (hd : x.drop i = s) (hl : PyData.strOk (stC [l]) = true) {A Z : Prop} (hA : s.head? = some l → A) (hZ : ¬ s.head? = some l → Z) :
    if ((i : Nat) : Int) < ((x.length : Nat) : Int) then x.length ≤ sizeLine ∧ ob1 (atI (stC x).cps.toList ((i : Nat) : Int)) (fun c => PyData.strOk { cps := #[c] } = true ∧ PyData.strOk (stC [l]) = true ∧ if ({ cps := #[c] } : Str) = stC [l] then A else Z) else Z := by
  have hx5 := hx.len
  split
  · obtain ⟨y, hy⟩ : ∃ y, x[i]? = some y := ⟨_, List.getElem?_eq_getElem (by omega)⟩
    have hy2 : s.head? = some y := by rw [head_at hd]; exact hy
    rw [at_atI hy, ob1_some]
    refine ⟨Nat.le_trans hx5 (by decide), one1 (hx.cd y (List.mem_of_getElem? hy)), hl, ?_⟩
    split
    · rename_i h
      rw [ecs1, stE] at h
      exact hA (by rw [hy2, h])
    · rename_i h
      rw [ecs1, stE] at h
      exact hZ (by rw [hy2]; exact fun h2 => h (Option.some.inj h2))
  · rename_i hlt
    refine hZ fun h => ?_
    have : s = [] := by rw [← hd, List.drop_eq_nil_iff]; omega
    rw [this] at h
    cases h
section
variable {d : Nat} {T0 : Txt K mg} {FX_read_from : Txt K mg → FXp} (hR : ∀ T, FX_read_from T = FX_rf d T)
include hR
theorem okX_read_side {k : Nat} (T : Txt K mg) (GX_read_from : FnOk P w K mg base (L2.CX P w) (k + 1) T.a_read_from T.d_read_from ["text", "at"] (spX K (FX_read_from T))) (I_InvalidText___init__ : FnOk P w K mg base (L2.CX P w) k T.a_InvalidText___init__ T.d_InvalidText___init__ ["self", "place"] (LamY.spKeep K "place")) : FnOk P w K mg base (L2.CX P w) (k + 2) T.a_read_side T.d_read_side ["text", "at", "last"] (spX K (FX_rs d T)) := by
  refine (fun (hA : ∀ args P R, (FX_rs d T) args P R → args.length = 3) => T.F_read_side.okE (sp := spX K (FX_rs d T)) sc_read_side (fun vs H Q E h => spX_len hA h) (fun cdv A outer s H vs Q E hr h => ⟨_, (pss_cons (ps_set (i := 3) sc_read_side.nd rfl (Or.inl rfl) (pe_lst pa_nil))
  (pss_cons (ps_if (PW.pt (pw_and (pt_cmpR op_lt (pv 1) (pe_callB call_len_str rfl T.m_len PySem.boot_len (pa_cons (pv 0) pa_nil)) (nomark _)) (pw_and1 (pt_cmpR (op_eqDK (K := K) rfl hr.units) (pe_ix ix_str (pv 0) (pv 1) (fun _ _ => rfl)) (pv 2) (nomark _)))))
  (pss_one (ps_ret (pe_tup (pa_cons (pe_tup pa_nil) (pa_cons (pe_op op_add (pv 1) pe_int) pa_nil)))))
  pss_nil)
  (pss_one (ps_while (passes_of rfl) (pt_val pe_bl)
  (pss_cons (ps_asg (pe_call GX_read_from hr rfl T.g_read_from T.F_read_from.kp T.b_read_from .nil (passes_call (takes_of rfl rfl rfl rfl) (fun _ _ _ _ h => h)) (pa_cons (pv 0) (pa_cons (pv 1) pa_nil))) (pg_tupK (K := K) (n := 2) rfl rfl (pgs_cons (pg_name (i := 4) sc_read_side.nd rfl (Or.inl rfl)) (pgs_cons (pg_name (i := 1) sc_read_side.nd rfl (Or.inl rfl)) pgs_nil))))
  (pss_cons (ps_expr (pe_bmK (K := K) rfl PySem.F.plainAttrs_list PySem.F.slot_list_append PySem.F.type_list_append mt_append (pv 3) (pa_cons (pv 4) pa_nil)))
  (pss_cons (ps_if (PW.pt (pw_and (pt_cmpR op_lt (pv 1) (pe_callB call_len_str rfl T.m_len PySem.boot_len (pa_cons (pv 0) pa_nil)) (nomark _)) (pw_and1 (pt_cmpR (op_eqDK (K := K) rfl hr.units) (pe_ix ix_str (pv 0) (pv 1) (fun _ _ => rfl)) (pv 2) (nomark _)))))
  (pss_one (ps_ret (pe_tup (pa_cons (pe_callTy (call_tuple_ofK (K := K) rfl) rfl T.m_tuple (by decide +kernel) (pa_cons (pv 3) pa_nil)) (pa_cons (pe_op op_add (pv 1) pe_int) pa_nil)))))
  pss_nil)
  (pss_cons (ps_if (PW.pt (pw_or (pt_cmpR (op_eqDK (K := K) rfl hr.units) (pv 1) (pe_callB call_len_str rfl T.m_len PySem.boot_len (pa_cons (pv 0) pa_nil)) (nomark _)) (pw_or1 (pt_cmpR (op_neDK (K := K) rfl hr.units) (pe_ix ix_str (pv 0) (pv 1) (fun _ _ => rfl)) pe_str (nomark _)))))
  (pss_one (ps_raise rfl (takes_of rfl rfl rfl rfl) (pmk_oex T.ox_InvalidText.ok T.ic_InvalidText T.ti_InvalidText (I_InvalidText___init__) (hr.mono (Nat.le_refl _)) T.b_InvalidText___init__ .nil (passes_call (takes_of rfl rfl rfl rfl) (fun _ _ _ _ h => h.elim)) rfl T.gx_InvalidText (pa_cons (pv 1) pa_nil))))
  pss_nil)
  (pss_one (ps_aug (i := 1) sc_read_side.nd rfl (Or.inl rfl) pe_int ip_add)))))))))), fnX_run (N := ["text", "at", "last", "found", "game"]) h (fun A' Hz' R' hE => (ss_seq (ss_asg (se_lst sa_nil) sg_name)
  (ss_seq (ss_if (st_and (st_test (se_op (sr_I0 (fun _ _ => rfl)) se_var (se_cb1 sc_lenS se_var))) (st_test (se_op sr_eqD (se_op sr_ixS se_var se_var) se_var)))
  (ss_ret (se_tup (sa_cons (se_tup sa_nil) (sa_cons (se_op (sr_I0 (fun _ _ => rfl)) se_var se_int) sa_nil))))
  ss_next)
  (ss_while (st_B se_bl)
  (ss_seq (ss_asg (se_callX hE (sa_cons se_var (sa_cons se_var sa_nil))) (sg_tup (sgs_cons sg_name (sgs_cons sg_name sgs_nil))))
  (ss_seq (ss_drop (se_app se_var))
  (ss_seq (ss_if (st_and (st_test (se_op (sr_I0 (fun _ _ => rfl)) se_var (se_cb1 sc_lenS se_var))) (st_test (se_op sr_eqD (se_op sr_ixS se_var se_var) se_var)))
  (ss_ret (se_tup (sa_cons (se_cb1 sc_tupOf se_var) (sa_cons (se_op (sr_I0 (fun _ _ => rfl)) se_var se_int) sa_nil))))
  ss_next)
  (ss_seq (ss_if (st_or (st_test (se_op sr_eqD se_var (se_cb1 sc_lenS se_var))) (st_test (se_op sr_neD (se_op sr_ixS se_var se_var) se_str)))
  (ss_raiseI (x := "place") T.ox_InvalidText.ok T.no_InvalidText hE (sa_cons se_var sa_nil))
  ss_next)
  (ss_augI se_int))))))))) (fun args P R hl hF => ?_) (by rw [spX_len hA h]; exact Nat.le_of_ble_eq_true rfl)⟩)) (fun args P R hF => ?_)
  rotate_left
  · obtain ⟨x, s, i, l, rfl, _⟩ := hF
    rfl
  obtain ⟨x, s, i, l, rfl, hx, hl2, hd, hG⟩ := hF
  have hx5 := hx.len
  have xl : x.length ≤ sizeLine := Nat.le_trans hx5 (by decide)
  have hls := dr_len hx.le hd
  have sc : Str.ofString "," = stC [44] := by decide +kernel
  have okl : PyData.strOk (stC [l]) = true := one1 (by omega)
  have hsl : s.length = x.length - i := by rw [← hd, List.length_drop]
  have hxi := hx.le
  unfold side at hG
  simp -implicitDefEqProofs only [DL.WW, List.isEmpty_nil, List.lookup_cons, List.lookup_nil, List.map, List.length, List.length_cons, List.length_nil, List.length_set, List.replicate, List.append, List.cons_append, List.nil_append, List.append_nil, List.getElem?_cons_zero, List.getElem?_cons_succ, List.getElem?_nil, List.set_cons_zero, List.set_cons_succ, ↓reduceIte, Bool.false_eq_true, Bool.not_true, Bool.not_false, Bool.true_and, Bool.false_and, Bool.and_true, Bool.and_false, Bool.or_true, Bool.or_false, Bool.true_or, Bool.false_or, Nat.reduceAdd, Nat.reduceSub, Nat.reduceLT, Nat.reduceLeDiff, true_and, and_true, and_self, decide_eq_true_eq, Nat.zero_lt_succ, Nat.lt_add_left_iff_pos, beq_self_eq_true, String.reduceBEq, String.reduceEq, Nat.le_refl, Nat.zero_le, Bool.true_eq_false, decide_true, decide_false, Int.reduceEq, Int.reduceLT, Int.reduceLE, Int.reduceSub, Int.reduceAdd, DL.wIfT, DL.wListRg, DL.eSortT, DL.eAddS, DL.eInS, DL.eLenS, DL.wSlS, DL.wI2, DL.evd_mx, DL.evd_mn, DL.evd_gcd, DL.wIStr, DL.wIEnumS, DL.wFun, DL.wWord, DL.wWordV, DL.wCallX, DL.wRaise, DL.wWordG, DL.wWordVG, DL.wRaiseI, DL.eJnL, DL.eJnT, DL.wJoin, DL.eStrI, DL.eIntS, DL.strsD_map, stC_len]
  refine ⟨xl, ?_⟩
  refine side_start hx hd okl (fun h => ?_) (fun h => ?_)
  · rw [if_pos h] at hG
    dsimp only [Gv] at hG
    have : x.length - (s.drop 1).length = i + 1 := by
      have : 0 < s.length := by cases s with
        | nil => cases h
        | cons a s => simp
      rw [List.length_drop]
      omega
    rw [this] at hG
    exact hG
  rw [if_neg h] at hG
  refine ⟨fun k e => ∃ (j : Nat) (s' : List Nat) (gs : List G) (z4 : Option B), x.drop j = s' ∧ j ≤ x.length ∧ gs.length + s'.length ≤ s.length ∧ Gv x [none, none, none] (fun gs => .tuple (gs.map gD)) T.C_InvalidText P R (pre gs (items (rf d) l k s')) ∧
      e = [some (.dat (.str (stC x))), some (.dat (.int j)), some (.dat (.str (stC [l]))), some (.ob none (.lst (gs.map gD))), z4], ⟨s.length + 1, i, s, [], none, hd, hxi, by simp, ?_, rfl⟩, ?_⟩
  · generalize items (rf d) l (s.length + 1) s = z at hG ⊢
    cases z <;> exact hG
  clear hG h
  rintro k e ⟨j, s', gs, z4, hdj, hj, hlen, hG, rfl⟩
  cases k with
  | zero => exact hG.elim
  | succ k =>
    simp -implicitDefEqProofs only [DL.WW, List.isEmpty_nil, List.lookup_cons, List.lookup_nil, List.map, List.length, List.length_cons, List.length_nil, List.length_set, List.replicate, List.append, List.cons_append, List.nil_append, List.append_nil, List.getElem?_cons_zero, List.getElem?_cons_succ, List.getElem?_nil, List.set_cons_zero, List.set_cons_succ, ↓reduceIte, Bool.false_eq_true, Bool.not_true, Bool.not_false, Bool.true_and, Bool.false_and, Bool.and_true, Bool.and_false, Bool.or_true, Bool.or_false, Bool.true_or, Bool.false_or, Nat.reduceAdd, Nat.reduceSub, Nat.reduceLT, Nat.reduceLeDiff, true_and, and_true, and_self, decide_eq_true_eq, Nat.zero_lt_succ, Nat.lt_add_left_iff_pos, beq_self_eq_true, String.reduceBEq, String.reduceEq, Nat.le_refl, Nat.zero_le, Bool.true_eq_false, decide_true, decide_false, Int.reduceEq, Int.reduceLT, Int.reduceLE, Int.reduceSub, Int.reduceAdd, DL.wIfT, DL.wListRg, DL.eSortT, DL.eAddS, DL.eInS, DL.eLenS, DL.wSlS, DL.wI2, DL.evd_mx, DL.evd_mn, DL.evd_gcd, DL.wIStr, DL.wIEnumS, DL.wFun, DL.wWord, DL.wWordV, DL.wCallX, DL.wRaise, DL.wWordG, DL.wWordVG, DL.wRaiseI, DL.eJnL, DL.eJnT, DL.wJoin, DL.eStrI, DL.eIntS, DL.strsD_map]
    rw [hR T]
    refine ⟨x, s', j, rfl, ⟨hx5, hx.cd, hj⟩, hdj, ?_⟩
    rw [items] at hG
    generalize hw : rf d s' = z at hG ⊢
    cases z with
    | out => exact hG.elim
    | err n => exact hG
    | ok g r =>
      have k1 := rf_suf d _ _ _ hw
      have hdr := suf_drop hdj k1.1
      have hrx : r.length < x.length := by have := k1.2; rw [← hdj, List.length_drop] at this; omega
      have hgl : (gs.map gD).length ≤ 50000 := by rw [List.length_map]; omega
      dsimp only [Gv]
      dsimp only at hG
      simp -implicitDefEqProofs only [DL.WW, List.isEmpty_nil, List.lookup_cons, List.lookup_nil, List.map, List.length, List.length_cons, List.length_nil, List.length_set, List.replicate, List.append, List.cons_append, List.nil_append, List.append_nil, List.getElem?_cons_zero, List.getElem?_cons_succ, List.getElem?_nil, List.set_cons_zero, List.set_cons_succ, ↓reduceIte, Bool.false_eq_true, Bool.not_true, Bool.not_false, Bool.true_and, Bool.false_and, Bool.and_true, Bool.and_false, Bool.or_true, Bool.or_false, Bool.true_or, Bool.false_or, Nat.reduceAdd, Nat.reduceSub, Nat.reduceLT, Nat.reduceLeDiff, true_and, and_true, and_self, decide_eq_true_eq, Nat.zero_lt_succ, Nat.lt_add_left_iff_pos, beq_self_eq_true, String.reduceBEq, String.reduceEq, Nat.le_refl, Nat.zero_le, Bool.true_eq_false, decide_true, decide_false, Int.reduceEq, Int.reduceLT, Int.reduceLE, Int.reduceSub, Int.reduceAdd, DL.wIfT, DL.wListRg, DL.eSortT, DL.eAddS, DL.eInS, DL.eLenS, DL.wSlS, DL.wI2, DL.evd_mx, DL.evd_mn, DL.evd_gcd, DL.wIStr, DL.wIEnumS, DL.wFun, DL.wWord, DL.wWordV, DL.wCallX, DL.wRaise, DL.wWordG, DL.wWordVG, DL.wRaiseI, DL.eJnL, DL.eJnT, DL.wJoin, DL.eStrI, DL.eIntS, DL.strsD_map, stC_len]
      refine ⟨by omega, xl, ?_⟩
      refine side_start ⟨hx5, hx.cd, by omega⟩ hdr okl (fun h => ?_) (fun h => ?_)
      · cases r with
        | nil => cases h
        | cons c r' =>
          cases h
          dsimp only at hG
          rw [if_pos rfl] at hG
          dsimp only [pre, Gv] at hG
          have e1 : ((x.length - (l :: r').length : Nat) : Int) + 1 = ((x.length - r'.length : Nat) : Int) := by rw [List.length_cons] at hrx ⊢; omega
          rw [e1]
          rw [List.map_append] at hG
          exact hG
      · refine ⟨xl, ?_⟩
        cases r with
        | nil =>
          rw [if_pos (by simp)]
          exact ⟨_, rfl, hG⟩
        | cons c r' =>
          have hcl : ¬ c = l := fun e => h (by rw [e]; rfl)
          have hat : x[x.length - (c :: r').length]? = some c := by rw [← head_at hdr]; rfl
          have hc128 := hx.cd c (List.mem_of_getElem? hat)
          rw [List.length_cons] at hrx hat ⊢
          rw [if_neg (by omega), at_atI hat, ob1_some]
          refine ⟨xl, one1 hc128, by rw [sc]; exact one1 (by decide), ?_⟩
          dsimp only at hG
          rw [if_neg hcl] at hG
          by_cases c44 : c = 44
          · subst c44
            rw [if_pos rfl] at hG
            rw [if_neg (by rw [sc, ecs1]; simp)]
            have hdr' : x.drop (x.length - (r'.length + 1) + 1) = r' := by
              rw [List.length_cons] at hdr
              rw [← List.drop_drop, hdr]
              rfl
            have e1 : ((x.length - (r'.length + 1) : Nat) : Int) + 1 = ((x.length - (r'.length + 1) + 1 : Nat) : Int) := by omega
            have hlt := k1.2
            rw [List.length_cons] at hlt
            refine ⟨k, by omega, x.length - (r'.length + 1) + 1, r', gs ++ [g], _, hdr', by omega, by rw [List.length_append, List.length_singleton]; omega, ?_, by rw [e1, List.map_append]; rfl⟩
            generalize items (rf d) l k r' = z at hG ⊢
            cases z with
            | out => exact hG.elim
            | err n => exact hG
            | ok gs2 r2 =>
              dsimp only [pre, Gv] at hG ⊢
              rw [List.append_assoc]
              exact hG
          · rw [if_neg c44] at hG
            rw [if_pos (by rw [sc, ecs1, decide_eq_false (by rw [stE]; exact c44)]; rfl)]
            exact ⟨_, rfl, hG⟩
end
end
end K07D


set_option Elab.async false
set_option linter.all false
set_option maxRecDepth 100000
set_option maxHeartbeats 4000000
namespace TG
open PySem PySem.Spec PyProof.Rows L2
def rNeN (K : PySem.W.Frag) : R2 := fun x y H Q => ∃ a b vs, x = .ref a ∧ y = .ref b ∧ SqL K H a vs ∧ SqL K H b [] ∧ Q (.bl (!vs.isEmpty)) H
theorem op_neN {X : Cx} (hu : X.A.units + 64 < cLine) : OpR X (compareOp .NotEq) (rNeN X.K) := by
  intro pins s σ H x y v u Q I rx ry h
  obtain ⟨a, b, vs, rfl, rfl, ha, hb, q⟩ := h
  cases rx
  cases ry
  obtain ⟨us, r1, l1, _⟩ := I.list ha
  obtain ⟨ws, r2, l2, _⟩ := I.list hb
  have n1 := r1.length
  have n2 := r2.length
  have hQ : EP X pins σ Q (.bool (!vs.isEmpty)) s := ⟨.bl _, H, I, rfl, q⟩
  cases vs with
  | nil =>
    have e := SeqAt.RcNeAt.lists (A := X.A) (s := s) (e := fun _ => true) l1.isList l2.isList (by simp at n1 n2 ⊢; omega) (by omega) (fun j h1 h2 => by simp at n1 h1; omega)
    have hz : us.toArray.size = 0 := by simp at n1 ⊢; exact List.eq_nil_of_length_eq_zero n1.symm
    rw [hz] at e
    exact e X.prog X.w X.xe _ hQ
  | cons z zs =>
    have e := SeqAt.RcNeAt.lists_lengths (A := X.A) (s := s) l1.isList l2.isList (by simp at n1 n2 ⊢; omega) (by omega)
    exact e X.prog X.w X.xe _ hQ
theorem op_neNK {X : Cx} {K : PySem.W.Frag} (hK : X.K = K) (hu : X.A.units + 64 < cLine) : OpR X (compareOp .NotEq) (rNeN K) := by subst hK; exact op_neN hu
end TG


set_option Elab.async false
set_option linter.all false
set_option maxRecDepth 100000
set_option maxHeartbeats 4000000
namespace DL
open PySem L2 TG
def gNeN (d1 d2 : PyData) (P : Vl → Prop) : Prop := match d1, d2 with
  | .list ds, .list [] => P (.dat (.bool (!ds.isEmpty)))
  | _, _ => False
theorem eNeN {ds : List PyData} {P : Vl → Prop} : gNeN (.list ds) (.list []) P = P (.dat (.bool (!ds.isEmpty))) := rfl
theorem sr_neN {f : Fr} : SR f (rNeN f.K) gNeN := ⟨fun {L W e σ Hz H x y d1 d2 Post Q} r1 r2 s h k => by
  unfold gNeN at h
  split at h
  · rename_i ds
    obtain ⟨a, xs, rfl, q1, q2⟩ := r1
    obtain ⟨b, ys, rfl, q3, q4⟩ := r2
    cases q4
    refine ⟨a, b, xs, rfl, rfl, q1, q3, ?_⟩
    have e : xs.isEmpty = ds.isEmpty := by
      have := dps_len q2
      cases xs <;> cases ds <;> simp at this ⊢
    rw [e]
    exact k _ _ _ _ h same_refl s (Dp.bl _)
  · exact h.elim⟩
end DL


set_option Elab.async false
set_option linter.all false
set_option maxRecDepth 100000
set_option maxHeartbeats 4000000
namespace K07D
open PySem L2 TG DL K07
namespace GB
inductive NP : PyData → Prop
  | non : NP .none
  | int (n : Int) : NP (.int n)
  | bool (b : Bool) : NP (.bool b)
  | str (s : Str) : NP (.str s)
  | lst (ds : List PyData) : NP (.list ds)
  | dic : NP (.dict [])
  | tup (ds : List PyData) : (∀ d ∈ ds, NP d) → NP (.tuple ds)
theorem NP.ptr {d : PyData} (h : NP d) : isPtr d = false := by cases h <;> rfl
def sideL : PyData → Option (List PyData)
  | .tuple x => if x.length ≤ 2000 then some x else none
  | _ => none
def two : PyData → Option (List PyData × List PyData)
  | .tuple [a, b] => (sideL a).bind fun x => (sideL b).map fun y => (x, y)
  | _ => none
theorem two_len {ds : List PyData} (h : ds.length ≠ 2) : two (.tuple ds) = none := by
  unfold two
  split
  · next e =>
    cases e
    exact absurd rfl h
  · rfl
def gmL : Nat → List (PyData × Nat) → Bool
  | _, [] => true
  | 0, _ :: _ => false
  | 1, _ :: _ => false
  | f + 2, (d, k) :: st => if 40 < k then false else match two d with
    | none => false
    | some (x, y) => gmL (f + 1) ((y.reverse.map fun z => (z, k + 1)) ++ (x.reverse.map fun z => (z, k + 1)) ++ st)
mutual
def szD : PyData → Nat
  | .tuple ds => 1 + szDs ds
  | .none => 1
  | .int _ => 1
  | .bool _ => 1
  | .str _ => 1
  | .list _ => 1
  | .dict _ => 1
def szDs : List PyData → Nat
  | [] => 0
  | d :: ds => szD d + szDs ds
end
theorem szD_pos (d : PyData) : 1 ≤ szD d := by cases d <;> (rw [szD]; omega)
theorem szDs_app : ∀ a b : List PyData, szDs (a ++ b) = szDs a + szDs b
  | [], b => by rw [List.nil_append, szDs]; omega
  | x :: a, b => by rw [List.cons_append, szDs, szDs, szDs_app a b]; omega
theorem szDs_rev : ∀ a : List PyData, szDs a.reverse = szDs a
  | [] => rfl
  | x :: a => by rw [List.reverse_cons, szDs_app, szDs_rev a, szDs, szDs, szDs]; omega
theorem szDs_len : ∀ a : List PyData, a.length ≤ szDs a
  | [] => Nat.le_refl _
  | x :: a => by have := szDs_len a; have := szD_pos x; rw [List.length_cons, szDs]; omega
def gameB (d : PyData) : Bool := gmL 2001 [(d, 0)]
def pD (p : PyData × Nat) : PyData := .tuple [p.1, .int (p.2 : Nat)]
section
variable {P : Program} {w : World} {K : PySem.W.Frag} {mg : Str → Option Value} {base : Heap}
def F_is_game : FSp := fun args P => ∃ d : PyData, args = [some (.dat d)] ∧ NP d ∧ szD d ≤ 90000 ∧ P (.dat (.bool (gameB d))) [none]
theorem ok_is_game {k : Nat} (T : Txt K mg)  : FnOk P w K mg base CX0 (k + 1) T.a_is_game T.d_is_game ["value"] (spD K F_is_game) := by
  refine (fun (hA : ∀ args Pz, F_is_game args Pz → args.length = 1) => T.F_is_game.ok (sp := spD K F_is_game) sc_is_game (fun vs H Q E h => spD_len hA h) (fun cdv A outer s H vs Q E hr h => ⟨_, (pss_cons (ps_par (i := 1) (j := 2) rfl sc_is_game.nd rfl rfl (by decide) rfl rfl (pa_cons (pe_lst (pa_cons (pe_tup (pa_cons (pv 0) (pa_cons pe_int pa_nil))) pa_nil)) (pa_cons pe_int pa_nil)) rfl)
  (pss_cons (ps_while PassesOwn.never (pt_cmpR (op_neNK (K := K) rfl hr.units) (pv 1) (pe_lst pa_nil) (nomark _))
  (pss_cons (ps_asg (pe_bm0K (K := K) rfl PySem.F.plainAttrs_list PySem.F.slot_list_pop PySem.F.type_list_pop mt_pop (pv 1)) (pg_tupK (K := K) (n := 2) rfl rfl (pgs_cons (pg_name (i := 3) sc_is_game.nd rfl (Or.inl rfl)) (pgs_cons (pg_name (i := 4) sc_is_game.nd rfl (Or.inr rfl)) pgs_nil))))
  (pss_cons (ps_aug (i := 2) sc_is_game.nd rfl (Or.inl rfl) pe_int ip_add)
  (pss_cons (ps_if (PW.pt (pw_or (pt_cmpR op_gt (pv 2) (pe_glob (v := .int 2000) rfl T.c_MOST_GAME_NODES ⟨_, rfl⟩) (nomark _)) (pw_or (pt_cmpR op_gt (pv 4) (pe_glob (v := .int 40) rfl T.c_MOST_HEIGHT ⟨_, rfl⟩) (nomark _)) (pw_or (pt_not (pt_val (pe_callB (call_isiX (K := K) rfl) rfl T.m_isinstance (by decide +kernel) (pa_cons (pv 3) (pa_cons (pe_bltn (v := .ty "tuple") (u := .type "tuple") rfl T.m_tuple (by decide +kernel) rfl) pa_nil))))) (pw_or1 (pt_cmpR (op_neDK (K := K) rfl hr.units) (pe_callB (call_lenK (K := K) rfl) rfl T.m_len PySem.boot_len (pa_cons (pv 3) pa_nil)) pe_int (nomark _)))))))
  (pss_one (ps_ret pe_bl))
  pss_nil)
  (pss_one (ps_for PassesOwn.never rfl (pi_tupK (K := K) rfl (pv 3)) (pg_name (i := 5) sc_is_game.nd rfl (Or.inl rfl))
  (pss_cons (ps_if (PW.pt (pw_or (pt_not (pt_val (pe_callB (call_isiX (K := K) rfl) rfl T.m_isinstance (by decide +kernel) (pa_cons (pv 5) (pa_cons (pe_bltn (v := .ty "tuple") (u := .type "tuple") rfl T.m_tuple (by decide +kernel) rfl) pa_nil))))) (pw_or1 (pt_cmpR op_gt (pe_callB (call_lenK (K := K) rfl) rfl T.m_len PySem.boot_len (pa_cons (pv 5) pa_nil)) (pe_glob (v := .int 2000) rfl T.c_MOST_GAME_NODES ⟨_, rfl⟩) (nomark _)))))
  (pss_one (ps_ret pe_bl))
  pss_nil)
  (pss_one (ps_expr (pe_bmK (K := K) rfl PySem.F.plainAttrs_list PySem.F.slot_list_extend PySem.F.type_list_extend mt_extend (pv 1) (pa_cons (pe_lc (own := [("option", 6)]) rfl sc_is_game.nd (pi_tupK (K := K) rfl (pv 5)) (blkOk_by (N := ["value", "pending", "many", "told", "depth", "side", "option"]) (sc := defScope s_is_game) (by decide +kernel)) (fun _ _ _ _ _ => (pg_name (i := 6) sc_is_game.nd rfl (Or.inl rfl))) (fun _ _ _ _ _ => pts_nil) (fun _ _ _ _ _ => (pe_tup (pa_cons (pv 6) (pa_cons (pe_op op_add (pv 4) pe_int) pa_nil))))) pa_nil)))))))))))
  (pss_one (ps_ret pe_bl)))), fn_run (N := ["value", "pending", "many", "told", "depth", "side", "option"]) h (fun A' Hz' => (ss_seq (ss_par (by decide) (se_lst (sa_cons (se_tup (sa_cons se_var (sa_cons se_int sa_nil))) sa_nil)) se_int)
  (ss_seq (ss_while (st_test (se_op sr_neN se_var (se_lst sa_nil)))
  (ss_seq (ss_asg se_pop (sg_tup (sgs_cons sg_name (sgs_cons sg_name sgs_nil))))
  (ss_seq (ss_augI se_int)
  (ss_seq (ss_if (st_or (st_test (se_op (sr_I0 (fun _ _ => rfl)) se_var se_int)) (st_or (st_test (se_op (sr_I0 (fun _ _ => rfl)) se_var se_int)) (st_or (st_not (st_B (se_isi rfl se_var))) (st_test (se_op sr_neD (se_cb1 sc_len se_var) se_int)))))
  (ss_ret se_bl)
  ss_next)
  (ss_for (si_tup se_var) sg_name
  (ss_seq (ss_if (st_or (st_not (st_B (se_isi rfl se_var))) (st_test (se_op (sr_I0 (fun _ _ => rfl)) (se_cb1 sc_len se_var) se_int)))
  (ss_ret se_bl)
  ss_next)
  (ss_drop (se_ext (se_lc (si_tup se_var) sg_name st_yes (se_tup (sa_cons se_var (sa_cons (se_op (sr_I0 (fun _ _ => rfl)) se_var se_int) sa_nil))) (by decide))))))))))
  (ss_ret se_bl)))) (fun args P hl hF => ?_) (by rw [spD_len hA h]; exact Nat.le_of_ble_eq_true rfl)⟩)) (fun args P hF => ?_)
  rotate_left
  · obtain ⟨g, rfl, _⟩ := hF
    rfl
  obtain ⟨g, rfl, hg, hsz, hP⟩ := hF
  simp -implicitDefEqProofs only [DL.WW, List.isEmpty_nil, List.lookup_cons, List.lookup_nil, List.map, List.length, List.length_cons, List.length_nil, List.length_set, List.replicate, List.append, List.cons_append, List.nil_append, List.append_nil, List.getElem?_cons_zero, List.getElem?_cons_succ, List.getElem?_nil, List.set_cons_zero, List.set_cons_succ, ↓reduceIte, Bool.false_eq_true, Bool.not_true, Bool.not_false, Bool.true_and, Bool.false_and, Bool.and_true, Bool.and_false, Bool.or_true, Bool.or_false, Bool.true_or, Bool.false_or, Nat.reduceAdd, Nat.reduceSub, Nat.reduceLT, Nat.reduceLeDiff, true_and, and_true, and_self, decide_eq_true_eq, Nat.zero_lt_succ, Nat.lt_add_left_iff_pos, beq_self_eq_true, String.reduceBEq, String.reduceEq, Nat.le_refl, Nat.zero_le, Bool.true_eq_false, decide_true, decide_false, Int.reduceEq, Int.reduceLT, Int.reduceLE, Int.reduceSub, Int.reduceAdd, DL.wIfT, DL.wListRg, DL.eSortT]
  refine ⟨fun m e => ∃ (st : List (PyData × Nat)) (many : Nat) (z3 z4 z5 : Option B), m = 2001 - many ∧ many ≤ 2000 ∧ szDs (st.map (·.1)) ≤ 90000 ∧ (∀ p ∈ st, NP p.1) ∧ gmL (2001 - many) st = gameB g ∧
    e = [some (.dat g), some (.ob none (.lst (st.map pD).reverse)), some (.dat (.int many)), z3, z4, z5, none], ⟨2001, [(g, 0)], 0, none, none, none, rfl, by decide, by simpa [szDs] using hsz, ?_, rfl, rfl⟩, ?_⟩
  · intro p hp
    rw [List.mem_singleton.mp hp]
    exact hg
  rintro m e ⟨st, many, z3, z4, z5, rfl, hm, hl, hnp, hgm, rfl⟩
  simp -implicitDefEqProofs only [DL.WW, List.isEmpty_nil, List.lookup_cons, List.lookup_nil, List.map, List.length, List.length_cons, List.length_nil, List.length_set, List.replicate, List.append, List.cons_append, List.nil_append, List.append_nil, List.getElem?_cons_zero, List.getElem?_cons_succ, List.getElem?_nil, List.set_cons_zero, List.set_cons_succ, ↓reduceIte, Bool.false_eq_true, Bool.not_true, Bool.not_false, Bool.true_and, Bool.false_and, Bool.and_true, Bool.and_false, Bool.or_true, Bool.or_false, Bool.true_or, Bool.false_or, Nat.reduceAdd, Nat.reduceSub, Nat.reduceLT, Nat.reduceLeDiff, true_and, and_true, and_self, decide_eq_true_eq, Nat.zero_lt_succ, Nat.lt_add_left_iff_pos, beq_self_eq_true, String.reduceBEq, String.reduceEq, Nat.le_refl, Nat.zero_le, Bool.true_eq_false, decide_true, decide_false, Int.reduceEq, Int.reduceLT, Int.reduceLE, Int.reduceSub, Int.reduceAdd, DL.wIfT, DL.wListRg, DL.eSortT, DL.eNeN]
  cases st with
  | nil =>
    simp -implicitDefEqProofs only [DL.WW, List.isEmpty_nil, List.lookup_cons, List.lookup_nil, List.map, List.length, List.length_cons, List.length_nil, List.length_set, List.replicate, List.append, List.cons_append, List.nil_append, List.append_nil, List.getElem?_cons_zero, List.getElem?_cons_succ, List.getElem?_nil, List.set_cons_zero, List.set_cons_succ, ↓reduceIte, Bool.false_eq_true, Bool.not_true, Bool.not_false, Bool.true_and, Bool.false_and, Bool.and_true, Bool.and_false, Bool.or_true, Bool.or_false, Bool.true_or, Bool.false_or, Nat.reduceAdd, Nat.reduceSub, Nat.reduceLT, Nat.reduceLeDiff, true_and, and_true, and_self, decide_eq_true_eq, Nat.zero_lt_succ, Nat.lt_add_left_iff_pos, beq_self_eq_true, String.reduceBEq, String.reduceEq, Nat.le_refl, Nat.zero_le, Bool.true_eq_false, decide_true, decide_false, Int.reduceEq, Int.reduceLT, Int.reduceLE, Int.reduceSub, Int.reduceAdd, DL.wIfT, DL.wListRg, DL.eSortT, List.map_nil, List.reverse_nil]
    have : gameB g = true := by rw [← hgm]; cases 2001 - many <;> rfl
    rw [this] at hP
    exact hP
  | cons p st =>
    obtain ⟨d, k⟩ := p
    have hnd := hnp (d, k) List.mem_cons_self
    have e2 : ((pD (d, k) :: st.map pD).reverse).isEmpty = false := by simp
    have e1 : (pD (d, k) :: st.map pD).reverse[(pD (d, k) :: st.map pD).reverse.length - 1]? = some (pD (d, k)) := by simp
    have e3 : (pD (d, k) :: st.map pD).reverse.dropLast = (st.map pD).reverse := by simp
    simp only [List.map_cons, e2, e1, e3]
    have ep : pD (d, k) = .tuple [d, .int (k : Nat)] := rfl
    rw [ep]
    simp -implicitDefEqProofs only [DL.WW, List.isEmpty_nil, List.lookup_cons, List.lookup_nil, List.map, List.length, List.length_cons, List.length_nil, List.length_set, List.replicate, List.append, List.cons_append, List.nil_append, List.append_nil, List.getElem?_cons_zero, List.getElem?_cons_succ, List.getElem?_nil, List.set_cons_zero, List.set_cons_succ, ↓reduceIte, Bool.false_eq_true, Bool.not_true, Bool.not_false, Bool.true_and, Bool.false_and, Bool.and_true, Bool.and_false, Bool.or_true, Bool.or_false, Bool.true_or, Bool.false_or, Nat.reduceAdd, Nat.reduceSub, Nat.reduceLT, Nat.reduceLeDiff, true_and, and_true, and_self, decide_eq_true_eq, Nat.zero_lt_succ, Nat.lt_add_left_iff_pos, beq_self_eq_true, String.reduceBEq, String.reduceEq, Nat.le_refl, Nat.zero_le, Bool.true_eq_false, decide_true, decide_false, Int.reduceEq, Int.reduceLT, Int.reduceLE, Int.reduceSub, Int.reduceAdd, DL.wIfT, DL.wListRg, DL.eSortT]
    by_cases c0 : (2000 : Int) < (many : Int) + 1
    · rw [if_pos c0]
      have e : gameB g = false := by rw [← hgm, show 2001 - many = 1 by omega]; rfl
      rw [e] at hP
      exact hP
    rw [if_neg c0]
    obtain ⟨f, hf⟩ : ∃ f, 2001 - many = f + 2 := ⟨1999 - many, by omega⟩
    rw [hf, gmL] at hgm
    by_cases c1 : (40 : Int) < (k : Int)
    · rw [if_pos c1]
      rw [if_pos (by omega)] at hgm
      rw [← hgm] at hP
      exact hP
    rw [if_neg c1]
    rw [if_neg (by omega)] at hgm
    have bad : two d = none → P (.dat (.bool false)) [none] := fun h => by
      rw [h] at hgm
      rw [← hgm] at hP
      exact hP
    refine ⟨hnd.ptr, ?_⟩
    cases hnd with
    | non => exact bad rfl
    | int n => exact bad rfl
    | bool n => exact bad rfl
    | str n => exact bad rfl
    | lst n => exact bad rfl
    | dic => exact bad rfl
    | tup ds hds =>
      simp -implicitDefEqProofs only [DL.WW, List.isEmpty_nil, List.lookup_cons, List.lookup_nil, List.map, List.length, List.length_cons, List.length_nil, List.length_set, List.replicate, List.append, List.cons_append, List.nil_append, List.append_nil, List.getElem?_cons_zero, List.getElem?_cons_succ, List.getElem?_nil, List.set_cons_zero, List.set_cons_succ, ↓reduceIte, Bool.false_eq_true, Bool.not_true, Bool.not_false, Bool.true_and, Bool.false_and, Bool.and_true, Bool.and_false, Bool.or_true, Bool.or_false, Bool.true_or, Bool.false_or, Nat.reduceAdd, Nat.reduceSub, Nat.reduceLT, Nat.reduceLeDiff, true_and, and_true, and_self, decide_eq_true_eq, Nat.zero_lt_succ, Nat.lt_add_left_iff_pos, beq_self_eq_true, String.reduceBEq, String.reduceEq, Nat.le_refl, Nat.zero_le, Bool.true_eq_false, decide_true, decide_false, Int.reduceEq, Int.reduceLT, Int.reduceLE, Int.reduceSub, Int.reduceAdd, DL.wIfT, DL.wListRg, DL.eSortT]
      match ds, hds with
      | [], _ => simp -implicitDefEqProofs only [DL.WW, List.isEmpty_nil, List.lookup_cons, List.lookup_nil, List.map, List.length, List.length_cons, List.length_nil, List.length_set, List.replicate, List.append, List.cons_append, List.nil_append, List.append_nil, List.getElem?_cons_zero, List.getElem?_cons_succ, List.getElem?_nil, List.set_cons_zero, List.set_cons_succ, ↓reduceIte, Bool.false_eq_true, Bool.not_true, Bool.not_false, Bool.true_and, Bool.false_and, Bool.and_true, Bool.and_false, Bool.or_true, Bool.or_false, Bool.true_or, Bool.false_or, Nat.reduceAdd, Nat.reduceSub, Nat.reduceLT, Nat.reduceLeDiff, true_and, and_true, and_self, decide_eq_true_eq, Nat.zero_lt_succ, Nat.lt_add_left_iff_pos, beq_self_eq_true, String.reduceBEq, String.reduceEq, Nat.le_refl, Nat.zero_le, Bool.true_eq_false, decide_true, decide_false, Int.reduceEq, Int.reduceLT, Int.reduceLE, Int.reduceSub, Int.reduceAdd, DL.wIfT, DL.wListRg, DL.eSortT]; exact bad (two_len (by simp))
      | [_], _ => simp -implicitDefEqProofs only [DL.WW, List.isEmpty_nil, List.lookup_cons, List.lookup_nil, List.map, List.length, List.length_cons, List.length_nil, List.length_set, List.replicate, List.append, List.cons_append, List.nil_append, List.append_nil, List.getElem?_cons_zero, List.getElem?_cons_succ, List.getElem?_nil, List.set_cons_zero, List.set_cons_succ, ↓reduceIte, Bool.false_eq_true, Bool.not_true, Bool.not_false, Bool.true_and, Bool.false_and, Bool.and_true, Bool.and_false, Bool.or_true, Bool.or_false, Bool.true_or, Bool.false_or, Nat.reduceAdd, Nat.reduceSub, Nat.reduceLT, Nat.reduceLeDiff, true_and, and_true, and_self, decide_eq_true_eq, Nat.zero_lt_succ, Nat.lt_add_left_iff_pos, beq_self_eq_true, String.reduceBEq, String.reduceEq, Nat.le_refl, Nat.zero_le, Bool.true_eq_false, decide_true, decide_false, Int.reduceEq, Int.reduceLT, Int.reduceLE, Int.reduceSub, Int.reduceAdd, DL.wIfT, DL.wListRg, DL.eSortT]; exact bad (two_len (by simp))
      | a :: b :: c :: r, _ =>
        simp -implicitDefEqProofs only [DL.WW, List.isEmpty_nil, List.lookup_cons, List.lookup_nil, List.map, List.length, List.length_cons, List.length_nil, List.length_set, List.replicate, List.append, List.cons_append, List.nil_append, List.append_nil, List.getElem?_cons_zero, List.getElem?_cons_succ, List.getElem?_nil, List.set_cons_zero, List.set_cons_succ, ↓reduceIte, Bool.false_eq_true, Bool.not_true, Bool.not_false, Bool.true_and, Bool.false_and, Bool.and_true, Bool.and_false, Bool.or_true, Bool.or_false, Bool.true_or, Bool.false_or, Nat.reduceAdd, Nat.reduceSub, Nat.reduceLT, Nat.reduceLeDiff, true_and, and_true, and_self, decide_eq_true_eq, Nat.zero_lt_succ, Nat.lt_add_left_iff_pos, beq_self_eq_true, String.reduceBEq, String.reduceEq, Nat.le_refl, Nat.zero_le, Bool.true_eq_false, decide_true, decide_false, Int.reduceEq, Int.reduceLT, Int.reduceLE, Int.reduceSub, Int.reduceAdd, DL.wIfT, DL.wListRg, DL.eSortT]
        rw [if_pos (by simp; omega)]
        exact bad (two_len (by simp))
      | [a, b], hds =>
        have ha := hds a (by simp)
        have hb := hds b (by simp)
        simp -implicitDefEqProofs only [DL.WW, List.isEmpty_nil, List.lookup_cons, List.lookup_nil, List.map, List.length, List.length_cons, List.length_nil, List.length_set, List.replicate, List.append, List.cons_append, List.nil_append, List.append_nil, List.getElem?_cons_zero, List.getElem?_cons_succ, List.getElem?_nil, List.set_cons_zero, List.set_cons_succ, ↓reduceIte, Bool.false_eq_true, Bool.not_true, Bool.not_false, Bool.true_and, Bool.false_and, Bool.and_true, Bool.and_false, Bool.or_true, Bool.or_false, Bool.true_or, Bool.false_or, Nat.reduceAdd, Nat.reduceSub, Nat.reduceLT, Nat.reduceLeDiff, true_and, and_true, and_self, decide_eq_true_eq, Nat.zero_lt_succ, Nat.lt_add_left_iff_pos, beq_self_eq_true, String.reduceBEq, String.reduceEq, Nat.le_refl, Nat.zero_le, Bool.true_eq_false, decide_true, decide_false, Int.reduceEq, Int.reduceLT, Int.reduceLE, Int.reduceSub, Int.reduceAdd, DL.wIfT, DL.wListRg, DL.eSortT]
        refine for_use ?_
        simp -implicitDefEqProofs only [DL.WW, List.isEmpty_nil, List.lookup_cons, List.lookup_nil, List.map, List.length, List.length_cons, List.length_nil, List.length_set, List.replicate, List.append, List.cons_append, List.nil_append, List.append_nil, List.getElem?_cons_zero, List.getElem?_cons_succ, List.getElem?_nil, List.set_cons_zero, List.set_cons_succ, ↓reduceIte, Bool.false_eq_true, Bool.not_true, Bool.not_false, Bool.true_and, Bool.false_and, Bool.and_true, Bool.and_false, Bool.or_true, Bool.or_false, Bool.true_or, Bool.false_or, Nat.reduceAdd, Nat.reduceSub, Nat.reduceLT, Nat.reduceLeDiff, true_and, and_true, and_self, decide_eq_true_eq, Nat.zero_lt_succ, Nat.lt_add_left_iff_pos, beq_self_eq_true, String.reduceBEq, String.reduceEq, Nat.le_refl, Nat.zero_le, Bool.true_eq_false, decide_true, decide_false, Int.reduceEq, Int.reduceLT, Int.reduceLE, Int.reduceSub, Int.reduceAdd, DL.wIfT, DL.wListRg, DL.eSortT]
        have hbad : (sideL a = none ∨ sideL b = none) → P (.dat (.bool false)) [none] := fun h => bad (by
          show ((sideL a).bind fun x => (sideL b).map fun y => (x, y)) = none
          rcases h with h | h
          · rw [h]; rfl
          · rw [h]; cases sideL a <;> rfl)
        have hnm : (2001 : Nat) - (many + 1) = f + 1 := by omega
        refine ⟨fun j e => ∃ (xs : List PyData) (z5 : Option B), xs.length ≤ 2000 * j ∧ (j = 0 → xs = []) ∧ (j = 1 → sideL a = some xs) ∧ (j = 2 → ∃ x y, sideL a = some x ∧ sideL b = some y ∧ xs = x ++ y) ∧
          e = [some (.dat g), some (.ob none (.lst ((st.map pD).reverse ++ xs.map fun z => pD (z, k + 1)))), some (.dat (.int ((many : Int) + 1))), some (.dat (.tuple [a, b])), some (.dat (.int (k : Nat))), z5, none], ⟨[], z5, by simp, fun _ => rfl, (fun h => by cases h), (fun h => by cases h), by simp⟩, fun j c e hc h => ?_, fun e h => ?_⟩
        · obtain ⟨xs, z5, hxl, h0, h1, h2, rfl⟩ := h
          have hj : j = 0 ∨ j = 1 := by have := (List.getElem?_eq_some_iff.mp hc).1; simp at this; omega
          have hcn : NP c := by
            rcases hj with rfl | rfl
            · simp at hc; rw [← hc]; exact ha
            · simp at hc; rw [← hc]; exact hb
          have hbc : sideL c = none → P (.dat (.bool false)) [none] := fun h => hbad (by
            rcases hj with rfl | rfl
            · simp at hc; rw [hc]; exact .inl h
            · simp at hc; rw [hc]; exact .inr h)
          simp -implicitDefEqProofs only [DL.WW, List.isEmpty_nil, List.lookup_cons, List.lookup_nil, List.map, List.length, List.length_cons, List.length_nil, List.length_set, List.replicate, List.append, List.cons_append, List.nil_append, List.append_nil, List.getElem?_cons_zero, List.getElem?_cons_succ, List.getElem?_nil, List.set_cons_zero, List.set_cons_succ, ↓reduceIte, Bool.false_eq_true, Bool.not_true, Bool.not_false, Bool.true_and, Bool.false_and, Bool.and_true, Bool.and_false, Bool.or_true, Bool.or_false, Bool.true_or, Bool.false_or, Nat.reduceAdd, Nat.reduceSub, Nat.reduceLT, Nat.reduceLeDiff, true_and, and_true, and_self, decide_eq_true_eq, Nat.zero_lt_succ, Nat.lt_add_left_iff_pos, beq_self_eq_true, String.reduceBEq, String.reduceEq, Nat.le_refl, Nat.zero_le, Bool.true_eq_false, decide_true, decide_false, Int.reduceEq, Int.reduceLT, Int.reduceLE, Int.reduceSub, Int.reduceAdd, DL.wIfT, DL.wListRg, DL.eSortT]
          refine ⟨hcn.ptr, ?_⟩
          cases hcn with
          | non => exact hbc rfl
          | int n => exact hbc rfl
          | bool n => exact hbc rfl
          | str n => exact hbc rfl
          | lst n => exact hbc rfl
          | dic => exact hbc rfl
          | tup x hx =>
            simp -implicitDefEqProofs only [DL.WW, List.isEmpty_nil, List.lookup_cons, List.lookup_nil, List.map, List.length, List.length_cons, List.length_nil, List.length_set, List.replicate, List.append, List.cons_append, List.nil_append, List.append_nil, List.getElem?_cons_zero, List.getElem?_cons_succ, List.getElem?_nil, List.set_cons_zero, List.set_cons_succ, ↓reduceIte, Bool.false_eq_true, Bool.not_true, Bool.not_false, Bool.true_and, Bool.false_and, Bool.and_true, Bool.and_false, Bool.or_true, Bool.or_false, Bool.true_or, Bool.false_or, Nat.reduceAdd, Nat.reduceSub, Nat.reduceLT, Nat.reduceLeDiff, true_and, and_true, and_self, decide_eq_true_eq, Nat.zero_lt_succ, Nat.lt_add_left_iff_pos, beq_self_eq_true, String.reduceBEq, String.reduceEq, Nat.le_refl, Nat.zero_le, Bool.true_eq_false, decide_true, decide_false, Int.reduceEq, Int.reduceLT, Int.reduceLE, Int.reduceSub, Int.reduceAdd, DL.wIfT, DL.wListRg, DL.eSortT]
            by_cases c2 : (2000 : Int) < (x.length : Int)
            · rw [if_pos c2]
              exact hbc (if_neg (by omega))
            rw [if_neg c2]
            refine lc_use ?_
            simp -implicitDefEqProofs only [DL.WW, List.isEmpty_nil, List.lookup_cons, List.lookup_nil, List.map, List.length, List.length_cons, List.length_nil, List.length_set, List.replicate, List.append, List.cons_append, List.nil_append, List.append_nil, List.getElem?_cons_zero, List.getElem?_cons_succ, List.getElem?_nil, List.set_cons_zero, List.set_cons_succ, ↓reduceIte, Bool.false_eq_true, Bool.not_true, Bool.not_false, Bool.true_and, Bool.false_and, Bool.and_true, Bool.and_false, Bool.or_true, Bool.or_false, Bool.true_or, Bool.false_or, Nat.reduceAdd, Nat.reduceSub, Nat.reduceLT, Nat.reduceLeDiff, true_and, and_true, and_self, decide_eq_true_eq, Nat.zero_lt_succ, Nat.lt_add_left_iff_pos, beq_self_eq_true, String.reduceBEq, String.reduceEq, Nat.le_refl, Nat.zero_le, Bool.true_eq_false, decide_true, decide_false, Int.reduceEq, Int.reduceLT, Int.reduceLE, Int.reduceSub, Int.reduceAdd, DL.wIfT, DL.wListRg, DL.eSortT]
            refine lc_acc (fun j => (x.take j).map fun z => pD (z, k + 1)) rfl rfl (fun j hj => ?_) (fun j y hy => ?_) ?_
            · rw [List.length_map, List.length_take]
              omega
            · simp -implicitDefEqProofs only [DL.WW, List.isEmpty_nil, List.lookup_cons, List.lookup_nil, List.map, List.length, List.length_cons, List.length_nil, List.length_set, List.replicate, List.append, List.cons_append, List.nil_append, List.append_nil, List.getElem?_cons_zero, List.getElem?_cons_succ, List.getElem?_nil, List.set_cons_zero, List.set_cons_succ, ↓reduceIte, Bool.false_eq_true, Bool.not_true, Bool.not_false, Bool.true_and, Bool.false_and, Bool.and_true, Bool.and_false, Bool.or_true, Bool.or_false, Bool.true_or, Bool.false_or, Nat.reduceAdd, Nat.reduceSub, Nat.reduceLT, Nat.reduceLeDiff, true_and, and_true, and_self, decide_eq_true_eq, Nat.zero_lt_succ, Nat.lt_add_left_iff_pos, beq_self_eq_true, String.reduceBEq, String.reduceEq, Nat.le_refl, Nat.zero_le, Bool.true_eq_false, decide_true, decide_false, Int.reduceEq, Int.reduceLT, Int.reduceLE, Int.reduceSub, Int.reduceAdd, DL.wIfT, DL.wListRg, DL.eSortT]
              rw [List.take_succ, hy, List.map_append]
              rfl
            · rw [List.take_length]
              have hsx : sideL (.tuple x) = some x := if_pos (by omega)
              have e8 : ((st.map pD).reverse ++ xs.map fun z => pD (z, k + 1)) ++ x.map (fun z => pD (z, k + 1)) = (st.map pD).reverse ++ (xs ++ x).map fun z => pD (z, k + 1) := by simp
              simp -implicitDefEqProofs only [DL.WW, List.isEmpty_nil, List.lookup_cons, List.lookup_nil, List.map, List.length, List.length_cons, List.length_nil, List.length_set, List.replicate, List.append, List.cons_append, List.nil_append, List.append_nil, List.getElem?_cons_zero, List.getElem?_cons_succ, List.getElem?_nil, List.set_cons_zero, List.set_cons_succ, ↓reduceIte, Bool.false_eq_true, Bool.not_true, Bool.not_false, Bool.true_and, Bool.false_and, Bool.and_true, Bool.and_false, Bool.or_true, Bool.or_false, Bool.true_or, Bool.false_or, Nat.reduceAdd, Nat.reduceSub, Nat.reduceLT, Nat.reduceLeDiff, true_and, and_true, and_self, decide_eq_true_eq, Nat.zero_lt_succ, Nat.lt_add_left_iff_pos, beq_self_eq_true, String.reduceBEq, String.reduceEq, Nat.le_refl, Nat.zero_le, Bool.true_eq_false, decide_true, decide_false, Int.reduceEq, Int.reduceLT, Int.reduceLE, Int.reduceSub, Int.reduceAdd, DL.wIfT, DL.wListRg, DL.eSortT, List.length_append, List.length_map, List.length_reverse]
              rw [e8]
              have hl' : st.length ≤ 90000 := by
                have h1 := szDs_len (st.map (·.1))
                rw [List.map_cons, szDs] at hl
                rw [List.length_map] at h1
                omega
              refine ⟨?_, xs ++ x, _, by rw [List.length_append, Nat.mul_add]; omega, (fun h => by omega), fun h => ?_, fun h => ?_, rfl⟩
              · rcases hj with rfl | rfl <;> omega
              · have : j = 0 := by omega
                subst this
                simp at hc
                rw [hc, h0 rfl]
                exact hsx
              · have : j = 1 := by omega
                subst this
                simp at hc
                exact ⟨xs, x, h1 rfl, by rw [hc]; exact hsx, rfl⟩
        · obtain ⟨xs, z5, hxl, _, _, h2, rfl⟩ := h
          obtain ⟨x, y, h3, h4, rfl⟩ := h2 rfl
          have e2 : two (.tuple [a, b]) = some (x, y) := by
            show ((sideL a).bind fun x => (sideL b).map fun y => (x, y)) = _
            rw [h3, h4]
            rfl
          rw [e2] at hgm
          have hmem : ∀ (c : PyData) (z : List PyData), NP c → sideL c = some z → ∀ q ∈ z, NP q := fun c z hc hs q hq => by
            unfold sideL at hs
            split at hs
            · split at hs
              · cases hs
                cases hc with
                | tup _ hd => exact hd q hq
              · cases hs
            · cases hs
          refine ⟨2001 - (many + 1), by omega, (y.reverse.map fun z => (z, k + 1)) ++ (x.reverse.map fun z => (z, k + 1)) ++ st, many + 1, some (.dat (.tuple [a, b])), some (.dat (.int (k : Nat))), z5, rfl, by omega, ?_, fun p hp => ?_, ?_, ?_⟩
          · have ea : szD a = 1 + szDs x := by
              unfold sideL at h3
              split at h3
              · split at h3
                · cases h3; rw [szD]
                · cases h3
              · cases h3
            have eb : szD b = 1 + szDs y := by
              unfold sideL at h4
              split at h4
              · split at h4
                · cases h4; rw [szD]
                · cases h4
              · cases h4
            have em : ∀ l : List PyData, (l.map fun z => (z, k + 1)).map (·.1) = l := fun l => by rw [List.map_map]; exact List.map_id' l
            rw [List.map_cons, szDs, szD, szDs, szDs, szDs, ea, eb] at hl
            rw [List.map_append, List.map_append, em, em, szDs_app, szDs_app, szDs_rev, szDs_rev]
            omega
          · rcases List.mem_append.mp hp with hp | hp
            · rcases List.mem_append.mp hp with hp | hp
              · obtain ⟨q, hq, rfl⟩ := List.mem_map.mp hp
                exact hmem b y hb h4 q (List.mem_reverse.mp hq)
              · obtain ⟨q, hq, rfl⟩ := List.mem_map.mp hp
                exact hmem a x ha h3 q (List.mem_reverse.mp hq)
            · exact hnp p (List.mem_cons_of_mem _ hp)
          · rw [hnm]
            exact hgm
          · have e9 : (((y.reverse.map fun z => (z, k + 1)) ++ (x.reverse.map fun z => (z, k + 1)) ++ st).map pD).reverse = (st.map pD).reverse ++ (x ++ y).map fun z => pD (z, k + 1) := by
              simp [List.map_reverse, Function.comp_def]
            rw [e9]
            rfl
end
end GB
end K07D


set_option Elab.async false
set_option linter.all false
set_option maxRecDepth 100000
set_option maxHeartbeats 4000000
namespace K07D
open PySem L2 TG DL K07 SK TXG
section
variable {P : Program} {w : World} {K : PySem.W.Frag} {mg : Str → Option Value} {base : Heap}
def opN : Option Nat → PyData
  | none => .none
  | some i => .int ((i : Nat) : Int)
def F_too_deep : FSp := fun args P => ∃ x : List Nat, args = [some (.dat (.str (stC x)))] ∧ x.length ≤ 50000 ∧ CdOk x ∧ P (.dat (opN (deepAt 0 0 x))) [none]
theorem sg_C (x : List Nat) : sgD (stC x) = x.map fun c => .str (stC [c]) := rfl
theorem ok_too_deep {k : Nat} (T : Txt K mg)  : FnOk P w K mg base CX0 (k + 1) T.a_too_deep T.d_too_deep ["text"] (spD K F_too_deep) := by
  refine (fun (hA : ∀ args Pz, F_too_deep args Pz → args.length = 1) => T.F_too_deep.ok (sp := spD K F_too_deep) sc_too_deep (fun vs H Q E h => spD_len hA h) (fun cdv A outer s H vs Q E hr h => ⟨_, (pss_cons (ps_set (i := 1) sc_too_deep.nd rfl (Or.inl rfl) pe_int)
  (pss_cons (ps_for PassesOwn.never rfl (pi_enumS rfl T.m_enumerate (pa_cons (pv 0) pa_nil)) (pg_tupK (K := K) (n := 2) rfl rfl (pgs_cons (pg_name (i := 2) sc_too_deep.nd rfl (Or.inl rfl)) (pgs_cons (pg_name (i := 3) sc_too_deep.nd rfl (Or.inl rfl)) pgs_nil)))
  (pss_cons (ps_if (pt_cmpR (op_eqDK (K := K) rfl hr.units) (pv 3) pe_str (nomark _))
  (pss_cons (ps_aug (i := 1) sc_too_deep.nd rfl (Or.inl rfl) pe_int ip_add)
  (pss_one (ps_if (pt_cmpR op_gt (pv 1) pe_int (nomark _))
  (pss_one (ps_ret (pv 2)))
  pss_nil)))
  pss_nil)
  (pss_one (ps_if (pt_cmpR (op_eqDK (K := K) rfl hr.units) (pv 3) pe_str (nomark _))
  (pss_one (ps_aug (i := 1) sc_too_deep.nd rfl (Or.inl rfl) pe_int ip_sub))
  pss_nil))))
  (pss_one (ps_ret pe_non)))), fn_run (N := ["text", "depth", "at", "sign"]) h (fun A' Hz' => (ss_seq (ss_asg se_int sg_name)
  (ss_seq (ss_for (si_enumS se_var) (sg_tup (sgs_cons sg_name (sgs_cons sg_name sgs_nil)))
  (ss_seq (ss_if (st_test (se_op sr_eqD se_var se_str))
  (ss_seq (ss_augI se_int)
  (ss_if (st_test (se_op (sr_I0 (fun _ _ => rfl)) se_var se_int))
  (ss_ret se_var)
  ss_next))
  ss_next)
  (ss_if (st_test (se_op sr_eqD se_var se_str))
  (ss_augI se_int)
  ss_next)))
  (ss_ret se_non)))) (fun args P hl hF => ?_) (by rw [spD_len hA h]; exact Nat.le_of_ble_eq_true rfl)⟩)) (fun args P hF => ?_)
  rotate_left
  · obtain ⟨x, rfl, _⟩ := hF
    rfl
  obtain ⟨x, rfl, hx, hcd, hP⟩ := hF
  simp -implicitDefEqProofs only [DL.WW, List.isEmpty_nil, List.lookup_cons, List.lookup_nil, List.map, List.length, List.length_cons, List.length_nil, List.length_set, List.replicate, List.append, List.cons_append, List.nil_append, List.append_nil, List.getElem?_cons_zero, List.getElem?_cons_succ, List.getElem?_nil, List.set_cons_zero, List.set_cons_succ, ↓reduceIte, Bool.false_eq_true, Bool.not_true, Bool.not_false, Bool.true_and, Bool.false_and, Bool.and_true, Bool.and_false, Bool.or_true, Bool.or_false, Bool.true_or, Bool.false_or, Nat.reduceAdd, Nat.reduceSub, Nat.reduceLT, Nat.reduceLeDiff, true_and, and_true, and_self, decide_eq_true_eq, Nat.zero_lt_succ, Nat.lt_add_left_iff_pos, beq_self_eq_true, String.reduceBEq, String.reduceEq, Nat.le_refl, Nat.zero_le, Bool.true_eq_false, decide_true, decide_false, Int.reduceEq, Int.reduceLT, Int.reduceLE, Int.reduceSub, Int.reduceAdd, DL.wIfT, DL.wListRg, DL.eSortT, DL.eAddS, DL.eInS, DL.eLenS, DL.wSlS, DL.wI2, DL.evd_mx, DL.evd_mn, DL.evd_gcd, DL.wIStr, DL.wIEnumS, DL.wFun, DL.wWord, DL.wWordV, DL.wCallX, DL.wRaise, DL.wWordG, DL.wWordVG, DL.wRaiseI, DL.eJnL, DL.eJnT, DL.wJoin, DL.eStrI, DL.eIntS, DL.strsD_map]
  refine for_use ?_
  simp -implicitDefEqProofs only [DL.WW, List.isEmpty_nil, List.lookup_cons, List.lookup_nil, List.map, List.length, List.length_cons, List.length_nil, List.length_set, List.replicate, List.append, List.cons_append, List.nil_append, List.append_nil, List.getElem?_cons_zero, List.getElem?_cons_succ, List.getElem?_nil, List.set_cons_zero, List.set_cons_succ, ↓reduceIte, Bool.false_eq_true, Bool.not_true, Bool.not_false, Bool.true_and, Bool.false_and, Bool.and_true, Bool.and_false, Bool.or_true, Bool.or_false, Bool.true_or, Bool.false_or, Nat.reduceAdd, Nat.reduceSub, Nat.reduceLT, Nat.reduceLeDiff, true_and, and_true, and_self, decide_eq_true_eq, Nat.zero_lt_succ, Nat.lt_add_left_iff_pos, beq_self_eq_true, String.reduceBEq, String.reduceEq, Nat.le_refl, Nat.zero_le, Bool.true_eq_false, decide_true, decide_false, Int.reduceEq, Int.reduceLT, Int.reduceLE, Int.reduceSub, Int.reduceAdd, DL.wIfT, DL.wListRg, DL.eSortT, DL.eAddS, DL.eInS, DL.eLenS, DL.wSlS, DL.wI2, DL.evd_mx, DL.evd_mn, DL.evd_gcd, DL.wIStr, DL.wIEnumS, DL.wFun, DL.wWord, DL.wWordV, DL.wCallX, DL.wRaise, DL.wWordG, DL.wWordVG, DL.wRaiseI, DL.eJnL, DL.eJnT, DL.wJoin, DL.eStrI, DL.eIntS, DL.strsD_map, sg_C]
  have c1 : Str.ofString "{" = stC [123] := by decide +kernel
  have c2 : Str.ofString "}" = stC [125] := by decide +kernel
  refine ⟨fun i e => ∃ (k : Int) (z2 z3 : Option B), deepAt k i (x.drop i) = deepAt 0 0 x ∧ e = [some (.dat (.str (stC x))), some (.dat (.int k)), z2, z3], ⟨0, none, none, rfl, rfl⟩, ?_, ?_⟩
  · rintro i d e hd ⟨k, z2, z3, hk, rfl⟩
    obtain ⟨dx, hdx, rfl⟩ := enumD_get hd
    obtain ⟨c, hc, rfl⟩ := map_get hdx
    have hi := (List.getElem?_eq_some_iff.mp hc).1
    have hdr : x.drop i = c :: x.drop (i + 1) := by rw [List.drop_eq_getElem_cons hi, (List.getElem?_eq_some_iff.mp hc).2]
    have hc128 := hcd c (List.mem_of_getElem? hc)
    rw [hdr, deepAt] at hk
    simp -implicitDefEqProofs only [DL.WW, List.isEmpty_nil, List.lookup_cons, List.lookup_nil, List.map, List.length, List.length_cons, List.length_nil, List.length_set, List.replicate, List.append, List.cons_append, List.nil_append, List.append_nil, List.getElem?_cons_zero, List.getElem?_cons_succ, List.getElem?_nil, List.set_cons_zero, List.set_cons_succ, ↓reduceIte, Bool.false_eq_true, Bool.not_true, Bool.not_false, Bool.true_and, Bool.false_and, Bool.and_true, Bool.and_false, Bool.or_true, Bool.or_false, Bool.true_or, Bool.false_or, Nat.reduceAdd, Nat.reduceSub, Nat.reduceLT, Nat.reduceLeDiff, true_and, and_true, and_self, decide_eq_true_eq, Nat.zero_lt_succ, Nat.lt_add_left_iff_pos, beq_self_eq_true, String.reduceBEq, String.reduceEq, Nat.le_refl, Nat.zero_le, Bool.true_eq_false, decide_true, decide_false, Int.reduceEq, Int.reduceLT, Int.reduceLE, Int.reduceSub, Int.reduceAdd, DL.wIfT, DL.wListRg, DL.eSortT, DL.eAddS, DL.eInS, DL.eLenS, DL.wSlS, DL.wI2, DL.evd_mx, DL.evd_mn, DL.evd_gcd, DL.wIStr, DL.wIEnumS, DL.wFun, DL.wWord, DL.wWordV, DL.wCallX, DL.wRaise, DL.wWordG, DL.wWordVG, DL.wRaiseI, DL.eJnL, DL.eJnT, DL.wJoin, DL.eStrI, DL.eIntS, DL.strsD_map, c1, c2]
    refine ⟨one1 hc128, one1 (by decide), ?_⟩
    simp only [stE]
    by_cases k1 : c = 123
    · subst k1
      rw [if_pos rfl] at hk
      rw [if_pos rfl]
      by_cases h60 : 60 < k + 1
      · rw [if_pos h60] at hk
        rw [if_pos h60]
        rw [← hk] at hP
        exact hP
      · rw [if_neg h60] at hk
        rw [if_neg h60]
        refine ⟨one1 (by decide), one1 (by decide), ?_⟩
        rw [if_neg (by decide)]
        exact ⟨k + 1, some (.dat (.int i)), some (.dat (.str (stC [123]))), hk, rfl⟩
    · rw [if_neg k1] at hk ⊢
      refine ⟨one1 hc128, one1 (by decide), ?_⟩
      by_cases k2 : c = 125
      · subst k2
        rw [if_pos rfl] at hk ⊢
        exact ⟨k - 1, some (.dat (.int i)), some (.dat (.str (stC [125]))), hk, rfl⟩
      · rw [if_neg k2] at hk ⊢
        exact ⟨k, _, _, hk, rfl⟩
  · rintro e ⟨k, z2, z3, hk, rfl⟩
    rw [show x.drop (enumD (x.map fun c => PyData.str (stC [c]))).length = [] by rw [enumD_len, List.length_map, List.drop_length]] at hk
    have hk2 : none = deepAt 0 0 x := hk
    rw [← hk2] at hP
    simp -implicitDefEqProofs only [DL.WW, List.isEmpty_nil, List.lookup_cons, List.lookup_nil, List.map, List.length, List.length_cons, List.length_nil, List.length_set, List.replicate, List.append, List.cons_append, List.nil_append, List.append_nil, List.getElem?_cons_zero, List.getElem?_cons_succ, List.getElem?_nil, List.set_cons_zero, List.set_cons_succ, ↓reduceIte, Bool.false_eq_true, Bool.not_true, Bool.not_false, Bool.true_and, Bool.false_and, Bool.and_true, Bool.and_false, Bool.or_true, Bool.or_false, Bool.true_or, Bool.false_or, Nat.reduceAdd, Nat.reduceSub, Nat.reduceLT, Nat.reduceLeDiff, true_and, and_true, and_self, decide_eq_true_eq, Nat.zero_lt_succ, Nat.lt_add_left_iff_pos, beq_self_eq_true, String.reduceBEq, String.reduceEq, Nat.le_refl, Nat.zero_le, Bool.true_eq_false, decide_true, decide_false, Int.reduceEq, Int.reduceLT, Int.reduceLE, Int.reduceSub, Int.reduceAdd, DL.wIfT, DL.wListRg, DL.eSortT, DL.eAddS, DL.eInS, DL.eLenS, DL.wSlS, DL.wI2, DL.evd_mx, DL.evd_mn, DL.evd_gcd, DL.wIStr, DL.wIEnumS, DL.wFun, DL.wWord, DL.wWordV, DL.wCallX, DL.wRaise, DL.wWordG, DL.wWordVG, DL.wRaiseI, DL.eJnL, DL.eJnT, DL.wJoin, DL.eStrI, DL.eIntS, DL.strsD_map]
    exact hP
theorem deep_lt : ∀ (x : List Nat) (k : Int) (j i : Nat), deepAt k j x = some i → i < j + x.length
  | [], k, j, i, h => by cases h
  | c :: x, k, j, i, h => by
    rw [deepAt] at h
    rw [List.length_cons]
    split at h
    · split at h
      · cases h; omega
      · have := deep_lt x _ _ _ h; omega
    · split at h
      · have := deep_lt x _ _ _ h; omega
      · have := deep_lt x _ _ _ h; omega
namespace GB
mutual
theorem np_g : ∀ g : G, NP (gD g)
  | .mk l r => by
    rw [gD]
    refine .tup _ fun d hd => ?_
    rcases List.mem_cons.mp hd with rfl | hd
    · exact .tup _ (np_gs l)
    · rw [List.mem_singleton.mp hd]
      exact .tup _ (np_gs r)
theorem np_gs : ∀ gs : List G, ∀ d ∈ gsD gs, NP d
  | [] => fun d h => by rw [gsD] at h; cases h
  | g :: gs => fun d h => by
    rw [gsD] at h
    rcases List.mem_cons.mp h with rfl | h
    · exact np_g g
    · exact np_gs gs d h
end
def RdG (C1 C2 : Addr) (P : Vl → En → Prop) (R : ExP) : RR → Prop
  | .out => False
  | .err n => R C1 [("place", .int ((n : Nat) : Int))] [none]
  | .ok g => szD (gD g) ≤ 90000 ∧ (gameB (gD g) = true → P (.dat (gD g)) [none]) ∧ (gameB (gD g) = false → R C2 [("most", .int 2000)] [none])
def FX_read_from (T : Txt K mg) : FXp := FX_rf 60 T
def FX_read (T : Txt K mg) : FXp := fun args P R => ∃ d : PyData, args = [some (.dat d)] ∧ NP d ∧ ((tyD d ≠ "str" ∧ R T.C_NotText [] [none]) ∨ ∃ x : List Nat, d = .str (stC x) ∧ x.length ≤ 40000 ∧ CdOk x ∧ RdG T.C_InvalidText T.C_TooLarge P R (readR x))
theorem okX_read {k : Nat} (T : Txt K mg) (G_too_deep : FnOk P w K mg base CX0 (k + 1) T.a_too_deep T.d_too_deep ["text"] (spD K F_too_deep)) (G_is_game : FnOk P w K mg base CX0 (k + 1) T.a_is_game T.d_is_game ["value"] (spD K F_is_game)) (GX_read_from : FnOk P w K mg base (L2.CX P w) (k + 1) T.a_read_from T.d_read_from ["text", "at"] (spX K (FX_read_from T))) (I_TooLarge___init__ : FnOk P w K mg base (L2.CX P w) k T.a_TooLarge___init__ T.d_TooLarge___init__ ["self", "most"] (LamY.spKeep K "most")) (I_InvalidText___init__ : FnOk P w K mg base (L2.CX P w) k T.a_InvalidText___init__ T.d_InvalidText___init__ ["self", "place"] (LamY.spKeep K "place")) : FnOk P w K mg base (L2.CX P w) (k + 2) T.a_read T.d_read ["text"] (spX K (FX_read T)) := by
  refine (fun (hA : ∀ args P R, (FX_read T) args P R → args.length = 1) => T.F_read.okE (sp := spX K (FX_read T)) sc_read (fun vs H Q E h => spX_len hA h) (fun cdv A outer s H vs Q E hr h => ⟨_, (pss_cons (ps_if (pt_not (pt_val (pe_callB (call_isiX (K := K) rfl) rfl T.m_isinstance (by decide +kernel) (pa_cons (pv 0) (pa_cons (pe_bltn (v := .ty "str") (u := .type "str") rfl T.m_str (by decide +kernel) rfl) pa_nil)))))
  (pss_one (ps_raiseN T.gx_NotText T.xi_NotText T.kx_NotText T.bx_NotText T.tx_NotText))
  pss_nil)
  (pss_cons (ps_set (i := 1) sc_read.nd rfl (Or.inl rfl) (pe_call G_too_deep hr rfl T.g_too_deep T.F_too_deep.kp T.b_too_deep .nil pass0 (pa_cons (pv 0) pa_nil)))
  (pss_cons (ps_asg (pe_call GX_read_from hr rfl T.g_read_from T.F_read_from.kp T.b_read_from .nil (passes_call (takes_of rfl rfl rfl rfl) (fun _ _ _ _ h => h)) (pa_cons (pe_ifExp (pt_cmpR op_isN (pv 1) pe_non (nomark _)) (pv 0) (pe_op op_add_str (pe_slice sl_str (pv 0) po_none (po_some (pv 1))) pe_str)) (pa_cons pe_int pa_nil))) (pg_tupK (K := K) (n := 2) rfl rfl (pgs_cons (pg_name (i := 2) sc_read.nd rfl (Or.inl rfl)) (pgs_cons (pg_name (i := 3) sc_read.nd rfl (Or.inl rfl)) pgs_nil))))
  (pss_cons (ps_if (pt_cmpR op_lt (pv 3) (pe_callB call_len_str rfl T.m_len PySem.boot_len (pa_cons (pv 0) pa_nil)) (nomark _))
  (pss_one (ps_raise rfl (takes_of rfl rfl rfl rfl) (pmk_oex T.ox_InvalidText.ok T.ic_InvalidText T.ti_InvalidText (I_InvalidText___init__) (hr.mono (Nat.le_refl _)) T.b_InvalidText___init__ .nil (passes_call (takes_of rfl rfl rfl rfl) (fun _ _ _ _ h => h.elim)) rfl T.gx_InvalidText (pa_cons (pv 3) pa_nil))))
  pss_nil)
  (pss_cons (ps_if (pt_not (pt_val (pe_call G_is_game hr rfl T.g_is_game T.F_is_game.kp T.b_is_game .nil pass0 (pa_cons (pv 2) pa_nil))))
  (pss_one (ps_raise rfl (takes_of rfl rfl rfl rfl) (pmk_oex T.ox_TooLarge.ok T.ic_TooLarge T.ti_TooLarge (I_TooLarge___init__) (hr.mono (Nat.le_refl _)) T.b_TooLarge___init__ .nil (passes_call (takes_of rfl rfl rfl rfl) (fun _ _ _ _ h => h.elim)) rfl T.gx_TooLarge (pa_cons (pe_glob (v := .int 2000) rfl T.c_MOST_GAME_NODES ⟨_, rfl⟩) pa_nil))))
  pss_nil)
  (pss_one (ps_ret (pv 2)))))))), fnX_run (N := ["text", "deep", "game", "at"]) h (fun A' Hz' R' hE => (ss_seq (ss_if (st_not (st_B (se_isi rfl se_var)))
  (ss_raise hE)
  ss_next)
  (ss_seq (ss_asg (se_call (sa_cons se_var sa_nil)) sg_name)
  (ss_cut (ss_asg (se_callX hE (sa_cons (se_if (st_test (se_op sr_isN se_var se_non)) se_var (se_op sr_addS (se_slS se_var so_none (so_some se_var)) se_str)) (sa_cons se_int sa_nil))) (sg_tup (sgs_cons sg_name (sgs_cons sg_name sgs_nil))))
  (ss_seq (ss_if (st_test (se_op (sr_I0 (fun _ _ => rfl)) se_var (se_cb1 sc_lenS se_var)))
  (ss_raiseI (x := "place") T.ox_InvalidText.ok T.no_InvalidText hE (sa_cons se_var sa_nil))
  ss_next)
  (ss_seq (ss_if (st_not (st_B (se_call (sa_cons se_var sa_nil))))
  (ss_raiseI (x := "most") T.ox_TooLarge.ok T.no_TooLarge hE (sa_cons se_int sa_nil))
  ss_next)
  (ss_ret se_var))))))) (fun args P R hl hF => ?_) (by rw [spX_len hA h]; exact Nat.le_of_ble_eq_true rfl)⟩)) (fun args P R hF => ?_)
  rotate_left
  · obtain ⟨d, rfl, _⟩ := hF
    rfl
  obtain ⟨d, rfl, hnp, hF⟩ := hF
  simp -implicitDefEqProofs only [DL.WW, List.isEmpty_nil, List.lookup_cons, List.lookup_nil, List.map, List.length, List.length_cons, List.length_nil, List.length_set, List.replicate, List.append, List.cons_append, List.nil_append, List.append_nil, List.getElem?_cons_zero, List.getElem?_cons_succ, List.getElem?_nil, List.set_cons_zero, List.set_cons_succ, ↓reduceIte, Bool.false_eq_true, Bool.not_true, Bool.not_false, Bool.true_and, Bool.false_and, Bool.and_true, Bool.and_false, Bool.or_true, Bool.or_false, Bool.true_or, Bool.false_or, Nat.reduceAdd, Nat.reduceSub, Nat.reduceLT, Nat.reduceLeDiff, true_and, and_true, and_self, decide_eq_true_eq, Nat.zero_lt_succ, Nat.lt_add_left_iff_pos, beq_self_eq_true, String.reduceBEq, String.reduceEq, Nat.le_refl, Nat.zero_le, Bool.true_eq_false, decide_true, decide_false, Int.reduceEq, Int.reduceLT, Int.reduceLE, Int.reduceSub, Int.reduceAdd, DL.wIfT, DL.wListRg, DL.eSortT, DL.eAddS, DL.eInS, DL.eLenS, DL.wSlS, DL.wI2, DL.evd_mx, DL.evd_mn, DL.evd_gcd, DL.wIStr, DL.wIEnumS, DL.wFun, DL.wWord, DL.wWordV, DL.wCallX, DL.wRaise, DL.wWordG, DL.wWordVG, DL.wRaiseI, DL.eJnL, DL.eJnT, DL.wJoin, DL.eStrI, DL.eIntS, DL.strsD_map]
  refine ⟨hnp.ptr, ?_⟩
  rcases hF with ⟨h1, h2⟩ | ⟨x, rfl, hx, hcd, hG⟩
  · have : (!tyD d == "str") = true := by rw [beq_eq_false_iff_ne.mpr h1]; rfl
    rw [if_pos this]
    exact h2
  · have xl : x.length ≤ sizeLine := Nat.le_trans hx (by decide)
    simp -implicitDefEqProofs only [DL.WW, List.isEmpty_nil, List.lookup_cons, List.lookup_nil, List.map, List.length, List.length_cons, List.length_nil, List.length_set, List.replicate, List.append, List.cons_append, List.nil_append, List.append_nil, List.getElem?_cons_zero, List.getElem?_cons_succ, List.getElem?_nil, List.set_cons_zero, List.set_cons_succ, ↓reduceIte, Bool.false_eq_true, Bool.not_true, Bool.not_false, Bool.true_and, Bool.false_and, Bool.and_true, Bool.and_false, Bool.or_true, Bool.or_false, Bool.true_or, Bool.false_or, Nat.reduceAdd, Nat.reduceSub, Nat.reduceLT, Nat.reduceLeDiff, true_and, and_true, and_self, decide_eq_true_eq, Nat.zero_lt_succ, Nat.lt_add_left_iff_pos, beq_self_eq_true, String.reduceBEq, String.reduceEq, Nat.le_refl, Nat.zero_le, Bool.true_eq_false, decide_true, decide_false, Int.reduceEq, Int.reduceLT, Int.reduceLE, Int.reduceSub, Int.reduceAdd, DL.wIfT, DL.wListRg, DL.eSortT, DL.eAddS, DL.eInS, DL.eLenS, DL.wSlS, DL.wI2, DL.evd_mx, DL.evd_mn, DL.evd_gcd, DL.wIStr, DL.wIEnumS, DL.wFun, DL.wWord, DL.wWordV, DL.wCallX, DL.wRaise, DL.wWordG, DL.wWordVG, DL.wRaiseI, DL.eJnL, DL.eJnT, DL.wJoin, DL.eStrI, DL.eIntS, DL.strsD_map]
    refine ⟨x, rfl, by omega, hcd, ?_⟩
    simp -implicitDefEqProofs only [DL.WW, List.isEmpty_nil, List.lookup_cons, List.lookup_nil, List.map, List.length, List.length_cons, List.length_nil, List.length_set, List.replicate, List.append, List.cons_append, List.nil_append, List.append_nil, List.getElem?_cons_zero, List.getElem?_cons_succ, List.getElem?_nil, List.set_cons_zero, List.set_cons_succ, ↓reduceIte, Bool.false_eq_true, Bool.not_true, Bool.not_false, Bool.true_and, Bool.false_and, Bool.and_true, Bool.and_false, Bool.or_true, Bool.or_false, Bool.true_or, Bool.false_or, Nat.reduceAdd, Nat.reduceSub, Nat.reduceLT, Nat.reduceLeDiff, true_and, and_true, and_self, decide_eq_true_eq, Nat.zero_lt_succ, Nat.lt_add_left_iff_pos, beq_self_eq_true, String.reduceBEq, String.reduceEq, Nat.le_refl, Nat.zero_le, Bool.true_eq_false, decide_true, decide_false, Int.reduceEq, Int.reduceLT, Int.reduceLE, Int.reduceSub, Int.reduceAdd, DL.wIfT, DL.wListRg, DL.eSortT, DL.eAddS, DL.eInS, DL.eLenS, DL.wSlS, DL.wI2, DL.evd_mx, DL.evd_mn, DL.evd_gcd, DL.wIStr, DL.wIEnumS, DL.wFun, DL.wWord, DL.wWordV, DL.wCallX, DL.wRaise, DL.wWordG, DL.wWordVG, DL.wRaiseI, DL.eJnL, DL.eJnT, DL.wJoin, DL.eStrI, DL.eIntS, DL.strsD_map]
    unfold readR at hG
    have hcl : (cutX x).length ≤ 50000 ∧ CdOk (cutX x) := by
      unfold cutX
      cases hdp : deepAt 0 0 x with
      | none => exact ⟨by dsimp only; omega, hcd⟩
      | some i =>
        have := deep_lt x _ _ _ hdp
        dsimp only
        refine ⟨by rw [List.length_append, List.length_take, List.length_singleton]; omega, fun c hc => ?_⟩
        rcases List.mem_append.mp hc with h | h
        · exact hcd c (List.mem_of_mem_take h)
        · rw [List.mem_singleton.mp h]; decide
    refine cut_use (fun e => ∃ (z : PyData) (g : G) (r : List Nat), rf 60 (cutX x) = .ok g r ∧ e = [some (.dat (.str (stC x))), some (.dat z), some (.dat (gD g)), some (.dat (.int (((cutX x).length - r.length : Nat) : Int)))]) ?_ ?_
    · have call : ∀ (y : List Nat) (P2 : Vl → En → Prop) (R2 : ExP), y = cutX x → Gv y [none, none] gD T.C_InvalidText P2 R2 (rf 60 y) → FX_read_from T [some (.dat (.str (stC y))), some (.dat (.int 0))] P2 R2 := fun y P2 R2 hy h => ⟨y, y, 0, rfl, by subst hy; exact ⟨hcl.1, hcl.2, Nat.zero_le _⟩, rfl, h⟩
      cases hdp : deepAt 0 0 x with
      | none =>
        have hcut : x = cutX x := by unfold cutX; rw [hdp]
        simp -implicitDefEqProofs only [DL.WW, List.isEmpty_nil, List.lookup_cons, List.lookup_nil, List.map, List.length, List.length_cons, List.length_nil, List.length_set, List.replicate, List.append, List.cons_append, List.nil_append, List.append_nil, List.getElem?_cons_zero, List.getElem?_cons_succ, List.getElem?_nil, List.set_cons_zero, List.set_cons_succ, ↓reduceIte, Bool.false_eq_true, Bool.not_true, Bool.not_false, Bool.true_and, Bool.false_and, Bool.and_true, Bool.and_false, Bool.or_true, Bool.or_false, Bool.true_or, Bool.false_or, Nat.reduceAdd, Nat.reduceSub, Nat.reduceLT, Nat.reduceLeDiff, true_and, and_true, and_self, decide_eq_true_eq, Nat.zero_lt_succ, Nat.lt_add_left_iff_pos, beq_self_eq_true, String.reduceBEq, String.reduceEq, Nat.le_refl, Nat.zero_le, Bool.true_eq_false, decide_true, decide_false, Int.reduceEq, Int.reduceLT, Int.reduceLE, Int.reduceSub, Int.reduceAdd, DL.wIfT, DL.wListRg, DL.eSortT, DL.eAddS, DL.eInS, DL.eLenS, DL.wSlS, DL.wI2, DL.evd_mx, DL.evd_mn, DL.evd_gcd, DL.wIStr, DL.wIEnumS, DL.wFun, DL.wWord, DL.wWordV, DL.wCallX, DL.wRaise, DL.wWordG, DL.wWordVG, DL.wRaiseI, DL.eJnL, DL.eJnT, DL.wJoin, DL.eStrI, DL.eIntS, DL.strsD_map, opN]
        refine call x _ _ hcut ?_
        rw [← hcut] at hG ⊢
        generalize rf 60 x = z at hG ⊢
        cases z with
        | out => exact hG.elim
        | err n => exact hG
        | ok g r =>
          dsimp only [Gv]
          simp -implicitDefEqProofs only [DL.WW, List.isEmpty_nil, List.lookup_cons, List.lookup_nil, List.map, List.length, List.length_cons, List.length_nil, List.length_set, List.replicate, List.append, List.cons_append, List.nil_append, List.append_nil, List.getElem?_cons_zero, List.getElem?_cons_succ, List.getElem?_nil, List.set_cons_zero, List.set_cons_succ, ↓reduceIte, Bool.false_eq_true, Bool.not_true, Bool.not_false, Bool.true_and, Bool.false_and, Bool.and_true, Bool.and_false, Bool.or_true, Bool.or_false, Bool.true_or, Bool.false_or, Nat.reduceAdd, Nat.reduceSub, Nat.reduceLT, Nat.reduceLeDiff, true_and, and_true, and_self, decide_eq_true_eq, Nat.zero_lt_succ, Nat.lt_add_left_iff_pos, beq_self_eq_true, String.reduceBEq, String.reduceEq, Nat.le_refl, Nat.zero_le, Bool.true_eq_false, decide_true, decide_false, Int.reduceEq, Int.reduceLT, Int.reduceLE, Int.reduceSub, Int.reduceAdd, DL.wIfT, DL.wListRg, DL.eSortT, DL.eAddS, DL.eInS, DL.eLenS, DL.wSlS, DL.wI2, DL.evd_mx, DL.evd_mn, DL.evd_gcd, DL.wIStr, DL.wIEnumS, DL.wFun, DL.wWord, DL.wWordV, DL.wCallX, DL.wRaise, DL.wWordG, DL.wWordVG, DL.wRaiseI, DL.eJnL, DL.eJnT, DL.wJoin, DL.eStrI, DL.eIntS, DL.strsD_map]
          exact ⟨_, g, r, rfl, rfl⟩
      | some i =>
        have := deep_lt x _ _ _ hdp
        have hcut : x.take i ++ [63] = cutX x := by unfold cutX; rw [hdp]
        have eq : Str.ofString "?" = stC [63] := by decide +kernel
        simp -implicitDefEqProofs only [DL.WW, List.isEmpty_nil, List.lookup_cons, List.lookup_nil, List.map, List.length, List.length_cons, List.length_nil, List.length_set, List.replicate, List.append, List.cons_append, List.nil_append, List.append_nil, List.getElem?_cons_zero, List.getElem?_cons_succ, List.getElem?_nil, List.set_cons_zero, List.set_cons_succ, ↓reduceIte, Bool.false_eq_true, Bool.not_true, Bool.not_false, Bool.true_and, Bool.false_and, Bool.and_true, Bool.and_false, Bool.or_true, Bool.or_false, Bool.true_or, Bool.false_or, Nat.reduceAdd, Nat.reduceSub, Nat.reduceLT, Nat.reduceLeDiff, true_and, and_true, and_self, decide_eq_true_eq, Nat.zero_lt_succ, Nat.lt_add_left_iff_pos, beq_self_eq_true, String.reduceBEq, String.reduceEq, Nat.le_refl, Nat.zero_le, Bool.true_eq_false, decide_true, decide_false, Int.reduceEq, Int.reduceLT, Int.reduceLE, Int.reduceSub, Int.reduceAdd, DL.wIfT, DL.wListRg, DL.eSortT, DL.eAddS, DL.eInS, DL.eLenS, DL.wSlS, DL.wI2, DL.evd_mx, DL.evd_mn, DL.evd_gcd, DL.wIStr, DL.wIEnumS, DL.wFun, DL.wWord, DL.wWordV, DL.wCallX, DL.wRaise, DL.wWordG, DL.wWordVG, DL.wRaiseI, DL.eJnL, DL.eJnT, DL.wJoin, DL.eStrI, DL.eIntS, DL.strsD_map, opN, eq]
        have ecut : cutS (stC x) none (some ((i : Nat) : Int)) = stC (x.take i) := by
          rw [stC_cut, HT.sIx_nat, Nat.min_eq_left (by omega)]
          rfl
        rw [ecut, stC_app, hcut, stC_len, stC_len, stC_len]
        refine ⟨xl, by rw [List.length_take]; have : (50000 : Nat) ≤ sizeLine := (by decide); simp; omega, ?_⟩
        refine call _ _ _ rfl ?_
        generalize rf 60 (cutX x) = z at hG ⊢
        cases z with
        | out => exact hG.elim
        | err n => exact hG
        | ok g r =>
          dsimp only [Gv]
          simp -implicitDefEqProofs only [DL.WW, List.isEmpty_nil, List.lookup_cons, List.lookup_nil, List.map, List.length, List.length_cons, List.length_nil, List.length_set, List.replicate, List.append, List.cons_append, List.nil_append, List.append_nil, List.getElem?_cons_zero, List.getElem?_cons_succ, List.getElem?_nil, List.set_cons_zero, List.set_cons_succ, ↓reduceIte, Bool.false_eq_true, Bool.not_true, Bool.not_false, Bool.true_and, Bool.false_and, Bool.and_true, Bool.and_false, Bool.or_true, Bool.or_false, Bool.true_or, Bool.false_or, Nat.reduceAdd, Nat.reduceSub, Nat.reduceLT, Nat.reduceLeDiff, true_and, and_true, and_self, decide_eq_true_eq, Nat.zero_lt_succ, Nat.lt_add_left_iff_pos, beq_self_eq_true, String.reduceBEq, String.reduceEq, Nat.le_refl, Nat.zero_le, Bool.true_eq_false, decide_true, decide_false, Int.reduceEq, Int.reduceLT, Int.reduceLE, Int.reduceSub, Int.reduceAdd, DL.wIfT, DL.wListRg, DL.eSortT, DL.eAddS, DL.eInS, DL.eLenS, DL.wSlS, DL.wI2, DL.evd_mx, DL.evd_mn, DL.evd_gcd, DL.wIStr, DL.wIEnumS, DL.wFun, DL.wWord, DL.wWordV, DL.wCallX, DL.wRaise, DL.wWordG, DL.wWordVG, DL.wRaiseI, DL.eJnL, DL.eJnT, DL.wJoin, DL.eStrI, DL.eIntS, DL.strsD_map]
          exact ⟨_, g, r, rfl, rfl⟩
    rintro e ⟨z, g, r, hrf, rfl⟩
    rw [hrf] at hG
    dsimp only at hG
    simp -implicitDefEqProofs only [DL.WW, List.isEmpty_nil, List.lookup_cons, List.lookup_nil, List.map, List.length, List.length_cons, List.length_nil, List.length_set, List.replicate, List.append, List.cons_append, List.nil_append, List.append_nil, List.getElem?_cons_zero, List.getElem?_cons_succ, List.getElem?_nil, List.set_cons_zero, List.set_cons_succ, ↓reduceIte, Bool.false_eq_true, Bool.not_true, Bool.not_false, Bool.true_and, Bool.false_and, Bool.and_true, Bool.and_false, Bool.or_true, Bool.or_false, Bool.true_or, Bool.false_or, Nat.reduceAdd, Nat.reduceSub, Nat.reduceLT, Nat.reduceLeDiff, true_and, and_true, and_self, decide_eq_true_eq, Nat.zero_lt_succ, Nat.lt_add_left_iff_pos, beq_self_eq_true, String.reduceBEq, String.reduceEq, Nat.le_refl, Nat.zero_le, Bool.true_eq_false, decide_true, decide_false, Int.reduceEq, Int.reduceLT, Int.reduceLE, Int.reduceSub, Int.reduceAdd, DL.wIfT, DL.wListRg, DL.eSortT, DL.eAddS, DL.eInS, DL.eLenS, DL.wSlS, DL.wI2, DL.evd_mx, DL.evd_mn, DL.evd_gcd, DL.wIStr, DL.wIEnumS, DL.wFun, DL.wWord, DL.wWordV, DL.wCallX, DL.wRaise, DL.wWordG, DL.wWordVG, DL.wRaiseI, DL.eJnL, DL.eJnT, DL.wJoin, DL.eStrI, DL.eIntS, DL.strsD_map, stC_len]
    refine ⟨xl, ?_⟩
    by_cases hlt : (cutX x).length - r.length < x.length
    · rw [if_pos hlt] at hG
      rw [if_pos (by omega)]
      exact ⟨_, rfl, hG⟩
    rw [if_neg hlt] at hG
    rw [if_neg (by omega)]
    obtain ⟨h1, h2, h3⟩ := hG
    refine ⟨gD g, rfl, np_g g, h1, ?_⟩
    cases hb : gameB (gD g) with
    | true => simp -implicitDefEqProofs only [DL.WW, List.isEmpty_nil, List.lookup_cons, List.lookup_nil, List.map, List.length, List.length_cons, List.length_nil, List.length_set, List.replicate, List.append, List.cons_append, List.nil_append, List.append_nil, List.getElem?_cons_zero, List.getElem?_cons_succ, List.getElem?_nil, List.set_cons_zero, List.set_cons_succ, ↓reduceIte, Bool.false_eq_true, Bool.not_true, Bool.not_false, Bool.true_and, Bool.false_and, Bool.and_true, Bool.and_false, Bool.or_true, Bool.or_false, Bool.true_or, Bool.false_or, Nat.reduceAdd, Nat.reduceSub, Nat.reduceLT, Nat.reduceLeDiff, true_and, and_true, and_self, decide_eq_true_eq, Nat.zero_lt_succ, Nat.lt_add_left_iff_pos, beq_self_eq_true, String.reduceBEq, String.reduceEq, Nat.le_refl, Nat.zero_le, Bool.true_eq_false, decide_true, decide_false, Int.reduceEq, Int.reduceLT, Int.reduceLE, Int.reduceSub, Int.reduceAdd, DL.wIfT, DL.wListRg, DL.eSortT, DL.eAddS, DL.eInS, DL.eLenS, DL.wSlS, DL.wI2, DL.evd_mx, DL.evd_mn, DL.evd_gcd, DL.wIStr, DL.wIEnumS, DL.wFun, DL.wWord, DL.wWordV, DL.wCallX, DL.wRaise, DL.wWordG, DL.wWordVG, DL.wRaiseI, DL.eJnL, DL.eJnT, DL.wJoin, DL.eStrI, DL.eIntS, DL.strsD_map]; exact h2 hb
    | false => simp -implicitDefEqProofs only [DL.WW, List.isEmpty_nil, List.lookup_cons, List.lookup_nil, List.map, List.length, List.length_cons, List.length_nil, List.length_set, List.replicate, List.append, List.cons_append, List.nil_append, List.append_nil, List.getElem?_cons_zero, List.getElem?_cons_succ, List.getElem?_nil, List.set_cons_zero, List.set_cons_succ, ↓reduceIte, Bool.false_eq_true, Bool.not_true, Bool.not_false, Bool.true_and, Bool.false_and, Bool.and_true, Bool.and_false, Bool.or_true, Bool.or_false, Bool.true_or, Bool.false_or, Nat.reduceAdd, Nat.reduceSub, Nat.reduceLT, Nat.reduceLeDiff, true_and, and_true, and_self, decide_eq_true_eq, Nat.zero_lt_succ, Nat.lt_add_left_iff_pos, beq_self_eq_true, String.reduceBEq, String.reduceEq, Nat.le_refl, Nat.zero_le, Bool.true_eq_false, decide_true, decide_false, Int.reduceEq, Int.reduceLT, Int.reduceLE, Int.reduceSub, Int.reduceAdd, DL.wIfT, DL.wListRg, DL.eSortT, DL.eAddS, DL.eInS, DL.eLenS, DL.wSlS, DL.wI2, DL.evd_mx, DL.evd_mn, DL.evd_gcd, DL.wIStr, DL.wIEnumS, DL.wFun, DL.wWord, DL.wWordV, DL.wCallX, DL.wRaise, DL.wWordG, DL.wWordVG, DL.wRaiseI, DL.eJnL, DL.eJnT, DL.wJoin, DL.eStrI, DL.eIntS, DL.strsD_map]; exact ⟨_, rfl, h3 hb⟩
def FX_need_game (T : Txt K mg) : FXp := fun args P R => ∃ d : PyData, args = [some (.dat d)] ∧ NP d ∧ szD d ≤ 90000 ∧ gameB d = false ∧ R T.C_BadGame [] [none]
theorem okX_need_game {k : Nat} (T : Txt K mg) (G_is_game : FnOk P w K mg base CX0 k T.a_is_game T.d_is_game ["value"] (spD K F_is_game)) : FnOk P w K mg base (L2.CX P w) (k + 1) T.a_need_game T.d_need_game ["value"] (spX K (FX_need_game T)) := by
  refine (fun (hA : ∀ args P R, (FX_need_game T) args P R → args.length = 1) => T.F_need_game.okE (sp := spX K (FX_need_game T)) sc_need_game (fun vs H Q E h => spX_len hA h) (fun cdv A outer s H vs Q E hr h => ⟨_, (pss_one (ps_if (pt_not (pt_val (pe_call G_is_game hr rfl T.g_is_game T.F_is_game.kp T.b_is_game .nil pass0 (pa_cons (pv 0) pa_nil))))
  (pss_one (ps_raiseN T.gx_BadGame T.xi_BadGame T.kx_BadGame T.bx_BadGame T.tx_BadGame))
  pss_nil)), fnX_run (N := ["value"]) h (fun A' Hz' R' hE => (ss_if (st_not (st_B (se_call (sa_cons se_var sa_nil))))
  (ss_raise hE)
  ss_next)) (fun args P R hl hF => ?_) (by rw [spX_len hA h]; exact Nat.le_of_ble_eq_true rfl)⟩)) (fun args P R hF => ?_)
  rotate_left
  · obtain ⟨d, rfl, _⟩ := hF
    rfl
  obtain ⟨d, rfl, h1, h2, h3, q⟩ := hF
  simp -implicitDefEqProofs only [DL.WW, List.isEmpty_nil, List.lookup_cons, List.lookup_nil, List.map, List.length, List.length_cons, List.length_nil, List.length_set, List.replicate, List.append, List.cons_append, List.nil_append, List.append_nil, List.getElem?_cons_zero, List.getElem?_cons_succ, List.getElem?_nil, List.set_cons_zero, List.set_cons_succ, ↓reduceIte, Bool.false_eq_true, Bool.not_true, Bool.not_false, Bool.true_and, Bool.false_and, Bool.and_true, Bool.and_false, Bool.or_true, Bool.or_false, Bool.true_or, Bool.false_or, Nat.reduceAdd, Nat.reduceSub, Nat.reduceLT, Nat.reduceLeDiff, true_and, and_true, and_self, decide_eq_true_eq, Nat.zero_lt_succ, Nat.lt_add_left_iff_pos, beq_self_eq_true, String.reduceBEq, String.reduceEq, Nat.le_refl, Nat.zero_le, Bool.true_eq_false, decide_true, decide_false, Int.reduceEq, Int.reduceLT, Int.reduceLE, Int.reduceSub, Int.reduceAdd, DL.wIfT, DL.wListRg, DL.eSortT, DL.eAddS, DL.eInS, DL.eLenS, DL.wSlS, DL.wI2, DL.evd_mx, DL.evd_mn, DL.evd_gcd, DL.wIStr, DL.wIEnumS, DL.wFun, DL.wWord, DL.wWordV, DL.wCallX, DL.wRaise, DL.wWordG, DL.wWordVG, DL.wRaiseI, DL.eJnL, DL.eJnT, DL.wJoin, DL.eStrI, DL.eIntS, DL.strsD_map]
  refine ⟨d, rfl, h1, h2, ?_⟩
  rw [h3]
  simp -implicitDefEqProofs only [DL.WW, List.isEmpty_nil, List.lookup_cons, List.lookup_nil, List.map, List.length, List.length_cons, List.length_nil, List.length_set, List.replicate, List.append, List.cons_append, List.nil_append, List.append_nil, List.getElem?_cons_zero, List.getElem?_cons_succ, List.getElem?_nil, List.set_cons_zero, List.set_cons_succ, ↓reduceIte, Bool.false_eq_true, Bool.not_true, Bool.not_false, Bool.true_and, Bool.false_and, Bool.and_true, Bool.and_false, Bool.or_true, Bool.or_false, Bool.true_or, Bool.false_or, Nat.reduceAdd, Nat.reduceSub, Nat.reduceLT, Nat.reduceLeDiff, true_and, and_true, and_self, decide_eq_true_eq, Nat.zero_lt_succ, Nat.lt_add_left_iff_pos, beq_self_eq_true, String.reduceBEq, String.reduceEq, Nat.le_refl, Nat.zero_le, Bool.true_eq_false, decide_true, decide_false, Int.reduceEq, Int.reduceLT, Int.reduceLE, Int.reduceSub, Int.reduceAdd, DL.wIfT, DL.wListRg, DL.eSortT, DL.eAddS, DL.eInS, DL.eLenS, DL.wSlS, DL.wI2, DL.evd_mx, DL.evd_mn, DL.evd_gcd, DL.wIStr, DL.wIEnumS, DL.wFun, DL.wWord, DL.wWordV, DL.wCallX, DL.wRaise, DL.wWordG, DL.wWordVG, DL.wRaiseI, DL.eJnL, DL.eJnT, DL.wJoin, DL.eStrI, DL.eIntS, DL.strsD_map]
  exact q
def FX_write (T : Txt K mg) : FXp := FX_need_game T
theorem okX_write {k : Nat} (T : Txt K mg) (GX_need_game : FnOk P w K mg base (L2.CX P w) k T.a_need_game T.d_need_game ["value"] (spX K (FX_need_game T))) : FnOk P w K mg base (L2.CX P w) (k + 1) T.a_write T.d_write ["game"] (spX K (FX_write T)) := by
  refine (fun (hA : ∀ args P R, (FX_write T) args P R → args.length = 1) => T.F_write.okE (sp := spX K (FX_write T)) sc_write (fun vs H Q E h => spX_len hA h) (fun cdv A outer s H vs Q E hr h => ⟨_, (pss_cons (ps_expr (pe_call GX_need_game hr rfl T.g_need_game T.F_need_game.kp T.b_need_game .nil (passes_call (takes_of rfl rfl rfl rfl) (fun _ _ _ _ h => h)) (pa_cons (pv 0) pa_nil)))
  pss_never), fnX_run (N := ["game"]) h (fun A' Hz' R' hE => (ss_seq (ss_drop (se_callX hE (sa_cons se_var sa_nil)))
  ss_never)) (fun args P R hl hF => ?_) (by rw [spX_len hA h]; exact Nat.le_of_ble_eq_true rfl)⟩)) (fun args P R hF => ?_)
  rotate_left
  · obtain ⟨d, rfl, _⟩ := hF
    rfl
  obtain ⟨d, rfl, h1, h2, h3, q⟩ := hF
  simp -implicitDefEqProofs only [DL.WW, List.isEmpty_nil, List.lookup_cons, List.lookup_nil, List.map, List.length, List.length_cons, List.length_nil, List.length_set, List.replicate, List.append, List.cons_append, List.nil_append, List.append_nil, List.getElem?_cons_zero, List.getElem?_cons_succ, List.getElem?_nil, List.set_cons_zero, List.set_cons_succ, ↓reduceIte, Bool.false_eq_true, Bool.not_true, Bool.not_false, Bool.true_and, Bool.false_and, Bool.and_true, Bool.and_false, Bool.or_true, Bool.or_false, Bool.true_or, Bool.false_or, Nat.reduceAdd, Nat.reduceSub, Nat.reduceLT, Nat.reduceLeDiff, true_and, and_true, and_self, decide_eq_true_eq, Nat.zero_lt_succ, Nat.lt_add_left_iff_pos, beq_self_eq_true, String.reduceBEq, String.reduceEq, Nat.le_refl, Nat.zero_le, Bool.true_eq_false, decide_true, decide_false, Int.reduceEq, Int.reduceLT, Int.reduceLE, Int.reduceSub, Int.reduceAdd, DL.wIfT, DL.wListRg, DL.eSortT, DL.eAddS, DL.eInS, DL.eLenS, DL.wSlS, DL.wI2, DL.evd_mx, DL.evd_mn, DL.evd_gcd, DL.wIStr, DL.wIEnumS, DL.wFun, DL.wWord, DL.wWordV, DL.wCallX, DL.wRaise, DL.wWordG, DL.wWordVG, DL.wRaiseI, DL.eJnL, DL.eJnT, DL.wJoin, DL.eStrI, DL.eIntS, DL.strsD_map]
  refine ⟨d, rfl, h1, h2, h3, ?_⟩
  simp -implicitDefEqProofs only [DL.WW, List.isEmpty_nil, List.lookup_cons, List.lookup_nil, List.map, List.length, List.length_cons, List.length_nil, List.length_set, List.replicate, List.append, List.cons_append, List.nil_append, List.append_nil, List.getElem?_cons_zero, List.getElem?_cons_succ, List.getElem?_nil, List.set_cons_zero, List.set_cons_succ, ↓reduceIte, Bool.false_eq_true, Bool.not_true, Bool.not_false, Bool.true_and, Bool.false_and, Bool.and_true, Bool.and_false, Bool.or_true, Bool.or_false, Bool.true_or, Bool.false_or, Nat.reduceAdd, Nat.reduceSub, Nat.reduceLT, Nat.reduceLeDiff, true_and, and_true, and_self, decide_eq_true_eq, Nat.zero_lt_succ, Nat.lt_add_left_iff_pos, beq_self_eq_true, String.reduceBEq, String.reduceEq, Nat.le_refl, Nat.zero_le, Bool.true_eq_false, decide_true, decide_false, Int.reduceEq, Int.reduceLT, Int.reduceLE, Int.reduceSub, Int.reduceAdd, DL.wIfT, DL.wListRg, DL.eSortT, DL.eAddS, DL.eInS, DL.eLenS, DL.wSlS, DL.wI2, DL.evd_mx, DL.evd_mn, DL.evd_gcd, DL.wIStr, DL.wIEnumS, DL.wFun, DL.wWord, DL.wWordV, DL.wCallX, DL.wRaise, DL.wWordG, DL.wWordVG, DL.wRaiseI, DL.eJnL, DL.eJnT, DL.wJoin, DL.eStrI, DL.eIntS, DL.strsD_map]
  exact q
theorem okX_none {k : Nat} {F : FXp} (h : ∀ args P R, ¬ F args P R) {a : Addr} {d : FuncData} {ps : List Str} : FnOk P w K mg base (L2.CX P w) k a d ps (spX K F) :=
  ⟨fun _ _ _ _ hs => by obtain ⟨args, A, Hz, P, R, y, hl, hF, hQ⟩ := hs; exact absurd hF (h _ _ _), fun _ _ _ _ _ _ _ _ _ _ _ _ _ hs => by obtain ⟨args, A, Hz, P, R, y, hl, hF, hQ⟩ := hs; exact absurd hF (h _ _ _)⟩
theorem ok_reads {k : Nat} (T : Txt K mg) (I : FnOk P w K mg base (L2.CX P w) k T.a_InvalidText___init__ T.d_InvalidText___init__ ["self", "place"] (LamY.spKeep K "place")) (GX_read_number : FnOk P w K mg base (L2.CX P w) (k + 1) T.a_read_number T.d_read_number ["text", "start"] (spX K (FX_read_number T))) (GX_read_star : FnOk P w K mg base (L2.CX P w) (k + 1) T.a_read_star T.d_read_star ["text", "start"] (spX K (FX_read_star T))) :
    ∀ d, FnOk P w K mg base (L2.CX P w) (k + 2 + 2 * d) T.a_read_from T.d_read_from ["text", "at"] (spX K (FX_rf d T))
  | 0 => okX_read_from (d := 0) (k := k) (FX_read_side := fun _ _ _ _ => False) (fun T d h => by cases h) T (GX_read_number := GX_read_number) (GX_read_star := GX_read_star) (GX_read_side := okX_none fun _ _ _ h => h) I
  | d + 1 => by
    have ih := ok_reads T I GX_read_number GX_read_star d
    have e1 : k + 2 + 2 * d = (k + 1 + 2 * d) + 1 := by omega
    rw [e1] at ih
    have s := okX_read_side (d := d) (FX_read_from := FX_rf d) (fun _ => rfl) T ih (I.mono (by omega))
    have e : k + 2 + 2 * (d + 1) = (k + 2 + 2 * d) + 2 := by omega
    rw [e]
    exact okX_read_from (k := k + 2 + 2 * d) (FX_read_side := FX_rs d) (fun T d' h => by rw [Nat.succ.inj h]) T (GX_read_number := GX_read_number.mono (by omega)) (GX_read_star := GX_read_star.mono (by omega)) (GX_read_side := s.mono (by omega)) (I.mono (by omega))
end GB
end
end K07D


set_option Elab.async false
set_option linter.all false
set_option maxRecDepth 100000
set_option maxHeartbeats 4000000
namespace K07D
open PySem L2 TG DL K07
section
variable {P : Program} {w : World} {K : PySem.W.Frag} {mg : Str → Option Value} {base : Heap}
theorem ok_law_taken {k : Nat} (T : Txt K mg)  : FnOk P w K mg base CX0 (k + 1) T.a_law_taken T.d_law_taken ["_law_row", "_law_many"] (spD K F_law_taken) := by
  refine (fun (hA : ∀ args Pz, F_law_taken args Pz → args.length = 2) => T.F_law_taken.ok (sp := spD K F_law_taken) sc_law_taken (fun vs H Q E h => spD_len hA h) (fun cdv A outer s H vs Q E hr h => ⟨_, (pss_cons (ps_if (pt_cmpR op_gt (pe_ix (ix_listK (K := K) rfl) (pv 0) pe_int (fun _ _ => rfl)) pe_int (nomark _))
  (pss_cons (ps_set (i := 2) sc_law_taken.nd rfl (Or.inl rfl) (pe_op op_mod (pe_callTy call_int1 rfl T.m_int (by decide +kernel) (pa_cons (pe_ix (ix_listK (K := K) rfl) (pv 0) pe_int (fun _ _ => rfl)) pa_nil)) (pv 1)))
  (pss_cons (ps_asg (pe_op op_fdiv (pe_ix (ix_listK (K := K) rfl) (pv 0) pe_int (fun _ _ => rfl)) (pv 1)) (pg_sub (pv 0) pe_int set_list))
  (pss_one (ps_ret (pv 2)))))
  pss_nil)
  (pss_cons (ps_asg (pe_op op_add (pe_ix (ix_listK (K := K) rfl) (pv 0) pe_int (fun _ _ => rfl)) pe_int) (pg_sub (pv 0) pe_int set_list))
  (pss_cons (ps_if (pt_cmpR op_gt (pe_ix (ix_listK (K := K) rfl) (pv 0) pe_int (fun _ _ => rfl)) (pe_callB (call_lenK (K := K) rfl) rfl T.m_len PySem.boot_len (pa_cons (pe_ix (ix_listK (K := K) rfl) (pv 0) pe_int (fun _ _ => rfl)) pa_nil)) (nomark _))
  (pss_cons (ps_asg (pe_op op_mod (pe_callTy call_int1 rfl T.m_int (by decide +kernel) (pa_cons (pe_op op_add (pe_op op_mul (pe_ix (ix_listK (K := K) rfl) (pv 0) pe_int (fun _ _ => rfl)) pe_int) pe_int) pa_nil)) pe_int) (pg_sub (pv 0) pe_int set_list))
  (pss_one (ps_ret (pe_op op_mod (pe_callTy call_int1 rfl T.m_int (by decide +kernel) (pa_cons (pe_op op_fdiv (pe_ix (ix_listK (K := K) rfl) (pv 0) pe_int (fun _ _ => rfl)) pe_int) pa_nil)) (pv 1)))))
  pss_nil)
  (pss_cons (ps_set (i := 3) sc_law_taken.nd rfl (Or.inl rfl) (pe_ix (ix_seqK (K := K) rfl) (pe_ix (ix_listK (K := K) rfl) (pv 0) pe_int (fun _ _ => rfl)) (pe_op op_sub (pe_ix (ix_listK (K := K) rfl) (pv 0) pe_int (fun _ _ => rfl)) pe_int) (fun _ _ => rfl)))
  (pss_cons (ps_asg (pe_op op_mod (pe_callTy call_int1 rfl T.m_int (by decide +kernel) (pa_cons (pe_op op_add (pe_op op_add (pe_op op_mul (pe_ix (ix_listK (K := K) rfl) (pv 0) pe_int (fun _ _ => rfl)) pe_int) (pv 3)) pe_int) pa_nil)) pe_int) (pg_sub (pv 0) pe_int set_list))
  (pss_cons (ps_if (pt_cmpR op_ge (pv 3) (pe_op op_pow pe_int pe_int) (nomark _))
  (pss_one (ps_asg (pe_op op_fdiv (pv 3) (pv 1)) (pg_sub (pv 0) pe_int set_list)))
  pss_nil)
  (pss_one (ps_ret (pe_op op_mod (pe_callTy call_int1 rfl T.m_int (by decide +kernel) (pa_cons (pv 3) pa_nil)) (pv 1)))))))))), fn_run (N := ["_law_row", "_law_many", "_law_found", "_law_cell"]) h (fun A' Hz' => (ss_seq (ss_if (st_test (se_op (sr_I0 (fun _ _ => rfl)) (se_op sr_ixL se_var se_int) se_int))
  (ss_seq (ss_asg (se_op (sr_I (fun _ _ => rfl)) (se_cb1 sc_int (se_op sr_ixL se_var se_int)) se_var) sg_name)
  (ss_seq (ss_asg (se_op (sr_I (fun _ _ => rfl)) (se_op sr_ixL se_var se_int) se_var) (sg_sub se_int))
  (ss_ret se_var)))
  ss_next)
  (ss_seq (ss_asg (se_op (sr_I0 (fun _ _ => rfl)) (se_op sr_ixL se_var se_int) se_int) (sg_sub se_int))
  (ss_seq (ss_if (st_test (se_op (sr_I0 (fun _ _ => rfl)) (se_op sr_ixL se_var se_int) (se_cb1 sc_len (se_op sr_ixL se_var se_int))))
  (ss_seq (ss_asg (se_op (sr_I (fun _ _ => rfl)) (se_cb1 sc_int (se_op (sr_I0 (fun _ _ => rfl)) (se_op (sr_I (fun _ _ => rfl)) (se_op sr_ixL se_var se_int) se_int) se_int)) se_int) (sg_sub se_int))
  (ss_ret (se_op (sr_I (fun _ _ => rfl)) (se_cb1 sc_int (se_op (sr_I (fun _ _ => rfl)) (se_op sr_ixL se_var se_int) se_int)) se_var)))
  ss_next)
  (ss_seq (ss_asg (se_op sr_ix (se_op sr_ixL se_var se_int) (se_op (sr_I0 (fun _ _ => rfl)) (se_op sr_ixL se_var se_int) se_int)) sg_name)
  (ss_seq (ss_asg (se_op (sr_I (fun _ _ => rfl)) (se_cb1 sc_int (se_op (sr_I0 (fun _ _ => rfl)) (se_op (sr_I0 (fun _ _ => rfl)) (se_op (sr_I (fun _ _ => rfl)) (se_op sr_ixL se_var se_int) se_int) se_var) se_int)) se_int) (sg_sub se_int))
  (ss_seq (ss_if (st_test (se_op (sr_I0 (fun _ _ => rfl)) se_var (se_op (sr_I (fun _ _ => rfl)) se_int se_int)))
  (ss_asg (se_op (sr_I (fun _ _ => rfl)) se_var se_var) (sg_sub se_int))
  ss_next)
  (ss_ret (se_op (sr_I (fun _ _ => rfl)) (se_cb1 sc_int se_var) se_var))))))))) (fun args P hl hF => ?_) (by rw [spD_len hA h]; exact Nat.le_of_ble_eq_true rfl)⟩)) (fun args P hF => ?_)
  rotate_left
  · obtain ⟨o, m, rfl, _⟩ := hF
    rfl
  obtain ⟨o, m, rfl, ⟨ns, i, z, t, rfl, h1, h2⟩, ⟨m0, m1⟩, q⟩ := hF
  simp -implicitDefEqProofs only [DL.WW, List.isEmpty_nil, List.lookup_cons, List.lookup_nil, List.map, List.length, List.length_cons, List.length_nil, List.length_set, List.replicate, List.append, List.cons_append, List.nil_append, List.append_nil, List.getElem?_cons_zero, List.getElem?_cons_succ, List.getElem?_nil, List.set_cons_zero, List.set_cons_succ, ↓reduceIte, Bool.false_eq_true, Bool.not_true, Bool.not_false, Bool.true_and, Bool.false_and, Bool.and_true, Bool.and_false, Bool.or_true, Bool.or_false, Bool.true_or, Bool.false_or, Nat.reduceAdd, Nat.reduceSub, Nat.reduceLT, Nat.reduceLeDiff, true_and, and_true, and_self, decide_eq_true_eq, Nat.zero_lt_succ, Nat.lt_add_left_iff_pos, beq_self_eq_true, String.reduceBEq, String.reduceEq, Nat.le_refl, Nat.zero_le, Bool.true_eq_false, decide_true, decide_false, Int.reduceEq, Int.reduceLT, Int.reduceLE, Int.reduceSub, Int.reduceAdd, rowL_eq]
  have row : ∀ i' z' t' : Int, 0 ≤ i' → IsRow (.lst (rowL ns i' z' t')) := fun i' z' t' h => ⟨ns, i', z', t', rfl, h1, h⟩
  have fin : ∀ (x i' z' t' : Int), 0 ≤ i' → P (.dat (.int (x % m))) [some (.ob (some 0) (.lst [.list (ns.map PyData.int), .int i', .int z', .int t'])), none] := fun x i' z' t' hi =>
    q _ _ (row i' z' t' hi) (Int.emod_nonneg _ (by omega)) (Int.emod_lt_of_pos _ m0)
  by_cases c : 0 < t
  · rw [if_pos c]
    exact ⟨m0, ⟨m0, m1⟩, fin _ _ _ _ h2⟩
  · rw [if_neg c]
    simp -implicitDefEqProofs only [DL.WW, List.isEmpty_nil, List.lookup_cons, List.lookup_nil, List.map, List.length, List.length_cons, List.length_nil, List.length_set, List.replicate, List.append, List.cons_append, List.nil_append, List.append_nil, List.getElem?_cons_zero, List.getElem?_cons_succ, List.getElem?_nil, List.set_cons_zero, List.set_cons_succ, ↓reduceIte, Bool.false_eq_true, Bool.not_true, Bool.not_false, Bool.true_and, Bool.false_and, Bool.and_true, Bool.and_false, Bool.or_true, Bool.or_false, Bool.true_or, Bool.false_or, Nat.reduceAdd, Nat.reduceSub, Nat.reduceLT, Nat.reduceLeDiff, true_and, and_true, and_self, decide_eq_true_eq, Nat.zero_lt_succ, Nat.lt_add_left_iff_pos, beq_self_eq_true, String.reduceBEq, String.reduceEq, Nat.le_refl, Nat.zero_le, Bool.true_eq_false, decide_true, decide_false, Int.reduceEq, Int.reduceLT, Int.reduceLE, Int.reduceSub, Int.reduceAdd, List.length_map]
    by_cases c2 : ((ns.length : Nat) : Int) < i + 1
    · rw [if_pos c2]
      exact ⟨mul_small, ⟨by decide, by decide⟩, m0, fin _ _ _ _ (by omega)⟩
    · rw [if_neg c2]
      have hi : i.toNat < ns.length := by omega
      have hv : atI (ns.map PyData.int) (i + 1 - 1) = some (.int (ns[i.toNat])) := by
        have e : i + 1 - 1 = ((i.toNat : Nat) : Int) := by omega
        rw [e]
        exact atI_nat (by rw [List.getElem?_map, List.getElem?_eq_getElem hi]; rfl)
      simp -implicitDefEqProofs only [DL.WW, List.isEmpty_nil, List.lookup_cons, List.lookup_nil, List.map, List.length, List.length_cons, List.length_nil, List.length_set, List.replicate, List.append, List.cons_append, List.nil_append, List.append_nil, List.getElem?_cons_zero, List.getElem?_cons_succ, List.getElem?_nil, List.set_cons_zero, List.set_cons_succ, ↓reduceIte, Bool.false_eq_true, Bool.not_true, Bool.not_false, Bool.true_and, Bool.false_and, Bool.and_true, Bool.and_false, Bool.or_true, Bool.or_false, Bool.true_or, Bool.false_or, Nat.reduceAdd, Nat.reduceSub, Nat.reduceLT, Nat.reduceLeDiff, true_and, and_true, and_self, decide_eq_true_eq, Nat.zero_lt_succ, Nat.lt_add_left_iff_pos, beq_self_eq_true, String.reduceBEq, String.reduceEq, Nat.le_refl, Nat.zero_le, Bool.true_eq_false, decide_true, decide_false, Int.reduceEq, Int.reduceLT, Int.reduceLE, Int.reduceSub, Int.reduceAdd, hv]
      refine ⟨mul_small, ⟨by decide, by decide, by decide⟩, ?_⟩
      split
      · exact ⟨⟨m0, m1⟩, m0, fin _ _ _ _ (by omega)⟩
      · exact ⟨m0, fin _ _ _ _ (by omega)⟩
end
end K07D


set_option Elab.async false
set_option linter.all false
set_option maxRecDepth 100000
set_option maxHeartbeats 4000000
namespace K07D
open PySem L2 TG DL K07
section
variable {P : Program} {w : World} {K : PySem.W.Frag} {mg : Str → Option Value} {base : Heap}
theorem ok_law_pick {k : Nat} (T : Txt K mg) (G_law_taken : FnOk P w K mg base CX0 (k) T.a_law_taken T.d_law_taken ["_law_row", "_law_many"] (spD K F_law_taken)) : FnOk P w K mg base CX0 (k + 1) T.a_law_pick T.d_law_pick ["_law_row", "_law_things"] (spD K F_law_pick) := by
  refine (fun (hA : ∀ args Pz, F_law_pick args Pz → args.length = 2) => T.F_law_pick.ok (sp := spD K F_law_pick) sc_law_pick (fun vs H Q E h => spD_len hA h) (fun cdv A outer s H vs Q E hr h => ⟨_, (pss_one (ps_ret (pe_ix (ix_listK (K := K) rfl) (pv 1) (pe_call G_law_taken hr rfl T.g_law_taken T.F_law_taken.kp T.b_law_taken .nil pass0 (pa_cons (pv 0) (pa_cons (pe_callB (call_lenK (K := K) rfl) rfl T.m_len PySem.boot_len (pa_cons (pv 1) pa_nil)) pa_nil))) (fun _ _ => rfl)))), fn_run (N := ["_law_row", "_law_things"]) h (fun A' Hz' => (ss_ret (se_op sr_ixL se_var (se_callO (sa_cons (se_cb1 sc_len se_var) sa_nil))))) (fun args P hl hF => ?_) (by rw [spD_len hA h]; exact Nat.le_of_ble_eq_true rfl)⟩)) (fun args P hF => ?_)
  rotate_left
  · obtain ⟨o, ds, rfl, _⟩ := hF
    rfl
  obtain ⟨o, ds, rfl, ho, ⟨h1, h2⟩, hP⟩ := hF
  simp -implicitDefEqProofs only [DL.WW, List.isEmpty_nil, List.lookup_cons, List.lookup_nil, List.map, List.length, List.length_cons, List.length_nil, List.length_set, List.replicate, List.append, List.cons_append, List.nil_append, List.append_nil, List.getElem?_cons_zero, List.getElem?_cons_succ, List.getElem?_nil, List.set_cons_zero, List.set_cons_succ, ↓reduceIte, Bool.false_eq_true, Bool.not_true, Bool.not_false, Bool.true_and, Bool.false_and, Bool.and_true, Bool.and_false, Bool.or_true, Bool.or_false, Bool.true_or, Bool.false_or, Nat.reduceAdd, Nat.reduceSub, Nat.reduceLT, Nat.reduceLeDiff, true_and, and_true, and_self, decide_eq_true_eq, Nat.zero_lt_succ, Nat.lt_add_left_iff_pos, beq_self_eq_true, String.reduceBEq, String.reduceEq, Nat.le_refl, Nat.zero_le, Bool.true_eq_false, decide_true, decide_false, Int.reduceEq, Int.reduceLT, Int.reduceLE, Int.reduceSub, Int.reduceAdd]
  refine ⟨o, _, rfl, ho, ⟨by omega, by omega⟩, fun x o' ho' x0 x1 => ?_⟩
  obtain ⟨x, rfl⟩ : ∃ k : Nat, x = k := ⟨x.toNat, by omega⟩
  have hx : x < ds.length := by omega
  have hat : atI ds (x : Int) = some ds[x] := atI_nat (List.getElem?_eq_getElem hx)
  simp -implicitDefEqProofs only [DL.WW, List.isEmpty_nil, List.lookup_cons, List.lookup_nil, List.map, List.length, List.length_cons, List.length_nil, List.length_set, List.replicate, List.append, List.cons_append, List.nil_append, List.append_nil, List.getElem?_cons_zero, List.getElem?_cons_succ, List.getElem?_nil, List.set_cons_zero, List.set_cons_succ, ↓reduceIte, Bool.false_eq_true, Bool.not_true, Bool.not_false, Bool.true_and, Bool.false_and, Bool.and_true, Bool.and_false, Bool.or_true, Bool.or_false, Bool.true_or, Bool.false_or, Nat.reduceAdd, Nat.reduceSub, Nat.reduceLT, Nat.reduceLeDiff, true_and, and_true, and_self, decide_eq_true_eq, Nat.zero_lt_succ, Nat.lt_add_left_iff_pos, beq_self_eq_true, String.reduceBEq, String.reduceEq, Nat.le_refl, Nat.zero_le, Bool.true_eq_false, decide_true, decide_false, Int.reduceEq, Int.reduceLT, Int.reduceLE, Int.reduceSub, Int.reduceAdd, hat]
  exact hP _ _ ho' (List.getElem_mem hx)
end
end K07D


set_option linter.all false
set_option maxRecDepth 100000
set_option maxHeartbeats 4000000
namespace TXG
open SK
def nBr (x : List Nat) : Nat := x.count 123
theorem deep_none : ∀ (x : List Nat) (n : Int) (i : Nat), n + (nBr x : Int) ≤ 60 → deepAt n i x = none
  | [], n, i, h => rfl
  | c :: r, n, i, h => by
    rw [deepAt]
    by_cases c1 : c = 123
    · have e : nBr (c :: r) = nBr r + 1 := by unfold nBr; rw [c1, List.count_cons_self]
      rw [if_pos c1, if_neg (by omega)]
      exact deep_none r _ _ (by omega)
    · have e : nBr (c :: r) = nBr r := by unfold nBr; rw [List.count_cons_of_ne (by simpa using c1)]
      rw [if_neg c1]
      split
      · exact deep_none r _ _ (by omega)
      · exact deep_none r _ _ (by omega)
theorem nBr_app (a b : List Nat) : nBr (a ++ b) = nBr a + nBr b := List.count_append
theorem read_err {x : List Nat} {n : Nat} (h : nBr x ≤ 60) (hr : rf 60 x = .err n) : readR x = .err (x.length - n) := by
  have hc : cutX x = x := by unfold cutX; rw [deep_none x 0 0 (by omega)]
  unfold readR
  rw [hc, hr]
def p1 : List Nat := [123, 48, 44]
def p2 : List Nat := [123, 124, 48, 44]
def p3 : List Nat := [123, 49, 47, 50, 44, 42, 124, 49, 44]
def p4 : List Nat := [123, 123, 124, 125, 44]
def p5 : List Nat := [123, 94, 42, 124, 45, 51, 44]
def p6 : List Nat := [123, 124, 123, 118, 124, 42, 50, 125, 44]
def isP (p : List Nat) : Prop := p = p1 ∨ p = p2 ∨ p = p3 ∨ p = p4 ∨ p = p5 ∨ p = p6
theorem side_ne {f : List Nat → R G} {last c : Nat} {s : List Nat} (h : ¬ c = last) : side f last (c :: s) = items f last (s.length + 2) (c :: s) := by
  unfold side
  rw [List.head?_cons, if_neg (fun e => h (Option.some.inj e))]
  rfl
def Bd (x : R G) (n : Nat) : Prop := x = .err n ∨ ∃ g c r, x = .ok g (c :: r) ∧ c ≠ 44 ∧ c ≠ 124 ∧ c ≠ 125 ∧ n = r.length + 1
theorem items_err {f : List Nat → R G} {last k n : Nat} {s : List Nat} (hl : last = 124 ∨ last = 125) (h : Bd (f s) n) : items f last (k + 1) s = .err n := by
  rcases h with h | ⟨g, c, r, h, h1, h2, h3, rfl⟩
  · rw [items, h]
  · rw [items, h]
    dsimp only
    rw [if_neg (by omega), if_neg h1]
theorem items_sep {f : List Nat → R G} {last k n : Nat} {s t : List Nat} {g : G} (hl : last = 124 ∨ last = 125) (h : f s = .ok g (44 :: t)) (h2 : Bd (f t) n) : items f last (k + 2) s = .err n := by
  rw [items, h]
  dsimp only
  rw [if_neg (by omega), if_pos rfl, items_err hl h2]
theorem brace_l {f : List Nat → R G} {s : List Nat} {n : Nat} (h : side f 124 s = .err n) : brace f s = .err n := by
  unfold brace
  rw [h]
theorem brace_r {f : List Nat → R G} {s r : List Nat} {l : List G} {n : Nat} (h : side f 124 s = .ok l r) (h2 : side f 125 r = .err n) : brace f s = .err n := by
  unfold brace
  rw [h]
  dsimp only
  rw [h2]
theorem piece_err {p : List Nat} (hp : isP p) {d n : Nat} {s : List Nat} (h : Bd (rf (d + 1) s) n) : rf (d + 2) (p ++ s) = .err n := by
  rcases hp with rfl | rfl | rfl | rfl | rfl | rfl
  · exact brace_l (side_ne (by decide) |>.trans (items_sep (by decide) (show rf (d + 1) (48 :: 44 :: s) = _ from rfl) h))
  · exact brace_r (show side (rf (d + 1)) 124 (124 :: 48 :: 44 :: s) = .ok [] (48 :: 44 :: s) from rfl) (side_ne (by decide) |>.trans (items_sep (by decide) (show rf (d + 1) (48 :: 44 :: s) = _ from rfl) h))
  · show brace (rf (d + 1)) (49 :: 47 :: 50 :: 44 :: 42 :: 124 :: 49 :: 44 :: s) = .err n
    refine brace_r (l := [numG 1 1, star]) (r := 49 :: 44 :: s) ?_ (side_ne (by decide) |>.trans (items_sep (by decide) (show rf (d + 1) (49 :: 44 :: s) = .ok (numG 1 0) (44 :: s) from rfl) h))
    exact side_ne (by decide) |>.trans rfl
  · exact brace_l (side_ne (by decide) |>.trans (items_sep (by decide) (show rf (d + 1) (123 :: 124 :: 125 :: 44 :: s) = .ok (.mk [] []) (44 :: s) from rfl) h))
  · show brace (rf (d + 1)) (94 :: 42 :: 124 :: 45 :: 51 :: 44 :: s) = .err n
    refine brace_r (l := [upS]) (r := 45 :: 51 :: 44 :: s) ?_ (side_ne (by decide) |>.trans (items_sep (by decide) (show rf (d + 1) (45 :: 51 :: 44 :: s) = .ok (numG (-3) 0) (44 :: s) from rfl) h))
    exact side_ne (by decide) |>.trans rfl
  · refine brace_r (show side (rf (d + 1)) 124 (124 :: 123 :: 118 :: 124 :: 42 :: 50 :: 125 :: 44 :: s) = .ok [] (123 :: 118 :: 124 :: 42 :: 50 :: 125 :: 44 :: s) from rfl) (side_ne (by decide) |>.trans (items_sep (g := .mk [down] [nimG 2]) (by decide) ?_ h))
    cases d with
    | zero => rfl
    | succ d => rfl
inductive Hd : Nat → List Nat → Prop
  | nil : Hd 0 []
  | add {m : Nat} {x p : List Nat} : Hd m x → isP p → Hd (m + 1) (x ++ p)
theorem isP_facts {p : List Nat} (h : isP p) : p.length ≤ 9 ∧ nBr p ≤ 2 ∧ ∀ c ∈ p, c < 128 := by
  rcases h with rfl | rfl | rfl | rfl | rfl | rfl <;> decide
theorem Hd.facts {m : Nat} {x : List Nat} (h : Hd m x) : x.length ≤ 9 * m ∧ nBr x ≤ 2 * m ∧ ∀ c ∈ x, c < 128 := by
  induction h with
  | nil => exact ⟨by simp, by decide, fun c h => by cases h⟩
  | add h hp ih =>
    obtain ⟨h1, h2, h3⟩ := isP_facts hp
    obtain ⟨i1, i2, i3⟩ := ih
    refine ⟨by rw [List.length_append]; omega, by rw [nBr_app]; omega, fun c hc => ?_⟩
    rcases List.mem_append.mp hc with h | h
    · exact i3 c h
    · exact h3 c h
theorem Hd.err {m : Nat} {x : List Nat} (h : Hd m x) : ∀ {d n : Nat} {s : List Nat}, Bd (rf (d + 1) s) n → Bd (rf (d + m + 1) (x ++ s)) n ∧ (m ≠ 0 → rf (d + m + 1) (x ++ s) = .err n) := by
  induction h with
  | nil => exact fun h => ⟨h, fun h => absurd rfl h⟩
  | add h hp ih =>
    rename_i m x p
    intro d n s hs
    rw [List.append_assoc]
    have e : d + (m + 1) + 1 = d + 1 + m + 1 := by omega
    rw [e]
    have h1 := piece_err hp hs
    have h2 := ih (d := d + 1) (.inl h1)
    refine ⟨h2.1, fun _ => ?_⟩
    by_cases m0 : m = 0
    · subst m0
      cases h
      exact h1
    · exact h2.2 m0
def isErr (x : R G) (n : Nat) : Bool := match x with
  | .err k => decide (k = n)
  | .ok _ (c :: r) => decide (c ≠ 44) && decide (c ≠ 124) && decide (c ≠ 125) && decide (n = r.length + 1)
  | _ => false
theorem isErr_eq {x : R G} {n : Nat} (h : isErr x n = true) : Bd x n := by
  unfold isErr at h
  split at h
  · exact .inl (by rw [of_decide_eq_true h])
  · simp only [Bool.and_eq_true, decide_eq_true_eq] at h
    exact .inr ⟨_, _, _, rfl, h.1.1.1, h.1.1.2, h.1.2, h.2⟩
  · cases h
def isE0 (x : RR) (n : Nat) : Bool := match x with
  | .err k => decide (k = n)
  | _ => false
theorem isE0_eq {x : RR} {n : Nat} (h : isE0 x n = true) : x = .err n := by
  unfold isE0 at h
  split at h
  · rw [of_decide_eq_true h]
  · cases h
def endB (w : List Nat) (n : Nat) : Bool := isErr (rf 57 w) n && isErr (rf 58 w) n && isErr (rf 59 w) n && isE0 (readR w) (w.length - n) && decide (nBr w ≤ 20) && decide (n ≤ w.length) && decide (w.length ≤ 1000) && w.all fun c => decide (c < 128)
theorem endB_read {w : List Nat} {n : Nat} (h : endB w n = true) {m : Nat} {x : List Nat} (hx : Hd m x) (hm : m ≤ 3) : readR (x ++ w) = .err (x.length + w.length - n) ∧ (x ++ w).length ≤ 40000 ∧ (∀ c ∈ x ++ w, c < 128) ∧ n ≤ w.length := by
  unfold endB at h
  simp only [Bool.and_eq_true, decide_eq_true_eq, List.all_eq_true] at h
  obtain ⟨⟨⟨⟨⟨⟨⟨h1, h2⟩, h3⟩, h4⟩, h5⟩, h6⟩, h7⟩, h8⟩ := h
  obtain ⟨f1, f2, f3⟩ := hx.facts
  refine ⟨?_, by rw [List.length_append]; omega, fun c hc => ?_, h6⟩
  rotate_left
  · rcases List.mem_append.mp hc with h | h
    · exact f3 c h
    · exact h8 c h
  by_cases m0 : m = 0
  · subst m0
    cases hx
    rw [List.nil_append, List.length_nil, Nat.zero_add]
    exact isE0_eq h4
  have hr : Bd (rf (60 - m) w) n := by
    have : m = 1 ∨ m = 2 ∨ m = 3 := by omega
    rcases this with rfl | rfl | rfl
    · exact isErr_eq h3
    · exact isErr_eq h2
    · exact isErr_eq h1
  have hr2 := hx.err (d := 60 - m - 1) (n := n) (s := w) (by rw [show 60 - m - 1 + 1 = 60 - m by omega]; exact hr)
  rw [show 60 - m - 1 + m + 1 = 60 by omega] at hr2
  have hr2 := hr2.2 m0
  rw [read_err (by rw [nBr_app]; omega) hr2, List.length_append]
end TXG


set_option Elab.async false
set_option linter.all false
set_option maxRecDepth 100000
namespace ND
open PySem L2 TG DL
inductive NP : PyData → Prop
  | non : NP .none
  | int (n : Int) : NP (.int n)
  | bool (b : Bool) : NP (.bool b)
  | str (s : Str) : NP (.str s)
  | lst (ds : List PyData) : NP (.list ds)
  | dic : NP (.dict [])
  | tup (ds : List PyData) : (∀ d ∈ ds, NP d) → NP (.tuple ds)
theorem NP.ptr {d : PyData} (h : NP d) : isPtr d = false := by cases h <;> rfl
mutual
def szD : PyData → Nat
  | .tuple ds => 1 + szDs ds
  | .none => 1
  | .int _ => 1
  | .bool _ => 1
  | .str _ => 1
  | .list _ => 1
  | .dict _ => 1
def szDs : List PyData → Nat
  | [] => 0
  | d :: ds => szD d + szDs ds
end
theorem szD_pos (d : PyData) : 1 ≤ szD d := by cases d <;> (rw [szD]; omega)
theorem szDs_app : ∀ a b : List PyData, szDs (a ++ b) = szDs a + szDs b
  | [], b => by rw [List.nil_append, szDs]; omega
  | x :: a, b => by rw [List.cons_append, szDs, szDs, szDs_app a b]; omega
theorem szDs_rev : ∀ a : List PyData, szDs a.reverse = szDs a
  | [] => rfl
  | x :: a => by rw [List.reverse_cons, szDs_app, szDs_rev a, szDs, szDs, szDs]; omega
theorem szDs_len : ∀ a : List PyData, a.length ≤ szDs a
  | [] => Nat.le_refl _
  | x :: a => by have := szDs_len a; have := szD_pos x; rw [List.length_cons, szDs]; omega
end ND


set_option Elab.async false
set_option linter.all false
set_option maxRecDepth 100000
set_option maxHeartbeats 4000000
namespace L2
open PySem PySem.Spec PyProof.Rows
section
variable {X : Cx}
end
end L2


set_option Elab.async false
set_option linter.all false
set_option maxRecDepth 100000
set_option maxHeartbeats 4000000
namespace DL
open PySem L2 TG
section
variable {f : Fr}
def wEDic (e : En) (P : Vl → En → Prop) : Prop := P (.dat (.dict [])) e
theorem se_edic : SE f tDNewK wEDic := ⟨fun {L W e σ Hz H Post Q} w y k p hp => k (.dat (.dict [])) _ _ _ _ w (same_new (y.hz hp) (.dK [])) (y.newT hp) (Dp.dic upd_same)⟩
end
end DL


set_option Elab.async false
set_option linter.all false
set_option maxRecDepth 100000
namespace L2
open PySem PySem.Spec PyProof.Rows
def repS (x : Str) (k : Int) : Str := ⟨(List.replicate k.toNat x.cps).foldl (· ++ ·) #[]⟩
def rRepS : R2 := fun x y H Q => ∃ (z : Str) (k : Int), x = .str z ∧ y = .int k ∧ 2 ≤ k ∧ k ≤ 1000 ∧ 1 ≤ z.length ∧ z.length ≤ 1000 ∧ Q (.str (repS z k)) H
theorem rep_size (a : Array Nat) : ∀ (m : Nat) (acc : Array Nat), ((List.replicate m a).foldl (· ++ ·) acc).size = acc.size + m * a.size
  | 0, acc => by simp
  | m + 1, acc => by
    rw [List.replicate_succ, List.foldl_cons, rep_size a m, Array.size_append, Nat.add_mul]
    omega
theorem repS_len (z : Str) (k : Int) : (repS z k).length = k.toNat * z.length := by
  show ((List.replicate k.toNat z.cps).foldl (· ++ ·) #[]).size = _
  rw [rep_size]
  simp [Str.length]
section
variable {X : Cx}
theorem op_repS : OpR X (binaryOp .Mult) rRepS := by
  intro pins s σ H x y v u Q I rx ry h
  obtain ⟨z, k, rfl, rfl, h1, h2, h3, h4, q⟩ := h
  obtain ⟨t, rfl⟩ := rx
  obtain ⟨t', rfl⟩ := ry
  have c0 : (decide (k < -(2 ^ 63 : Int)) || decide (k ≥ 2 ^ 63)) = false := by
    rw [decide_eq_false (by omega), decide_eq_false (by omega)] <;> rfl
  have e1 : (k == 1 || z.length == 0) = false := by
    rw [beq_eq_false_iff_ne.mpr (by omega : k ≠ 1), beq_eq_false_iff_ne.mpr (by omega : z.length ≠ 0)]
    rfl
  have hm : z.length * k.toNat ≤ 1000 * 1000 := Nat.mul_le_mul h4 (by omega)
  refine P.mul_str c0 (fun _ _ => ?_) (fun _ _ => ?_) ?_
  · have : (2 ^ 63 - 1 : Int) / k ≥ (2 ^ 63 - 1) / 1000 := by
      refine Int.le_ediv_of_mul_le (by omega) ?_
      have : ((2 ^ 63 - 1 : Int) / 1000) * k ≤ ((2 ^ 63 - 1) / 1000) * 1000 := Int.mul_le_mul_of_nonneg_left h2 (by decide)
      omega
    omega
  · unfold Builtin.Str.tooLong
    rw [sizeLine_eq]
    exact decide_eq_false (by omega)
  · rw [if_neg (by omega), e1, if_neg (by decide)]
    exact ⟨by have := repS_len z k; rw [Nat.mul_comm] at this; rw [sizeLine_eq]; show (repS z k).length ≤ _; omega, .str (repS z k), H, I.tok _, ⟨_, rfl⟩, q⟩
end
end L2


set_option Elab.async false
set_option linter.all false
set_option maxRecDepth 100000
namespace DL
open PySem L2 TG
section
variable {f : Fr}
def gRepS (d1 d2 : PyData) (P : Vl → Prop) : Prop := match d1, d2 with
  | .str z, .int k => 2 ≤ k ∧ k ≤ 1000 ∧ 1 ≤ z.length ∧ z.length ≤ 1000 ∧ P (.dat (.str (repS z k)))
  | _, _ => False
theorem eRepS {z : Str} {k : Int} {P : Vl → Prop} : gRepS (.str z) (.int k) P = (2 ≤ k ∧ k ≤ 1000 ∧ 1 ≤ z.length ∧ z.length ≤ 1000 ∧ P (.dat (.str (repS z k)))) := rfl
theorem sr_repS : SR f rRepS gRepS := ⟨fun {L W e σ Hz H x y d1 d2 Post Q} r1 r2 s h k => by
  unfold gRepS at h
  split at h
  · cases r1
    cases r2
    obtain ⟨h1, h2, h3, h4, h5⟩ := h
    exact ⟨_, _, rfl, rfl, h1, h2, h3, h4, k _ _ _ _ h5 same_refl s (Dp.str _)⟩
  · exact h.elim⟩
end
end DL


set_option Elab.async false
set_option linter.all false
set_option maxRecDepth 100000
set_option maxHeartbeats 4000000
namespace K07D
open PySem L2 TG DL K07 SK TXG
section
variable {P : Program} {w : World} {K : PySem.W.Frag} {mg : Str → Option Value} {base : Heap}
open GB (FX_read FX_write)
theorem stC_self (z : Str) : stC z.cps.toList = z := by
  show (⟨z.cps.toList.toArray⟩ : Str) = z
  rw [Array.toArray_toList]
def isPB (z : Str) : Bool := [p1, p2, p3, p4, p5, p6].any fun p => z.cps.toList == p
theorem isPB_eq {z : Str} (h : isPB z = true) : isP z.cps.toList := by
  unfold isPB at h
  rw [List.any_eq_true] at h
  obtain ⟨p, hp, he⟩ := h
  rw [beq_iff_eq] at he
  rw [he]
  simp only [List.mem_cons, List.not_mem_nil, or_false] at hp
  exact hp
def pieceB : PyData → Bool
  | .str z => isPB z
  | _ => false
def F_law_head : FSp := fun args Q => ∃ o : Ob, args = [some (.ob (some 0) o)] ∧ IsRow o ∧ ∀ (m : Nat) (x : List Nat) (o' : Ob), m ≤ 3 → Hd m x → IsRow o' → Q (.dat (.str (stC x))) [some (.ob (some 0) o')]
theorem ok_law_head {k : Nat} (T : Txt K mg) (G_law_taken : FnOk P w K mg base CX0 (k) T.a_law_taken T.d_law_taken ["_law_row", "_law_many"] (spD K F_law_taken)) (G_law_pick : FnOk P w K mg base CX0 (k) T.a_law_pick T.d_law_pick ["_law_row", "_law_things"] (spD K F_law_pick)) : FnOk P w K mg base CX0 (k + 1) T.a_law_head T.d_law_head ["_law_row"] (spD K F_law_head) := by
  refine (fun (hA : ∀ args Pz, F_law_head args Pz → args.length = 1) => T.F_law_head.ok (sp := spD K F_law_head) sc_law_head (fun vs H Q E h => spD_len hA h) (fun cdv A outer s H vs Q E hr h => ⟨_, (pss_cons (ps_set (i := 1) sc_law_head.nd rfl (Or.inl rfl) pe_str)
  (pss_cons (ps_for PassesOwn.never rfl (pi_range1 rfl T.m_range (pa_cons (pe_call G_law_taken hr rfl T.g_law_taken T.F_law_taken.kp T.b_law_taken .nil pass0 (pa_cons (pv 0) (pa_cons pe_int pa_nil))) pa_nil)) (pg_name (i := 2) sc_law_head.nd rfl (Or.inl rfl))
  (pss_one (ps_set (i := 1) sc_law_head.nd rfl (Or.inl rfl) (pe_op op_add_str (pv 1) (pe_call G_law_pick hr rfl T.g_law_pick T.F_law_pick.kp T.b_law_pick .nil pass0 (pa_cons (pv 0) (pa_cons (pe_lst (pa_cons pe_str (pa_cons pe_str (pa_cons pe_str (pa_cons pe_str (pa_cons pe_str (pa_cons pe_str pa_nil))))))) pa_nil)))))))
  (pss_one (ps_ret (pv 1))))), fn_run (N := ["_law_row", "_law_found", "_law_turn"]) h (fun A' Hz' => (ss_seq (ss_asg se_str sg_name)
  (ss_seq (ss_for (si_rng1 (se_callO (sa_cons se_int sa_nil))) sg_name
  (ss_asg (se_op sr_addS se_var (se_callO (sa_cons (se_lst (sa_cons se_str (sa_cons se_str (sa_cons se_str (sa_cons se_str (sa_cons se_str (sa_cons se_str sa_nil))))))) sa_nil))) sg_name))
  (ss_ret se_var)))) (fun args P hl hF => ?_) (by rw [spD_len hA h]; exact Nat.le_of_ble_eq_true rfl)⟩)) (fun args P hF => ?_)
  rotate_left
  · obtain ⟨o, rfl, _⟩ := hF
    rfl
  obtain ⟨o, rfl, ho, q⟩ := hF
  simp -implicitDefEqProofs only [DL.WW, List.isEmpty_nil, List.lookup_cons, List.lookup_nil, List.map, List.length, List.length_cons, List.length_nil, List.length_set, List.replicate, List.append, List.cons_append, List.nil_append, List.append_nil, List.getElem?_cons_zero, List.getElem?_cons_succ, List.getElem?_nil, List.set_cons_zero, List.set_cons_succ, ↓reduceIte, Bool.false_eq_true, Bool.not_true, Bool.not_false, Bool.true_and, Bool.false_and, Bool.and_true, Bool.and_false, Bool.or_true, Bool.or_false, Bool.true_or, Bool.false_or, Nat.reduceAdd, Nat.reduceSub, Nat.reduceLT, Nat.reduceLeDiff, true_and, and_true, and_self, decide_eq_true_eq, Nat.zero_lt_succ, Nat.lt_add_left_iff_pos, beq_self_eq_true, String.reduceBEq, String.reduceEq, Nat.le_refl, Nat.zero_le, Bool.true_eq_false, decide_true, decide_false, Int.reduceEq, Int.reduceLT, Int.reduceLE, Int.reduceSub, Int.reduceAdd, DL.wIfT, DL.wListRg, DL.eSortT, DL.eAddS, DL.eInS, DL.eLenS, DL.wSlS, DL.wI2, DL.evd_mx, DL.evd_mn, DL.evd_gcd, DL.wIStr, DL.wIEnumS, DL.wFun, DL.wWord, DL.wWordV, DL.wCallX, DL.wRaise, DL.wWordG, DL.wWordVG, DL.wRaiseI, DL.eRepS, DL.eJnL, DL.eJnT, DL.wJoin, DL.eStrI, DL.eIntS, DL.strsD_map]
  refine for_use ?_
  simp -implicitDefEqProofs only [DL.WW, List.isEmpty_nil, List.lookup_cons, List.lookup_nil, List.map, List.length, List.length_cons, List.length_nil, List.length_set, List.replicate, List.append, List.cons_append, List.nil_append, List.append_nil, List.getElem?_cons_zero, List.getElem?_cons_succ, List.getElem?_nil, List.set_cons_zero, List.set_cons_succ, ↓reduceIte, Bool.false_eq_true, Bool.not_true, Bool.not_false, Bool.true_and, Bool.false_and, Bool.and_true, Bool.and_false, Bool.or_true, Bool.or_false, Bool.true_or, Bool.false_or, Nat.reduceAdd, Nat.reduceSub, Nat.reduceLT, Nat.reduceLeDiff, true_and, and_true, and_self, decide_eq_true_eq, Nat.zero_lt_succ, Nat.lt_add_left_iff_pos, beq_self_eq_true, String.reduceBEq, String.reduceEq, Nat.le_refl, Nat.zero_le, Bool.true_eq_false, decide_true, decide_false, Int.reduceEq, Int.reduceLT, Int.reduceLE, Int.reduceSub, Int.reduceAdd, DL.wIfT, DL.wListRg, DL.eSortT, DL.eAddS, DL.eInS, DL.eLenS, DL.wSlS, DL.wI2, DL.evd_mx, DL.evd_mn, DL.evd_gcd, DL.wIStr, DL.wIEnumS, DL.wFun, DL.wWord, DL.wWordV, DL.wCallX, DL.wRaise, DL.wWordG, DL.wWordVG, DL.wRaiseI, DL.eRepS, DL.eJnL, DL.eJnT, DL.wJoin, DL.eStrI, DL.eIntS, DL.strsD_map]
  refine ⟨o, 4, rfl, ho, by decide, fun n o1 ho1 h0 h4 => ?_⟩
  simp -implicitDefEqProofs only [DL.WW, List.isEmpty_nil, List.lookup_cons, List.lookup_nil, List.map, List.length, List.length_cons, List.length_nil, List.length_set, List.replicate, List.append, List.cons_append, List.nil_append, List.append_nil, List.getElem?_cons_zero, List.getElem?_cons_succ, List.getElem?_nil, List.set_cons_zero, List.set_cons_succ, ↓reduceIte, Bool.false_eq_true, Bool.not_true, Bool.not_false, Bool.true_and, Bool.false_and, Bool.and_true, Bool.and_false, Bool.or_true, Bool.or_false, Bool.true_or, Bool.false_or, Nat.reduceAdd, Nat.reduceSub, Nat.reduceLT, Nat.reduceLeDiff, true_and, and_true, and_self, decide_eq_true_eq, Nat.zero_lt_succ, Nat.lt_add_left_iff_pos, beq_self_eq_true, String.reduceBEq, String.reduceEq, Nat.le_refl, Nat.zero_le, Bool.true_eq_false, decide_true, decide_false, Int.reduceEq, Int.reduceLT, Int.reduceLE, Int.reduceSub, Int.reduceAdd, DL.wIfT, DL.wListRg, DL.eSortT, DL.eAddS, DL.eInS, DL.eLenS, DL.wSlS, DL.wI2, DL.evd_mx, DL.evd_mn, DL.evd_gcd, DL.wIStr, DL.wIEnumS, DL.wFun, DL.wWord, DL.wWordV, DL.wCallX, DL.wRaise, DL.wWordG, DL.wWordVG, DL.wRaiseI, DL.eRepS, DL.eJnL, DL.eJnT, DL.wJoin, DL.eStrI, DL.eIntS, DL.strsD_map]
  refine ⟨by omega, fun i e => ∃ (x : List Nat) (o2 : Ob) (z2 : Option B), Hd i x ∧ IsRow o2 ∧ e = [some (.ob (some 0) o2), some (.dat (.str (stC x))), z2], ⟨[], o1, none, .nil, ho1, rfl⟩, ?_, ?_⟩
  · rintro i d e hd ⟨x, o2, z2, hx, ho2, rfl⟩
    simp -implicitDefEqProofs only [DL.WW, List.isEmpty_nil, List.lookup_cons, List.lookup_nil, List.map, List.length, List.length_cons, List.length_nil, List.length_set, List.replicate, List.append, List.cons_append, List.nil_append, List.append_nil, List.getElem?_cons_zero, List.getElem?_cons_succ, List.getElem?_nil, List.set_cons_zero, List.set_cons_succ, ↓reduceIte, Bool.false_eq_true, Bool.not_true, Bool.not_false, Bool.true_and, Bool.false_and, Bool.and_true, Bool.and_false, Bool.or_true, Bool.or_false, Bool.true_or, Bool.false_or, Nat.reduceAdd, Nat.reduceSub, Nat.reduceLT, Nat.reduceLeDiff, true_and, and_true, and_self, decide_eq_true_eq, Nat.zero_lt_succ, Nat.lt_add_left_iff_pos, beq_self_eq_true, String.reduceBEq, String.reduceEq, Nat.le_refl, Nat.zero_le, Bool.true_eq_false, decide_true, decide_false, Int.reduceEq, Int.reduceLT, Int.reduceLE, Int.reduceSub, Int.reduceAdd, DL.wIfT, DL.wListRg, DL.eSortT, DL.eAddS, DL.eInS, DL.eLenS, DL.wSlS, DL.wI2, DL.evd_mx, DL.evd_mn, DL.evd_gcd, DL.wIStr, DL.wIEnumS, DL.wFun, DL.wWord, DL.wWordV, DL.wCallX, DL.wRaise, DL.wWordG, DL.wWordVG, DL.wRaiseI, DL.eRepS, DL.eJnL, DL.eJnT, DL.wJoin, DL.eStrI, DL.eIntS, DL.strsD_map]
    refine ⟨o2, _, rfl, ho2, by decide, fun d3 o3 ho3 hd3 => ?_⟩
    have hp := List.all_eq_true.mp (show ([PyData.str (Str.ofString "{0,"), .str (Str.ofString "{|0,"), .str (Str.ofString "{1/2,*|1,"), .str (Str.ofString "{{|},"), .str (Str.ofString "{^*|-3,"), .str (Str.ofString "{|{v|*2},")].all pieceB) = true by decide +kernel) d3 hd3
    obtain ⟨z, rfl⟩ : ∃ z, d3 = .str z := by
      cases d3 with
      | str z => exact ⟨z, rfl⟩
      | _ => cases hp
    have hpz := isPB_eq hp
    have hf := hx.facts
    have hpf := isP_facts hpz
    have hi : i < 4 := by
      have := (List.getElem?_eq_some_iff.mp hd).1
      rw [range_len] at this
      omega
    simp -implicitDefEqProofs only [DL.WW, List.isEmpty_nil, List.lookup_cons, List.lookup_nil, List.map, List.length, List.length_cons, List.length_nil, List.length_set, List.replicate, List.append, List.cons_append, List.nil_append, List.append_nil, List.getElem?_cons_zero, List.getElem?_cons_succ, List.getElem?_nil, List.set_cons_zero, List.set_cons_succ, ↓reduceIte, Bool.false_eq_true, Bool.not_true, Bool.not_false, Bool.true_and, Bool.false_and, Bool.and_true, Bool.and_false, Bool.or_true, Bool.or_false, Bool.true_or, Bool.false_or, Nat.reduceAdd, Nat.reduceSub, Nat.reduceLT, Nat.reduceLeDiff, true_and, and_true, and_self, decide_eq_true_eq, Nat.zero_lt_succ, Nat.lt_add_left_iff_pos, beq_self_eq_true, String.reduceBEq, String.reduceEq, Nat.le_refl, Nat.zero_le, Bool.true_eq_false, decide_true, decide_false, Int.reduceEq, Int.reduceLT, Int.reduceLE, Int.reduceSub, Int.reduceAdd, DL.wIfT, DL.wListRg, DL.eSortT, DL.eAddS, DL.eInS, DL.eLenS, DL.wSlS, DL.wI2, DL.evd_mx, DL.evd_mn, DL.evd_gcd, DL.wIStr, DL.wIEnumS, DL.wFun, DL.wWord, DL.wWordV, DL.wCallX, DL.wRaise, DL.wWordG, DL.wWordVG, DL.wRaiseI, DL.eRepS, DL.eJnL, DL.eJnT, DL.wJoin, DL.eStrI, DL.eIntS, DL.strsD_map]
    have hsz : (100 : Nat) ≤ sizeLine := by decide
    exact ⟨by rw [stC_len, show z.length = z.cps.toList.length from (Array.length_toList).symm]; omega, x ++ z.cps.toList, o3, some (.dat d), .add hx hpz, ho3, by rw [← stC_app, stC_self]⟩
  · rintro e ⟨x, o2, z2, hx, ho2, rfl⟩
    rw [range_len] at hx
    simp -implicitDefEqProofs only [DL.WW, List.isEmpty_nil, List.lookup_cons, List.lookup_nil, List.map, List.length, List.length_cons, List.length_nil, List.length_set, List.replicate, List.append, List.cons_append, List.nil_append, List.append_nil, List.getElem?_cons_zero, List.getElem?_cons_succ, List.getElem?_nil, List.set_cons_zero, List.set_cons_succ, ↓reduceIte, Bool.false_eq_true, Bool.not_true, Bool.not_false, Bool.true_and, Bool.false_and, Bool.and_true, Bool.and_false, Bool.or_true, Bool.or_false, Bool.true_or, Bool.false_or, Nat.reduceAdd, Nat.reduceSub, Nat.reduceLT, Nat.reduceLeDiff, true_and, and_true, and_self, decide_eq_true_eq, Nat.zero_lt_succ, Nat.lt_add_left_iff_pos, beq_self_eq_true, String.reduceBEq, String.reduceEq, Nat.le_refl, Nat.zero_le, Bool.true_eq_false, decide_true, decide_false, Int.reduceEq, Int.reduceLT, Int.reduceLE, Int.reduceSub, Int.reduceAdd, DL.wIfT, DL.wListRg, DL.eSortT, DL.eAddS, DL.eInS, DL.eLenS, DL.wSlS, DL.wI2, DL.evd_mx, DL.evd_mn, DL.evd_gcd, DL.wIStr, DL.wIEnumS, DL.wFun, DL.wWord, DL.wWordV, DL.wCallX, DL.wRaise, DL.wWordG, DL.wWordVG, DL.wRaiseI, DL.eRepS, DL.eJnL, DL.eJnT, DL.wJoin, DL.eStrI, DL.eIntS, DL.strsD_map]
    exact q _ _ _ (by omega) hx ho2
theorem wres_text (n : Nat) : wresD (Str.ofString "text", some (.int ((n : Nat) : Int))) = .tuple [.str (Str.ofString "text"), .int ((n : Nat) : Int)] := rfl
theorem eq_text (a b : Nat) : PyData.eqv (.tuple [.str (Str.ofString "text"), .int ((a : Nat) : Int)]) (.tuple [.str (Str.ofString "text"), .int ((b : Nat) : Int)]) = decide (a = b) := by
  rw [PyData.eqv, PyData.eqvAll, PyData.eqvAll, PyData.eqvAll, Bool.and_true, eqv_int, eqv_str, decide_eq_true rfl, Bool.true_and, Bool.eq_iff_iff, decide_eq_true_eq, decide_eq_true_eq]
  exact Int.ofNat_inj
theorem sh_text (n : Nat) : SeqAt.shaped (.tuple [.str (Str.ofString "text"), .int ((n : Nat) : Int)]) = true := by
  have h : SeqAt.shaped (.tuple [.str (Str.ofString "text"), .int ((n : Nat) : Int)]) = SeqAt.shaped (.tuple [.str (Str.ofString "text"), .int 0]) := rfl
  rw [h]
  decide +kernel
theorem read_word {T : Txt K mg} {x w : List Nat} {n m : Nat} (hx : Hd m x) (hm : m ≤ 3) (he : endB w n = true) {Q : Vl → En → Prop} {R : ExP} (q : R T.C_InvalidText [("place", .int ((x.length + w.length - n : Nat) : Int))] [none]) : FX_read T [some (.dat (.str (stC (x ++ w))))] Q R := by
  obtain ⟨h1, h2, h3, h4⟩ := endB_read he hx hm
  refine ⟨_, rfl, .str _, .inr ⟨_, rfl, h2, h3, ?_⟩⟩
  rw [h1]
  exact q
theorem word_txt {T : Txt K mg} {x w : List Nat} {n m : Nat} {Q : Vl → En → Prop} {Post : DL.WRes → Prop} {s : Str} (hx : Hd m x) (hm : m ≤ 3) (he : endB w n = true) (hs : s = stC (x ++ w)) (k : Nat) (hk : x.length + w.length - n = k) (q : Post (Str.ofString "text", some (.int ((k : Nat) : Int)))) : FX_read T [some (.dat (.str s))] Q (fun C fl _ => ∃ r, WordIs T C fl r ∧ (∀ (b : PyData), r.2 = some b → ∃ v, IN b v) ∧ Post r) := by
  subst hs hk
  exact read_word hx hm he ⟨_, .textW _, fun b e => (by cases e; exact ⟨_, .int _⟩), q⟩
theorem str_dat {d : PyData} {f : Str → Bool} (h : (match d with | .str z => f z | _ => false) = true) : ∃ z, d = .str z ∧ f z = true := by
  cases d with
  | str z => exact ⟨z, rfl, h⟩
  | _ => cases h
theorem ok_of {z : Str} {w : List Nat} {n : Nat} (h : endB w n = true) (hz : ∀ c ∈ z.cps.toList, c ∈ w) : PyData.strOk z = true := by
  unfold endB at h
  simp only [Bool.and_eq_true, decide_eq_true_eq, List.all_eq_true] at h
  rw [← stC_self z]
  exact stC_ok fun c hc => by have := h.2 c (hz c hc); omega
theorem len_z (z : Str) : z.length = z.cps.toList.length := (Array.length_toList).symm
theorem end_len {w : List Nat} {n : Nat} (h : endB w n = true) : w.length ≤ 1000 ∧ n ≤ w.length := by
  unfold endB at h
  simp only [Bool.and_eq_true, decide_eq_true_eq, List.all_eq_true] at h
  exact ⟨h.1.2, h.1.1.2⟩
theorem app3 (x : List Nat) (y z : Str) : stC x ++ y ++ z = stC (x ++ (y.cps.toList ++ z.cps.toList)) := by
  conv => lhs; rw [← stC_self y, ← stC_self z]
  rw [stC_app, stC_app, List.append_assoc]
def chk1 : PyData → Bool
  | .str z => endB (z.cps.toList ++ [125]) (z.cps.toList.length + 1)
  | _ => false
def chk2 : PyData → Bool
  | .tuple [.str y, .str z] => endB (y.cps.toList ++ z.cps.toList) z.cps.toList.length
  | _ => false
def chk3 : PyData → Bool
  | .str z => endB z.cps.toList 0
  | _ => false
def chk0 : PyData → Bool
  | .str z => endB z.cps.toList (z.cps.toList.length - if z = Str.ofString "--1" then 1 else 0) && (if z = Str.ofString "--1" then decide (z.cps.toList.length = 3) else true)
  | _ => false
def bigL (x : List Nat) : Bool := decide (x.length ≤ 40000) && (x.all fun c => decide (c < 128)) && match readR x with
  | .ok g => decide (GB.szD (gD g) ≤ 90000) && !GB.gameB (gD g)
  | _ => false
def goodL (x : List Nat) : Bool := decide (x.length ≤ 40000) && (x.all fun c => decide (c < 128)) && match readR x with
  | .ok g => decide (GB.szD (gD g) ≤ 90000) && GB.gameB (gD g)
  | _ => false
def badL (x : List Nat) (n : Nat) : Bool := decide (x.length ≤ 40000) && (x.all fun c => decide (c < 128)) && match readR x with
  | .err k => decide (k = n)
  | _ => false
theorem word_big {T : Txt K mg} {Q : Vl → En → Prop} {Post : DL.WRes → Prop} {s : Str} {x : List Nat} (hx : s.cps.toList = x) (h : bigL x = true) (q : Post (Str.ofString "large", some (.int 2000))) : FX_read T [some (.dat (.str s))] Q (fun C fl _ => ∃ r, WordIs T C fl r ∧ (∀ (b : PyData), r.2 = some b → ∃ v, IN b v) ∧ Post r) := by
  subst hx
  unfold bigL at h
  simp only [Bool.and_eq_true, decide_eq_true_eq, List.all_eq_true] at h
  obtain ⟨⟨h1, h2⟩, h3⟩ := h
  refine ⟨_, rfl, .str _, .inr ⟨s.cps.toList, by rw [stC_self], h1, h2, ?_⟩⟩
  generalize readR s.cps.toList = z at h3
  cases z with
  | out => cases h3
  | err n => cases h3
  | ok g =>
    simp only [Bool.and_eq_true, decide_eq_true_eq, Bool.not_eq_true'] at h3
    exact ⟨h3.1, fun h => absurd (h3.2.symm.trans h) (by decide), fun _ => ⟨_, .large _, fun b e => (by cases e; exact ⟨_, .int _⟩), q⟩⟩
theorem word_bad {T : Txt K mg} {Q : Vl → En → Prop} {Post : DL.WRes → Prop} {s : Str} {n : Nat} {x : List Nat} (hx : s.cps.toList = x) (h : badL x n = true) (q : Post (Str.ofString "text", some (.int ((n : Nat) : Int)))) : FX_read T [some (.dat (.str s))] Q (fun C fl _ => ∃ r, WordIs T C fl r ∧ (∀ (b : PyData), r.2 = some b → ∃ v, IN b v) ∧ Post r) := by
  subst hx
  unfold badL at h
  simp only [Bool.and_eq_true, decide_eq_true_eq, List.all_eq_true] at h
  obtain ⟨⟨h1, h2⟩, h3⟩ := h
  refine ⟨_, rfl, .str _, .inr ⟨s.cps.toList, by rw [stC_self], h1, h2, ?_⟩⟩
  generalize readR s.cps.toList = z at h3
  cases z with
  | out => cases h3
  | ok n => cases h3
  | err k =>
    have := of_decide_eq_true h3
    subst this
    exact ⟨_, .textW _, fun b e => (by cases e; exact ⟨_, .int _⟩), q⟩
theorem word_good {T : Txt K mg} {Q : Vl → En → Prop} {R : ExP} {s : Str} {x : List Nat} (hx : s.cps.toList = x) (h : goodL x = true) (q : ∀ g, Q (.dat (gD g)) [none]) : FX_read T [some (.dat (.str s))] Q R := by
  subst hx
  unfold goodL at h
  simp only [Bool.and_eq_true, decide_eq_true_eq, List.all_eq_true] at h
  obtain ⟨⟨h1, h2⟩, h3⟩ := h
  refine ⟨_, rfl, .str _, .inr ⟨s.cps.toList, by rw [stC_self], h1, h2, ?_⟩⟩
  generalize readR s.cps.toList = z at h3
  cases z with
  | out => cases h3
  | err n => cases h3
  | ok g =>
    simp only [Bool.and_eq_true, decide_eq_true_eq] at h3
    exact ⟨h3.1, fun _ => q g, fun h => absurd (h3.2.symm.trans h) (by decide)⟩
def longT (z : Str) : Str := Str.ofString "{" ++ repS (Str.ofString "*,") 665 ++ Str.ofString "*|" ++ z ++ Str.ofString "}"
def longL (l : List Nat) : List Nat := [123] ++ (List.replicate 665 [42, 44]).flatten ++ [42, 124] ++ l ++ [125]
theorem long_big : bigL (longL [48, 44, 48]) = true := by decide +kernel
theorem long_good : goodL (longL [48]) = true := by decide +kernel
theorem rep_cps (a : Array Nat) : ∀ (m : Nat) (acc : Array Nat), ((List.replicate m a).foldl (· ++ ·) acc).toList = acc.toList ++ (List.replicate m a.toList).flatten
  | 0, acc => by simp
  | m + 1, acc => by
    rw [List.replicate_succ, List.foldl_cons, rep_cps a m, Array.toList_append, List.replicate_succ, List.flatten_cons, List.append_assoc]
theorem app_cps (a b : Str) : (a ++ b).cps.toList = a.cps.toList ++ b.cps.toList := by
  show (a.cps ++ b.cps).toList = _
  rw [Array.toList_append]
theorem repS_cps (z : Str) (k : Int) : (repS z k).cps.toList = (List.replicate k.toNat z.cps.toList).flatten := by
  show ((List.replicate k.toNat z.cps).foldl (· ++ ·) #[]).toList = _
  rw [rep_cps]
  rfl
theorem c_o : (Str.ofString "{").cps.toList = [123] := by decide +kernel
theorem c_bc : (Str.ofString "|}").cps.toList = [124, 125] := by decide +kernel
def deepT (k : Int) : Str := repS (Str.ofString "{") (42 + k) ++ Str.ofString "|}" ++ repS (Str.ofString "|}") (42 + k - 1)
def deepL (k : Nat) : List Nat := (List.replicate k [123]).flatten ++ [124, 125] ++ (List.replicate (k - 1) [124, 125]).flatten
theorem deep_big : ((List.range 19).all fun j => bigL (deepL (42 + j))) = true := by decide +kernel
def manyT (k : Int) : Str := repS (Str.ofString "{") (61 + k) ++ repS (Str.ofString "|}") (61 + k)
def manyL (k : Nat) : List Nat := (List.replicate k [123]).flatten ++ (List.replicate k [124, 125]).flatten
theorem many_bad : ((List.range 40).all fun j => badL (manyL (61 + j)) 60) = true := by decide +kernel
theorem deep_of {k : Int} (h0 : 0 ≤ k) (h1 : k < 19) : (deepT k).cps.toList = deepL (42 + k.toNat) ∧ bigL (deepL (42 + k.toNat)) = true := by
  refine ⟨?_, List.all_eq_true.mp deep_big k.toNat (List.mem_range.mpr (by omega))⟩
  unfold deepT deepL
  rw [app_cps, app_cps, repS_cps, repS_cps, c_o, c_bc, show (42 + k).toNat = 42 + k.toNat by omega, show (42 + k - 1).toNat = 42 + k.toNat - 1 by omega]
theorem many_of {k : Int} (h0 : 0 ≤ k) (h1 : k < 40) : (manyT k).cps.toList = manyL (61 + k.toNat) ∧ badL (manyL (61 + k.toNat)) 60 = true := by
  refine ⟨?_, List.all_eq_true.mp many_bad k.toNat (List.mem_range.mpr (by omega))⟩
  unfold manyT manyL
  rw [app_cps, repS_cps, repS_cps, c_o, c_bc, show (61 + k).toNat = 61 + k.toNat by omega]
theorem long_eq (z : Str) : (longT z).cps.toList = longL z.cps.toList := by
  unfold longT longL
  rw [app_cps, app_cps, app_cps, app_cps]
  have e1 : (Str.ofString "{").cps.toList = [123] := by decide +kernel
  have e2 : (Str.ofString "*|").cps.toList = [42, 124] := by decide +kernel
  have e3 : (Str.ofString "}").cps.toList = [125] := by decide +kernel
  have e4 : (Str.ofString "*,").cps.toList = [42, 44] := by decide +kernel
  have e5 : (repS (Str.ofString "*,") 665).cps.toList = (List.replicate 665 [42, 44]).flatten := by
    show ((List.replicate 665 (Str.ofString "*,").cps).foldl (· ++ ·) #[]).toList = _
    rw [rep_cps, e4]
    rfl
  rw [e1, e2, e3, e5]
theorem wres_large : wresD (Str.ofString "large", some (.int 2000)) = .tuple [.str (Str.ofString "large"), .int 2000] := rfl
mutual
def npG : PyData → Bool
  | .tuple ds => npGs ds
  | .dict ks => ks.isEmpty
  | .none => true
  | .int _ => true
  | .bool _ => true
  | .str _ => true
  | .list _ => true
def npGs : List PyData → Bool
  | [] => true
  | d :: ds => npG d && npGs ds
end
mutual
theorem npG_of : ∀ d : PyData, npG d = true → GB.NP d
  | .tuple ds, h => .tup ds (npGs_of ds (by rw [npG] at h; exact h))
  | .dict [], _ => .dic
  | .dict (_ :: _), h => by rw [npG] at h; cases h
  | .none, _ => .non
  | .int _, _ => .int _
  | .bool _, _ => .bool _
  | .str _, _ => .str _
  | .list _, _ => .lst _
theorem npGs_of : ∀ ds : List PyData, npGs ds = true → ∀ d ∈ ds, GB.NP d
  | [], _ => fun d h => by cases h
  | a :: ds, hb => List.forall_mem_cons.mpr ⟨npG_of a (by rw [npGs, Bool.and_eq_true] at hb; exact hb.1), npGs_of ds (by rw [npGs, Bool.and_eq_true] at hb; exact hb.2)⟩
end
theorem pickG {g : PyData → Bool} {ds : List PyData} (h : (ds.all fun d => npG d && g d) = true) {d : PyData} (hd : d ∈ ds) : GB.NP d ∧ g d = true := by
  have := List.all_eq_true.mp h d hd
  rw [Bool.and_eq_true] at this
  exact ⟨npG_of _ this.1, this.2⟩
def F_law (T : Txt K mg) : GSp := fun args G P => ∃ ns : List Int, args = [some (.dat (.list (ns.map PyData.int)))] ∧ G T.cP_law = some (tabC "law.<locals>.<lambda>") ∧ ns.length ≤ 63 ∧ ∀ G', P (.dat (.bool true)) [none] G'
theorem ok_law {k : Nat} (T : Txt K mg) (hB : LamX.TabB base mg T.cc_law T.cP_law) (G_law_head : FnOk P w K mg base CX0 (k + 2) T.a_law_head T.d_law_head ["_law_row"] (spD K F_law_head)) (G_law_taken : FnOk P w K mg base CX0 (k + 2) T.a_law_taken T.d_law_taken ["_law_row", "_law_many"] (spD K F_law_taken)) (G_law_pick : FnOk P w K mg base CX0 (k + 2) T.a_law_pick T.d_law_pick ["_law_row", "_law_things"] (spD K F_law_pick)) (GX_read : FnOk P w K mg base (L2.CX P w) k T.a_read T.d_read ["text"] (spX K (FX_read T))) (GX_write : FnOk P w K mg base (L2.CX P w) k T.a_write T.d_write ["game"] (spX K (FX_write T))) (GL_law_pick : FnOk P w K mg base CX0 k T.a_law_pick T.d_law_pick ["_law_row", "_law_things"] (spD K F_law_pick)) : FnOk P w K mg base CX0 (k + 2 + 1) T.a_law T.d_law ["_law_script"] (spG K (F_law T)) := by
  refine (fun (hA : ∀ args G P, (F_law T) args G P → args.length = 1) => T.fc_law.ok (sp := spG K (F_law T)) sc_law (fun vs H Q E h => spG_len hA h) (fun A outer s H vs Q E hr h => ⟨_, (pss_cons (ps_set (i := 1) sc_law.nd rfl (Or.inr rfl) (pe_lst (pa_cons (pv 0) (pa_cons pe_int (pa_cons pe_int (pa_cons pe_int pa_nil))))))
  (pss_cons (ps_asg (pe_tup (pa_cons (pe_call G_law_head hr rfl T.g_law_head T.F_law_head.kp T.b_law_head .nil pass0 (pa_cons (pv 1) pa_nil)) (pa_cons (pe_call G_law_taken hr rfl T.g_law_taken T.F_law_taken.kp T.b_law_taken .nil pass0 (pa_cons (pv 1) (pa_cons pe_int pa_nil))) pa_nil))) (pg_tupK (K := K) (n := 2) rfl rfl (pgs_cons (pg_name (i := 2) sc_law.nd rfl (Or.inr rfl)) (pgs_cons (pg_name (i := 3) sc_law.nd rfl (Or.inl rfl)) pgs_nil))))
  (pss_cons (ps_if (pt_cmpR (op_eqDK (K := K) rfl hr.units) (pv 3) pe_int (nomark _))
  (pss_cons (ps_set (i := 4) sc_law.nd rfl (Or.inr rfl) (pe_call G_law_pick hr rfl T.g_law_pick T.F_law_pick.kp T.b_law_pick .nil pass0 (pa_cons (pv 1) (pa_cons (pe_lst (pa_cons pe_str (pa_cons pe_str (pa_cons pe_str (pa_cons pe_str (pa_cons pe_str (pa_cons pe_str (pa_cons pe_str (pa_cons pe_str (pa_cons pe_str (pa_cons pe_str (pa_cons pe_str (pa_cons pe_str (pa_cons pe_str pa_nil)))))))))))))) pa_nil))))
  (pss_cons (ps_set (i := 5) sc_law.nd rfl (Or.inl rfl) (pe_op op_add (pe_callB call_len_str rfl T.m_len PySem.boot_len (pa_cons (pv 2) pa_nil)) (pe_ifExp (pt_cmpR (op_eqDK (K := K) rfl hr.units) (pv 4) pe_str (nomark _)) pe_int pe_int)))
  (pss_one (ps_ret (pe_cmpR (op_eqDK (K := K) rfl hr.units) (LamY.pe_lamF (q := "law.<locals>.<lambda>") (P := T.cP_law) (c := T.cc_law) (k := k) rfl T.g_law_word T.F_law_word T.b_law_word sc_law_word rfl (Or.inl rfl) (fun cdv => word_gives (K := K) (mg := mg) rfl rfl T _ cdv) hB rfl rfl hr (LamY.lamN_by (sc := defScope s_law) (N := ["_law_script", "_law_row", "_law_head_here", "_law_way", "_law_wrong", "_law_place", "_law_some", "_law_good", "_law_more", "_law_short", "_law_deep", "_law_text", "_law_many", "_law_due"]) (by decide +kernel)) (LamY.DefW.no rfl rfl) LamY.binds_none (fun A' outer' s' H' E' f' d' hr2 => (pe_call GX_read hr2 rfl T.g_read T.F_read.kp T.b_read .nil (passes_call (takes_of rfl rfl rfl rfl) (fun _ _ _ _ h => h)) (pa_cons (pe_op op_add_str (pv 2) (pv 4)) pa_nil)))) (pe_tup (pa_cons pe_str (pa_cons (pv 5) pa_nil))) (nomark _))))))
  pss_nil)
  (pss_cons (ps_if (pt_cmpR (op_eqDK (K := K) rfl hr.units) (pv 3) pe_int (nomark _))
  (pss_cons (ps_set (i := 6) sc_law.nd rfl (Or.inr rfl) (pe_lst (pa_cons pe_str (pa_cons pe_str (pa_cons pe_str (pa_cons pe_str (pa_cons pe_str (pa_cons pe_str (pa_cons pe_str (pa_cons pe_str (pa_cons pe_str (pa_cons pe_str (pa_cons pe_str (pa_cons pe_str (pa_cons pe_str pa_nil)))))))))))))))
  (pss_cons (ps_set (i := 6) sc_law.nd rfl (Or.inr rfl) (pe_op (op_catQ (K := K) rfl) (pv 6) (pe_lst (pa_cons pe_str (pa_cons pe_str (pa_cons pe_str (pa_cons pe_str (pa_cons pe_str (pa_cons pe_str (pa_cons pe_str (pa_cons pe_str (pa_cons pe_str (pa_cons pe_str pa_nil)))))))))))))
  (pss_one (ps_ret (pe_cmpR (op_eqDK (K := K) rfl hr.units) (LamY.pe_lamF (q := "law.<locals>.<lambda>") (P := T.cP_law) (c := T.cc_law) (k := k) rfl T.g_law_word T.F_law_word T.b_law_word sc_law_word rfl (Or.inl rfl) (fun cdv => word_gives (K := K) (mg := mg) rfl rfl T _ cdv) hB rfl rfl hr (LamY.lamN_by (sc := defScope s_law) (N := ["_law_script", "_law_row", "_law_head_here", "_law_way", "_law_wrong", "_law_place", "_law_some", "_law_good", "_law_more", "_law_short", "_law_deep", "_law_text", "_law_many", "_law_due"]) (by decide +kernel)) (LamY.DefW.no rfl rfl) LamY.binds_none (fun A' outer' s' H' E' f' d' hr2 => (pe_call GX_read hr2 rfl T.g_read T.F_read.kp T.b_read .nil (passes_call (takes_of rfl rfl rfl rfl) (fun _ _ _ _ h => h)) (pa_cons (pe_op op_add_str (pe_op op_add_str (pv 2) (pe_call GL_law_pick hr2 rfl T.g_law_pick T.F_law_pick.kp T.b_law_pick .nil pass0 (pa_cons (pv 1) (pa_cons (pv 6) pa_nil)))) pe_str) pa_nil)))) (pe_tup (pa_cons pe_str (pa_cons (pe_callB call_len_str rfl T.m_len PySem.boot_len (pa_cons (pv 2) pa_nil)) pa_nil))) (nomark _))))))
  pss_nil)
  (pss_cons (ps_if (pt_cmpR (op_eqDK (K := K) rfl hr.units) (pv 3) pe_int (nomark _))
  (pss_cons (ps_set (i := 6) sc_law.nd rfl (Or.inr rfl) (pe_lst (pa_cons (pe_tup (pa_cons pe_str (pa_cons pe_str pa_nil))) (pa_cons (pe_tup (pa_cons pe_str (pa_cons pe_str pa_nil))) (pa_cons (pe_tup (pa_cons pe_str (pa_cons pe_str pa_nil))) (pa_cons (pe_tup (pa_cons pe_str (pa_cons pe_str pa_nil))) (pa_cons (pe_tup (pa_cons pe_str (pa_cons pe_str pa_nil))) (pa_cons (pe_tup (pa_cons pe_str (pa_cons pe_str pa_nil))) (pa_cons (pe_tup (pa_cons pe_str (pa_cons pe_str pa_nil))) pa_nil)))))))))
  (pss_cons (ps_asg (pe_call G_law_pick hr rfl T.g_law_pick T.F_law_pick.kp T.b_law_pick .nil pass0 (pa_cons (pv 1) (pa_cons (pv 6) pa_nil))) (pg_tupK (K := K) (n := 2) rfl rfl (pgs_cons (pg_name (i := 7) sc_law.nd rfl (Or.inr rfl)) (pgs_cons (pg_name (i := 8) sc_law.nd rfl (Or.inr rfl)) pgs_nil))))
  (pss_cons (ps_if (pt_cmpR (op_neDK (K := K) rfl hr.units) (LamY.pe_lamF (q := "law.<locals>.<lambda>") (P := T.cP_law) (c := T.cc_law) (k := k) rfl T.g_law_word T.F_law_word T.b_law_word sc_law_word rfl (Or.inl rfl) (fun cdv => word_gives (K := K) (mg := mg) rfl rfl T _ cdv) hB rfl rfl hr (LamY.lamN_by (sc := defScope s_law) (N := ["_law_script", "_law_row", "_law_head_here", "_law_way", "_law_wrong", "_law_place", "_law_some", "_law_good", "_law_more", "_law_short", "_law_deep", "_law_text", "_law_many", "_law_due"]) (by decide +kernel)) (LamY.DefW.no rfl rfl) LamY.binds_none (fun A' outer' s' H' E' f' d' hr2 => (pe_call GX_read hr2 rfl T.g_read T.F_read.kp T.b_read .nil (passes_call (takes_of rfl rfl rfl rfl) (fun _ _ _ _ h => h)) (pa_cons (pe_op op_add_str (pe_op op_add_str (pv 2) (pv 7)) (pv 8)) pa_nil)))) (pe_tup (pa_cons pe_str (pa_cons (pe_op op_add (pe_callB call_len_str rfl T.m_len PySem.boot_len (pa_cons (pv 2) pa_nil)) (pe_callB call_len_str rfl T.m_len PySem.boot_len (pa_cons (pv 7) pa_nil))) pa_nil))) (nomark _))
  (pss_one (ps_ret pe_bl))
  pss_nil)
  (pss_cons (ps_set (i := 9) sc_law.nd rfl (Or.inr rfl) (pe_call G_law_pick hr rfl T.g_law_pick T.F_law_pick.kp T.b_law_pick .nil pass0 (pa_cons (pv 1) (pa_cons (pe_lst (pa_cons pe_str (pa_cons pe_str (pa_cons pe_str (pa_cons pe_str (pa_cons pe_str (pa_cons pe_str (pa_cons pe_str (pa_cons pe_str (pa_cons pe_str (pa_cons pe_str pa_nil))))))))))) pa_nil))))
  (pss_one (ps_ret (pe_cmpR (op_eqDK (K := K) rfl hr.units) (LamY.pe_lamF (q := "law.<locals>.<lambda>") (P := T.cP_law) (c := T.cc_law) (k := k) rfl T.g_law_word T.F_law_word T.b_law_word sc_law_word rfl (Or.inl rfl) (fun cdv => word_gives (K := K) (mg := mg) rfl rfl T _ cdv) hB rfl rfl hr (LamY.lamN_by (sc := defScope s_law) (N := ["_law_script", "_law_row", "_law_head_here", "_law_way", "_law_wrong", "_law_place", "_law_some", "_law_good", "_law_more", "_law_short", "_law_deep", "_law_text", "_law_many", "_law_due"]) (by decide +kernel)) (LamY.DefW.no rfl rfl) LamY.binds_none (fun A' outer' s' H' E' f' d' hr2 => (pe_call GX_read hr2 rfl T.g_read T.F_read.kp T.b_read .nil (passes_call (takes_of rfl rfl rfl rfl) (fun _ _ _ _ h => h)) (pa_cons (pe_op op_add_str (pv 2) (pv 9)) pa_nil)))) (pe_tup (pa_cons pe_str (pa_cons (pe_op op_add (pe_callB call_len_str rfl T.m_len PySem.boot_len (pa_cons (pv 2) pa_nil)) (pe_callB call_len_str rfl T.m_len PySem.boot_len (pa_cons (pv 9) pa_nil))) pa_nil))) (nomark _))))))))
  pss_nil)
  (pss_cons (ps_if (pt_cmpR (op_eqDK (K := K) rfl hr.units) (pv 3) pe_int (nomark _))
  (pss_cons (ps_set (i := 4) sc_law.nd rfl (Or.inr rfl) (pe_call G_law_pick hr rfl T.g_law_pick T.F_law_pick.kp T.b_law_pick .nil pass0 (pa_cons (pv 1) (pa_cons (pe_lst (pa_cons pe_non (pa_cons pe_int (pa_cons pe_bl (pa_cons (pe_tup (pa_cons pe_str pa_nil)) (pa_cons (pe_lst (pa_cons pe_str pa_nil)) (pa_cons pe_int (pa_cons pe_dnewK pa_nil)))))))) pa_nil))))
  (pss_cons (ps_if (pt_cmpR (op_neDK (K := K) rfl hr.units) (LamY.pe_lamF (q := "law.<locals>.<lambda>") (P := T.cP_law) (c := T.cc_law) (k := k) rfl T.g_law_word T.F_law_word T.b_law_word sc_law_word rfl (Or.inl rfl) (fun cdv => word_gives (K := K) (mg := mg) rfl rfl T _ cdv) hB rfl rfl hr (LamY.lamN_by (sc := defScope s_law) (N := ["_law_script", "_law_row", "_law_head_here", "_law_way", "_law_wrong", "_law_place", "_law_some", "_law_good", "_law_more", "_law_short", "_law_deep", "_law_text", "_law_many", "_law_due"]) (by decide +kernel)) (LamY.DefW.no rfl rfl) LamY.binds_none (fun A' outer' s' H' E' f' d' hr2 => (pe_call GX_read hr2 rfl T.g_read T.F_read.kp T.b_read .nil (passes_call (takes_of rfl rfl rfl rfl) (fun _ _ _ _ h => h)) (pa_cons (pv 4) pa_nil)))) pe_str (nomark _))
  (pss_one (ps_ret pe_bl))
  pss_nil)
  (pss_one (ps_ret (pe_cmpR (op_eqDK (K := K) rfl hr.units) (LamY.pe_lamF (q := "law.<locals>.<lambda>") (P := T.cP_law) (c := T.cc_law) (k := k) rfl T.g_law_word T.F_law_word T.b_law_word sc_law_word rfl (Or.inl rfl) (fun cdv => word_gives (K := K) (mg := mg) rfl rfl T _ cdv) hB rfl rfl hr (LamY.lamN_by (sc := defScope s_law) (N := ["_law_script", "_law_row", "_law_head_here", "_law_way", "_law_wrong", "_law_place", "_law_some", "_law_good", "_law_more", "_law_short", "_law_deep", "_law_text", "_law_many", "_law_due"]) (by decide +kernel)) (LamY.DefW.no rfl rfl) LamY.binds_none (fun A' outer' s' H' E' f' d' hr2 => (pe_call GX_write hr2 rfl T.g_write T.F_write.kp T.b_write .nil (passes_call (takes_of rfl rfl rfl rfl) (fun _ _ _ _ h => h)) (pa_cons (pv 4) pa_nil)))) pe_str (nomark _))))))
  pss_nil)
  (pss_cons (ps_if (pt_cmpR (op_eqDK (K := K) rfl hr.units) (pv 3) pe_int (nomark _))
  (pss_cons (ps_set (i := 10) sc_law.nd rfl (Or.inl rfl) (pe_op op_add pe_int (pe_call G_law_taken hr rfl T.g_law_taken T.F_law_taken.kp T.b_law_taken .nil pass0 (pa_cons (pv 1) (pa_cons pe_int pa_nil)))))
  (pss_cons (ps_set (i := 11) sc_law.nd rfl (Or.inr rfl) (pe_op op_add_str (pe_op op_add_str (pe_op op_repS pe_str (pv 10)) pe_str) (pe_op op_repS pe_str (pe_op op_sub (pv 10) pe_int))))
  (pss_cons (ps_if (pt_cmpR (op_neDK (K := K) rfl hr.units) (LamY.pe_lamF (q := "law.<locals>.<lambda>") (P := T.cP_law) (c := T.cc_law) (k := k) rfl T.g_law_word T.F_law_word T.b_law_word sc_law_word rfl (Or.inl rfl) (fun cdv => word_gives (K := K) (mg := mg) rfl rfl T _ cdv) hB rfl rfl hr (LamY.lamN_by (sc := defScope s_law) (N := ["_law_script", "_law_row", "_law_head_here", "_law_way", "_law_wrong", "_law_place", "_law_some", "_law_good", "_law_more", "_law_short", "_law_deep", "_law_text", "_law_many", "_law_due"]) (by decide +kernel)) (LamY.DefW.no rfl rfl) LamY.binds_none (fun A' outer' s' H' E' f' d' hr2 => (pe_call GX_read hr2 rfl T.g_read T.F_read.kp T.b_read .nil (passes_call (takes_of rfl rfl rfl rfl) (fun _ _ _ _ h => h)) (pa_cons (pv 11) pa_nil)))) (pe_tup (pa_cons pe_str (pa_cons pe_int pa_nil))) (nomark _))
  (pss_one (ps_ret pe_bl))
  pss_nil)
  (pss_cons (ps_set (i := 11) sc_law.nd rfl (Or.inr rfl) (pe_op op_add_str (pe_op op_add_str (pe_op op_repS pe_str pe_int) pe_str) (pe_op op_repS pe_str pe_int)))
  (pss_cons (ps_if (pt_cmpR (op_neDK (K := K) rfl hr.units) (LamY.pe_lamF (q := "law.<locals>.<lambda>") (P := T.cP_law) (c := T.cc_law) (k := k) rfl T.g_law_word T.F_law_word T.b_law_word sc_law_word rfl (Or.inl rfl) (fun cdv => word_gives (K := K) (mg := mg) rfl rfl T _ cdv) hB rfl rfl hr (LamY.lamN_by (sc := defScope s_law) (N := ["_law_script", "_law_row", "_law_head_here", "_law_way", "_law_wrong", "_law_place", "_law_some", "_law_good", "_law_more", "_law_short", "_law_deep", "_law_text", "_law_many", "_law_due"]) (by decide +kernel)) (LamY.DefW.no rfl rfl) LamY.binds_none (fun A' outer' s' H' E' f' d' hr2 => (pe_call GX_read hr2 rfl T.g_read T.F_read.kp T.b_read .nil (passes_call (takes_of rfl rfl rfl rfl) (fun _ _ _ _ h => h)) (pa_cons (pv 11) pa_nil)))) (pe_tup (pa_cons pe_str (pa_cons pe_int pa_nil))) (nomark _))
  (pss_one (ps_ret pe_bl))
  pss_nil)
  (pss_cons (ps_if (pt_cmpR (op_neDK (K := K) rfl hr.units) (LamY.pe_lamF (q := "law.<locals>.<lambda>") (P := T.cP_law) (c := T.cc_law) (k := k) rfl T.g_law_word T.F_law_word T.b_law_word sc_law_word rfl (Or.inl rfl) (fun cdv => word_gives (K := K) (mg := mg) rfl rfl T _ cdv) hB rfl rfl hr (LamY.lamN_by (sc := defScope s_law) (N := ["_law_script", "_law_row", "_law_head_here", "_law_way", "_law_wrong", "_law_place", "_law_some", "_law_good", "_law_more", "_law_short", "_law_deep", "_law_text", "_law_many", "_law_due"]) (by decide +kernel)) (LamY.DefW.no rfl rfl) LamY.binds_none (fun A' outer' s' H' E' f' d' hr2 => (pe_call GX_read hr2 rfl T.g_read T.F_read.kp T.b_read .nil (passes_call (takes_of rfl rfl rfl rfl) (fun _ _ _ _ h => h)) (pa_cons (pe_slice sl_str (pv 11) (po_some pe_int) (po_some (pe_un un_neg pe_int))) pa_nil)))) pe_str (nomark _))
  (pss_one (ps_ret pe_bl))
  pss_nil)
  (pss_cons (ps_set (i := 12) sc_law.nd rfl (Or.inr rfl) (pe_op op_add pe_int (pe_call G_law_taken hr rfl T.g_law_taken T.F_law_taken.kp T.b_law_taken .nil pass0 (pa_cons (pv 1) (pa_cons pe_int pa_nil)))))
  (pss_one (ps_ret (pe_cmpR (op_eqDK (K := K) rfl hr.units) (LamY.pe_lamF (q := "law.<locals>.<lambda>") (P := T.cP_law) (c := T.cc_law) (k := k) rfl T.g_law_word T.F_law_word T.b_law_word sc_law_word rfl (Or.inl rfl) (fun cdv => word_gives (K := K) (mg := mg) rfl rfl T _ cdv) hB rfl rfl hr (LamY.lamN_by (sc := defScope s_law) (N := ["_law_script", "_law_row", "_law_head_here", "_law_way", "_law_wrong", "_law_place", "_law_some", "_law_good", "_law_more", "_law_short", "_law_deep", "_law_text", "_law_many", "_law_due"]) (by decide +kernel)) (LamY.DefW.no rfl rfl) LamY.binds_none (fun A' outer' s' H' E' f' d' hr2 => (pe_call GX_read hr2 rfl T.g_read T.F_read.kp T.b_read .nil (passes_call (takes_of rfl rfl rfl rfl) (fun _ _ _ _ h => h)) (pa_cons (pe_op op_add_str (pe_op op_repS pe_str (pv 12)) (pe_op op_repS pe_str (pv 12))) pa_nil)))) (pe_tup (pa_cons pe_str (pa_cons pe_int pa_nil))) (nomark _)))))))))))
  pss_nil)
  (pss_cons (ps_set (i := 8) sc_law.nd rfl (Or.inr rfl) (pe_call G_law_pick hr rfl T.g_law_pick T.F_law_pick.kp T.b_law_pick .nil pass0 (pa_cons (pv 1) (pa_cons (pe_lst (pa_cons pe_str (pa_cons pe_str pa_nil))) pa_nil))))
  (pss_cons (ps_set (i := 11) sc_law.nd rfl (Or.inr rfl) (pe_op op_add_str (pe_op op_add_str (pe_op op_add_str (pe_op op_add_str pe_str (pe_op op_repS pe_str pe_int)) pe_str) (pv 8)) pe_str))
  (pss_cons (ps_set (i := 13) sc_law.nd rfl (Or.inl rfl) (pe_ifExp (pt_cmpR (op_eqDK (K := K) rfl hr.units) (pv 8) pe_str (nomark _)) (pe_tup (pa_cons pe_str (pa_cons pe_int pa_nil))) pe_str))
  (pss_cons (ps_if (pt_cmpR (op_neDK (K := K) rfl hr.units) (LamY.pe_lamF (q := "law.<locals>.<lambda>") (P := T.cP_law) (c := T.cc_law) (k := k) rfl T.g_law_word T.F_law_word T.b_law_word sc_law_word rfl (Or.inl rfl) (fun cdv => word_gives (K := K) (mg := mg) rfl rfl T _ cdv) hB rfl rfl hr (LamY.lamN_by (sc := defScope s_law) (N := ["_law_script", "_law_row", "_law_head_here", "_law_way", "_law_wrong", "_law_place", "_law_some", "_law_good", "_law_more", "_law_short", "_law_deep", "_law_text", "_law_many", "_law_due"]) (by decide +kernel)) (LamY.DefW.no rfl rfl) LamY.binds_none (fun A' outer' s' H' E' f' d' hr2 => (pe_call GX_read hr2 rfl T.g_read T.F_read.kp T.b_read .nil (passes_call (takes_of rfl rfl rfl rfl) (fun _ _ _ _ h => h)) (pa_cons (pv 11) pa_nil)))) (pv 13) (nomark _))
  (pss_one (ps_ret pe_bl))
  pss_nil)
  (pss_cons (ps_if (pt_cmpR (op_neDK (K := K) rfl hr.units) (LamY.pe_lamF (q := "law.<locals>.<lambda>") (P := T.cP_law) (c := T.cc_law) (k := k) rfl T.g_law_word T.F_law_word T.b_law_word sc_law_word rfl (Or.inl rfl) (fun cdv => word_gives (K := K) (mg := mg) rfl rfl T _ cdv) hB rfl rfl hr (LamY.lamN_by (sc := defScope s_law) (N := ["_law_script", "_law_row", "_law_head_here", "_law_way", "_law_wrong", "_law_place", "_law_some", "_law_good", "_law_more", "_law_short", "_law_deep", "_law_text", "_law_many", "_law_due"]) (by decide +kernel)) (LamY.DefW.no rfl rfl) LamY.binds_none (fun A' outer' s' H' E' f' d' hr2 => (pe_call GX_read hr2 rfl T.g_read T.F_read.kp T.b_read .nil (passes_call (takes_of rfl rfl rfl rfl) (fun _ _ _ _ h => h)) (pa_cons pe_str pa_nil)))) (pe_tup (pa_cons pe_str (pa_cons pe_int pa_nil))) (nomark _))
  (pss_one (ps_ret pe_bl))
  pss_nil)
  (pss_one (ps_ret (pe_cmpR (op_eqDK (K := K) rfl hr.units) (LamY.pe_lamF (q := "law.<locals>.<lambda>") (P := T.cP_law) (c := T.cc_law) (k := k) rfl T.g_law_word T.F_law_word T.b_law_word sc_law_word rfl (Or.inl rfl) (fun cdv => word_gives (K := K) (mg := mg) rfl rfl T _ cdv) hB rfl rfl hr (LamY.lamN_by (sc := defScope s_law) (N := ["_law_script", "_law_row", "_law_head_here", "_law_way", "_law_wrong", "_law_place", "_law_some", "_law_good", "_law_more", "_law_short", "_law_deep", "_law_text", "_law_many", "_law_due"]) (by decide +kernel)) (LamY.DefW.no rfl rfl) LamY.binds_none (fun A' outer' s' H' E' f' d' hr2 => (pe_call GX_read hr2 rfl T.g_read T.F_read.kp T.b_read .nil (passes_call (takes_of rfl rfl rfl rfl) (fun _ _ _ _ h => h)) (pa_cons pe_str pa_nil)))) (pe_tup (pa_cons pe_str (pa_cons pe_int pa_nil))) (nomark _)))))))))))))))), fnG_run (N := ["_law_script", "_law_row", "_law_head_here", "_law_way", "_law_wrong", "_law_place", "_law_some", "_law_good", "_law_more", "_law_short", "_law_deep", "_law_text", "_law_many", "_law_due"]) h (fun A' Hz' => (ss_seq (ss_asg (se_lst (sa_cons se_var (sa_cons se_int (sa_cons se_int (sa_cons se_int sa_nil))))) sg_name)
  (ss_seq (ss_parT (by decide) (se_callO sa_nil) (se_callO (sa_cons se_int sa_nil)))
  (ss_seq (ss_if (st_test (se_op sr_eqD se_var se_int))
  (ss_seq (ss_asg (se_callO (sa_cons (se_lst (sa_cons se_str (sa_cons se_str (sa_cons se_str (sa_cons se_str (sa_cons se_str (sa_cons se_str (sa_cons se_str (sa_cons se_str (sa_cons se_str (sa_cons se_str (sa_cons se_str (sa_cons se_str (sa_cons se_str sa_nil)))))))))))))) sa_nil)) sg_name)
  (ss_seq (ss_asg (se_op (sr_I0 (fun _ _ => rfl)) (se_cb1 sc_lenS se_var) (se_if (st_test (se_op sr_eqD se_var se_str)) se_int se_int)) sg_name)
  (ss_ret (se_op sr_eqD (se_wordG (n := 14) (sa_cons (se_op sr_addS se_var se_var) sa_nil)) (se_tup (sa_cons se_str (sa_cons se_var sa_nil)))))))
  ss_next)
  (ss_seq (ss_if (st_test (se_op sr_eqD se_var se_int))
  (ss_seq (ss_asg (se_lst (sa_cons se_str (sa_cons se_str (sa_cons se_str (sa_cons se_str (sa_cons se_str (sa_cons se_str (sa_cons se_str (sa_cons se_str (sa_cons se_str (sa_cons se_str (sa_cons se_str (sa_cons se_str (sa_cons se_str sa_nil)))))))))))))) sg_name)
  (ss_seq (ss_asg (se_op sr_cat se_var (se_lst (sa_cons se_str (sa_cons se_str (sa_cons se_str (sa_cons se_str (sa_cons se_str (sa_cons se_str (sa_cons se_str (sa_cons se_str (sa_cons se_str (sa_cons se_str sa_nil)))))))))))) sg_name)
  (ss_ret (se_op sr_eqD (se_wordG (n := 14) (sa_cons (se_op sr_addS (se_op sr_addS se_var (se_callO (sa_cons se_var sa_nil))) se_str) sa_nil)) (se_tup (sa_cons se_str (sa_cons (se_cb1 sc_lenS se_var) sa_nil)))))))
  ss_next)
  (ss_seq (ss_if (st_test (se_op sr_eqD se_var se_int))
  (ss_seq (ss_asg (se_lst (sa_cons (se_tup (sa_cons se_str (sa_cons se_str sa_nil))) (sa_cons (se_tup (sa_cons se_str (sa_cons se_str sa_nil))) (sa_cons (se_tup (sa_cons se_str (sa_cons se_str sa_nil))) (sa_cons (se_tup (sa_cons se_str (sa_cons se_str sa_nil))) (sa_cons (se_tup (sa_cons se_str (sa_cons se_str sa_nil))) (sa_cons (se_tup (sa_cons se_str (sa_cons se_str sa_nil))) (sa_cons (se_tup (sa_cons se_str (sa_cons se_str sa_nil))) sa_nil)))))))) sg_name)
  (ss_seq (ss_asg (se_callO (sa_cons se_var sa_nil)) (sg_tup (sgs_cons sg_name (sgs_cons sg_name sgs_nil))))
  (ss_seq (ss_if (st_test (se_op sr_neD (se_wordG (n := 14) (sa_cons (se_op sr_addS (se_op sr_addS se_var se_var) se_var) sa_nil)) (se_tup (sa_cons se_str (sa_cons (se_op (sr_I0 (fun _ _ => rfl)) (se_cb1 sc_lenS se_var) (se_cb1 sc_lenS se_var)) sa_nil)))))
  (ss_ret se_bl)
  ss_next)
  (ss_seq (ss_asg (se_callO (sa_cons (se_lst (sa_cons se_str (sa_cons se_str (sa_cons se_str (sa_cons se_str (sa_cons se_str (sa_cons se_str (sa_cons se_str (sa_cons se_str (sa_cons se_str (sa_cons se_str sa_nil))))))))))) sa_nil)) sg_name)
  (ss_ret (se_op sr_eqD (se_wordG (n := 14) (sa_cons (se_op sr_addS se_var se_var) sa_nil)) (se_tup (sa_cons se_str (sa_cons (se_op (sr_I0 (fun _ _ => rfl)) (se_cb1 sc_lenS se_var) (se_cb1 sc_lenS se_var)) sa_nil)))))))))
  ss_next)
  (ss_seq (ss_if (st_test (se_op sr_eqD se_var se_int))
  (ss_seq (ss_asg (se_callO (sa_cons (se_lst (sa_cons se_non (sa_cons se_int (sa_cons se_bl (sa_cons (se_tup (sa_cons se_str sa_nil)) (sa_cons (se_lst (sa_cons se_str sa_nil)) (sa_cons se_int (sa_cons se_edic sa_nil)))))))) sa_nil)) sg_name)
  (ss_seq (ss_if (st_test (se_op sr_neD (se_wordG (n := 14) (sa_cons se_var sa_nil)) se_str))
  (ss_ret se_bl)
  ss_next)
  (ss_ret (se_op sr_eqD (se_wordG (n := 14) (sa_cons se_var sa_nil)) se_str))))
  ss_next)
  (ss_seq (ss_if (st_test (se_op sr_eqD se_var se_int))
  (ss_seq (ss_asg (se_op (sr_I0 (fun _ _ => rfl)) se_int (se_callO (sa_cons se_int sa_nil))) sg_name)
  (ss_seq (ss_asg (se_op sr_addS (se_op sr_addS (se_op sr_repS se_str se_var) se_str) (se_op sr_repS se_str (se_op (sr_I0 (fun _ _ => rfl)) se_var se_int))) sg_name)
  (ss_seq (ss_if (st_test (se_op sr_neD (se_wordG (n := 14) (sa_cons se_var sa_nil)) (se_tup (sa_cons se_str (sa_cons se_int sa_nil)))))
  (ss_ret se_bl)
  ss_next)
  (ss_seq (ss_asg (se_op sr_addS (se_op sr_addS (se_op sr_repS se_str se_int) se_str) (se_op sr_repS se_str se_int)) sg_name)
  (ss_seq (ss_if (st_test (se_op sr_neD (se_wordG (n := 14) (sa_cons se_var sa_nil)) (se_tup (sa_cons se_str (sa_cons se_int sa_nil)))))
  (ss_ret se_bl)
  ss_next)
  (ss_seq (ss_if (st_test (se_op sr_neD (se_wordG (n := 14) (sa_cons (se_slS se_var (so_some se_int) (so_some (se_un (fun _ => rfl) se_int))) sa_nil)) se_str))
  (ss_ret se_bl)
  ss_next)
  (ss_seq (ss_asg (se_op (sr_I0 (fun _ _ => rfl)) se_int (se_callO (sa_cons se_int sa_nil))) sg_name)
  (ss_ret (se_op sr_eqD (se_wordG (n := 14) (sa_cons (se_op sr_addS (se_op sr_repS se_str se_var) (se_op sr_repS se_str se_var)) sa_nil)) (se_tup (sa_cons se_str (sa_cons se_int sa_nil))))))))))))
  ss_next)
  (ss_seq (ss_asg (se_callO (sa_cons (se_lst (sa_cons se_str (sa_cons se_str sa_nil))) sa_nil)) sg_name)
  (ss_seq (ss_asg (se_op sr_addS (se_op sr_addS (se_op sr_addS (se_op sr_addS se_str (se_op sr_repS se_str se_int)) se_str) se_var) se_str) sg_name)
  (ss_seq (ss_asg (se_if (st_test (se_op sr_eqD se_var se_str)) (se_tup (sa_cons se_str (sa_cons se_int sa_nil))) se_str) sg_name)
  (ss_seq (ss_if (st_test (se_op sr_neD (se_wordG (n := 14) (sa_cons se_var sa_nil)) se_var))
  (ss_ret se_bl)
  ss_next)
  (ss_seq (ss_if (st_test (se_op sr_neD (se_wordG (n := 14) (sa_cons se_str sa_nil)) (se_tup (sa_cons se_str (sa_cons se_int sa_nil)))))
  (ss_ret se_bl)
  ss_next)
  (ss_ret (se_op sr_eqD (se_wordG (n := 14) (sa_cons se_str sa_nil)) (se_tup (sa_cons se_str (sa_cons se_int sa_nil)))))))))))))))))) (fun args G P hl hF => ?_) (by rw [spG_len hA h]; exact Nat.le_of_ble_eq_true rfl)⟩)) (fun args G P hF => ?_)
  rotate_left
  · obtain ⟨ns, rfl, _⟩ := hF
    rfl
  obtain ⟨ns, rfl, hG, hl2, q⟩ := hF
  simp -implicitDefEqProofs only [DL.WW, List.isEmpty_nil, List.lookup_cons, List.lookup_nil, List.map, List.length, List.length_cons, List.length_nil, List.length_set, List.replicate, List.append, List.cons_append, List.nil_append, List.append_nil, List.getElem?_cons_zero, List.getElem?_cons_succ, List.getElem?_nil, List.set_cons_zero, List.set_cons_succ, ↓reduceIte, Bool.false_eq_true, Bool.not_true, Bool.not_false, Bool.true_and, Bool.false_and, Bool.and_true, Bool.and_false, Bool.or_true, Bool.or_false, Bool.true_or, Bool.false_or, Nat.reduceAdd, Nat.reduceSub, Nat.reduceLT, Nat.reduceLeDiff, true_and, and_true, and_self, decide_eq_true_eq, Nat.zero_lt_succ, Nat.lt_add_left_iff_pos, beq_self_eq_true, String.reduceBEq, String.reduceEq, Nat.le_refl, Nat.zero_le, Bool.true_eq_false, decide_true, decide_false, Int.reduceEq, Int.reduceLT, Int.reduceLE, Int.reduceSub, Int.reduceAdd, DL.wIfT, DL.wListRg, DL.eSortT, DL.eAddS, DL.eInS, DL.eLenS, DL.wSlS, DL.wI2, DL.evd_mx, DL.evd_mn, DL.evd_gcd, DL.wIStr, DL.wIEnumS, DL.wFun, DL.wWord, DL.wWordV, DL.wCallX, DL.wRaise, DL.wWordG, DL.wWordVG, DL.wRaiseI, DL.eRepS, DL.eJnL, DL.eJnT, DL.wJoin, DL.eStrI, DL.eIntS, DL.strsD_map, DL.wEDic]
  refine ⟨_, rfl, isRow_new hl2, fun m x o1 hm hx ho1 => ?_⟩
  simp -implicitDefEqProofs only [DL.WW, List.isEmpty_nil, List.lookup_cons, List.lookup_nil, List.map, List.length, List.length_cons, List.length_nil, List.length_set, List.replicate, List.append, List.cons_append, List.nil_append, List.append_nil, List.getElem?_cons_zero, List.getElem?_cons_succ, List.getElem?_nil, List.set_cons_zero, List.set_cons_succ, ↓reduceIte, Bool.false_eq_true, Bool.not_true, Bool.not_false, Bool.true_and, Bool.false_and, Bool.and_true, Bool.and_false, Bool.or_true, Bool.or_false, Bool.true_or, Bool.false_or, Nat.reduceAdd, Nat.reduceSub, Nat.reduceLT, Nat.reduceLeDiff, true_and, and_true, and_self, decide_eq_true_eq, Nat.zero_lt_succ, Nat.lt_add_left_iff_pos, beq_self_eq_true, String.reduceBEq, String.reduceEq, Nat.le_refl, Nat.zero_le, Bool.true_eq_false, decide_true, decide_false, Int.reduceEq, Int.reduceLT, Int.reduceLE, Int.reduceSub, Int.reduceAdd, DL.wIfT, DL.wListRg, DL.eSortT, DL.eAddS, DL.eInS, DL.eLenS, DL.wSlS, DL.wI2, DL.evd_mx, DL.evd_mn, DL.evd_gcd, DL.wIStr, DL.wIEnumS, DL.wFun, DL.wWord, DL.wWordV, DL.wCallX, DL.wRaise, DL.wWordG, DL.wWordVG, DL.wRaiseI, DL.eRepS, DL.eJnL, DL.eJnT, DL.wJoin, DL.eStrI, DL.eIntS, DL.strsD_map, DL.wEDic]
  refine ⟨o1, 6, rfl, ho1, by decide, fun n o2 ho2 h0 h6 => ?_⟩
  have stx : PyData.strOk (Str.ofString "text") = true := by decide +kernel
  have hsz : (40000 : Nat) ≤ sizeLine := by decide
  obtain ⟨f1, f2, f3⟩ := hx.facts
  simp -implicitDefEqProofs only [DL.WW, List.isEmpty_nil, List.lookup_cons, List.lookup_nil, List.map, List.length, List.length_cons, List.length_nil, List.length_set, List.replicate, List.append, List.cons_append, List.nil_append, List.append_nil, List.getElem?_cons_zero, List.getElem?_cons_succ, List.getElem?_nil, List.set_cons_zero, List.set_cons_succ, ↓reduceIte, Bool.false_eq_true, Bool.not_true, Bool.not_false, Bool.true_and, Bool.false_and, Bool.and_true, Bool.and_false, Bool.or_true, Bool.or_false, Bool.true_or, Bool.false_or, Nat.reduceAdd, Nat.reduceSub, Nat.reduceLT, Nat.reduceLeDiff, true_and, and_true, and_self, decide_eq_true_eq, Nat.zero_lt_succ, Nat.lt_add_left_iff_pos, beq_self_eq_true, String.reduceBEq, String.reduceEq, Nat.le_refl, Nat.zero_le, Bool.true_eq_false, decide_true, decide_false, Int.reduceEq, Int.reduceLT, Int.reduceLE, Int.reduceSub, Int.reduceAdd, DL.wIfT, DL.wListRg, DL.eSortT, DL.eAddS, DL.eInS, DL.eLenS, DL.wSlS, DL.wI2, DL.evd_mx, DL.evd_mn, DL.evd_gcd, DL.wIStr, DL.wIEnumS, DL.wFun, DL.wWord, DL.wWordV, DL.wCallX, DL.wRaise, DL.wWordG, DL.wWordVG, DL.wRaiseI, DL.eRepS, DL.eJnL, DL.eJnT, DL.wJoin, DL.eStrI, DL.eIntS, DL.strsD_map, DL.wEDic]
  by_cases n0 : n = 0
  · simp -implicitDefEqProofs only [DL.WW, List.isEmpty_nil, List.lookup_cons, List.lookup_nil, List.map, List.length, List.length_cons, List.length_nil, List.length_set, List.replicate, List.append, List.cons_append, List.nil_append, List.append_nil, List.getElem?_cons_zero, List.getElem?_cons_succ, List.getElem?_nil, List.set_cons_zero, List.set_cons_succ, ↓reduceIte, Bool.false_eq_true, Bool.not_true, Bool.not_false, Bool.true_and, Bool.false_and, Bool.and_true, Bool.and_false, Bool.or_true, Bool.or_false, Bool.true_or, Bool.false_or, Nat.reduceAdd, Nat.reduceSub, Nat.reduceLT, Nat.reduceLeDiff, true_and, and_true, and_self, decide_eq_true_eq, Nat.zero_lt_succ, Nat.lt_add_left_iff_pos, beq_self_eq_true, String.reduceBEq, String.reduceEq, Nat.le_refl, Nat.zero_le, Bool.true_eq_false, decide_true, decide_false, Int.reduceEq, Int.reduceLT, Int.reduceLE, Int.reduceSub, Int.reduceAdd, DL.wIfT, DL.wListRg, DL.eSortT, DL.eAddS, DL.eInS, DL.eLenS, DL.wSlS, DL.wI2, DL.evd_mx, DL.evd_mn, DL.evd_gcd, DL.wIStr, DL.wIEnumS, DL.wFun, DL.wWord, DL.wWordV, DL.wCallX, DL.wRaise, DL.wWordG, DL.wWordVG, DL.wRaiseI, DL.eRepS, DL.eJnL, DL.eJnT, DL.wJoin, DL.eStrI, DL.eIntS, DL.strsD_map, DL.wEDic, n0]
    refine ⟨_, _, rfl, ho2, by decide, fun d o3 ho3 hd => ?_⟩
    have hp := List.all_eq_true.mp (show ([PyData.str (Str.ofString ""), .str (Str.ofString "}"), .str (Str.ofString "|"), .str (Str.ofString ","), .str (Str.ofString "x"), .str (Str.ofString " "), .str (Str.ofString "+1"), .str (Str.ofString "/2"), .str (Str.ofString "&"), .str (Str.ofString "\n0"), .str (Str.ofString "V"), .str (Str.ofString "--1"), .str (Str.ofString ".5")].all chk0) = true by decide +kernel) d hd
    obtain ⟨z, rfl⟩ : ∃ z, d = .str z := by
      cases d with
      | str z => exact ⟨z, rfl⟩
      | _ => cases hp
    simp -implicitDefEqProofs only [DL.WW, List.isEmpty_nil, List.lookup_cons, List.lookup_nil, List.map, List.length, List.length_cons, List.length_nil, List.length_set, List.replicate, List.append, List.cons_append, List.nil_append, List.append_nil, List.getElem?_cons_zero, List.getElem?_cons_succ, List.getElem?_nil, List.set_cons_zero, List.set_cons_succ, ↓reduceIte, Bool.false_eq_true, Bool.not_true, Bool.not_false, Bool.true_and, Bool.false_and, Bool.and_true, Bool.and_false, Bool.or_true, Bool.or_false, Bool.true_or, Bool.false_or, Nat.reduceAdd, Nat.reduceSub, Nat.reduceLT, Nat.reduceLeDiff, true_and, and_true, and_self, decide_eq_true_eq, Nat.zero_lt_succ, Nat.lt_add_left_iff_pos, beq_self_eq_true, String.reduceBEq, String.reduceEq, Nat.le_refl, Nat.zero_le, Bool.true_eq_false, decide_true, decide_false, Int.reduceEq, Int.reduceLT, Int.reduceLE, Int.reduceSub, Int.reduceAdd, DL.wIfT, DL.wListRg, DL.eSortT, DL.eAddS, DL.eInS, DL.eLenS, DL.wSlS, DL.wI2, DL.evd_mx, DL.evd_mn, DL.evd_gcd, DL.wIStr, DL.wIEnumS, DL.wFun, DL.wWord, DL.wWordV, DL.wCallX, DL.wRaise, DL.wWordG, DL.wWordVG, DL.wRaiseI, DL.eRepS, DL.eJnL, DL.eJnT, DL.wJoin, DL.eStrI, DL.eIntS, DL.strsD_map]
    have hp1 : chk0 (.str z) = true := hp
    unfold chk0 at hp1
    have w1 : PyData.strOk (Str.ofString "--1") = true := by decide +kernel
    have zl := len_z z
    rw [Bool.and_eq_true] at hp1
    have el := end_len hp1.1
    refine ⟨by rw [stC_len]; omega, ok_of hp1.1 (fun c h => h), w1, ?_⟩
    have ez : stC x ++ z = stC (x ++ z.cps.toList) := by rw [← stC_app, stC_self]
    have fin : ∀ (j : Int) (k : Nat), j = ((k : Nat) : Int) → SeqAt.shaped (wresD (Str.ofString "text", some (.int ((k : Nat) : Int)))) = true ∧ SeqAt.shaped (PyData.tuple [PyData.str (Str.ofString "text"), PyData.int j]) = true ∧ P (Vl.dat (PyData.bool ((wresD (Str.ofString "text", some (.int ((k : Nat) : Int)))).eqv (PyData.tuple [PyData.str (Str.ofString "text"), PyData.int j])))) [none] G := fun j k hj => by
      subst hj
      rw [wres_text]
      refine ⟨sh_text _, sh_text _, ?_⟩
      rw [eq_text, decide_eq_true rfl]
      exact q G
    by_cases c : z = Str.ofString "--1"
    · rw [if_pos c]
      rw [if_pos c, if_pos c] at hp1
      have h3 := of_decide_eq_true hp1.2
      exact ⟨hG, by rw [stC_len]; omega, word_txt hx hm hp1.1 ez (x.length + 1) (by omega) (fin _ _ (by rw [stC_len]; omega))⟩
    · rw [if_neg c]
      rw [if_neg c] at hp1
      exact ⟨hG, by rw [stC_len]; omega, word_txt hx hm hp1.1 ez x.length (by omega) (fin _ _ (by rw [stC_len]; omega))⟩
  by_cases n1 : n = 1
  · simp -implicitDefEqProofs only [DL.WW, List.isEmpty_nil, List.lookup_cons, List.lookup_nil, List.map, List.length, List.length_cons, List.length_nil, List.length_set, List.replicate, List.append, List.cons_append, List.nil_append, List.append_nil, List.getElem?_cons_zero, List.getElem?_cons_succ, List.getElem?_nil, List.set_cons_zero, List.set_cons_succ, ↓reduceIte, Bool.false_eq_true, Bool.not_true, Bool.not_false, Bool.true_and, Bool.false_and, Bool.and_true, Bool.and_false, Bool.or_true, Bool.or_false, Bool.true_or, Bool.false_or, Nat.reduceAdd, Nat.reduceSub, Nat.reduceLT, Nat.reduceLeDiff, true_and, and_true, and_self, decide_eq_true_eq, Nat.zero_lt_succ, Nat.lt_add_left_iff_pos, beq_self_eq_true, String.reduceBEq, String.reduceEq, Nat.le_refl, Nat.zero_le, Bool.true_eq_false, decide_true, decide_false, Int.reduceEq, Int.reduceLT, Int.reduceLE, Int.reduceSub, Int.reduceAdd, DL.wIfT, DL.wListRg, DL.eSortT, DL.eAddS, DL.eInS, DL.eLenS, DL.wSlS, DL.wI2, DL.evd_mx, DL.evd_mn, DL.evd_gcd, DL.wIStr, DL.wIEnumS, DL.wFun, DL.wWord, DL.wWordV, DL.wCallX, DL.wRaise, DL.wWordG, DL.wWordVG, DL.wRaiseI, DL.eRepS, DL.eJnL, DL.eJnT, DL.wJoin, DL.eStrI, DL.eIntS, DL.strsD_map, DL.wEDic, n1]
    refine ⟨by decide, hG, _, _, rfl, ho2, by decide, fun d o3 ho3 hd => ?_⟩
    have hp := List.all_eq_true.mp (show ([PyData.str (Str.ofString "00"), .str (Str.ofString "01"), .str (Str.ofString "-0"), .str (Str.ofString "-00"), .str (Str.ofString "17"), .str (Str.ofString "-17"), .str (Str.ofString "2/4"), .str (Str.ofString "4/2"), .str (Str.ofString "3/1"), .str (Str.ofString "1/3"), .str (Str.ofString "1/32"), .str (Str.ofString "0/2"), .str (Str.ofString "33/2"), .str (Str.ofString "12345"), .str (Str.ofString "-6/4"), .str (Str.ofString "*1"), .str (Str.ofString "*0"), .str (Str.ofString "*6"), .str (Str.ofString "*23"), .str (Str.ofString "*02"), .str (Str.ofString "1/02"), .str (Str.ofString "-33/2"), .str (Str.ofString "257/16")].all chk1) = true by decide +kernel) d hd
    obtain ⟨z, rfl, hz⟩ := str_dat (f := fun z => endB (z.cps.toList ++ [125]) (z.cps.toList.length + 1)) hp
    clear hp
    have el := (end_len hz).1
    rw [List.length_append, List.length_singleton] at el
    have zl := len_z z
    have l1 : (Str.ofString "}").length = 1 := by decide +kernel
    have e1 : Str.ofString "}" = stC [125] := by decide +kernel
    have ez : stC x ++ z ++ Str.ofString "}" = stC (x ++ (z.cps.toList ++ [125])) := by rw [app3, e1]; rfl
    simp -implicitDefEqProofs only [DL.WW, List.isEmpty_nil, List.lookup_cons, List.lookup_nil, List.map, List.length, List.length_cons, List.length_nil, List.length_set, List.replicate, List.append, List.cons_append, List.nil_append, List.append_nil, List.getElem?_cons_zero, List.getElem?_cons_succ, List.getElem?_nil, List.set_cons_zero, List.set_cons_succ, ↓reduceIte, Bool.false_eq_true, Bool.not_true, Bool.not_false, Bool.true_and, Bool.false_and, Bool.and_true, Bool.and_false, Bool.or_true, Bool.or_false, Bool.true_or, Bool.false_or, Nat.reduceAdd, Nat.reduceSub, Nat.reduceLT, Nat.reduceLeDiff, true_and, and_true, and_self, decide_eq_true_eq, Nat.zero_lt_succ, Nat.lt_add_left_iff_pos, beq_self_eq_true, String.reduceBEq, String.reduceEq, Nat.le_refl, Nat.zero_le, Bool.true_eq_false, decide_true, decide_false, Int.reduceEq, Int.reduceLT, Int.reduceLE, Int.reduceSub, Int.reduceAdd, DL.wIfT, DL.wListRg, DL.eSortT, DL.eAddS, DL.eInS, DL.eLenS, DL.wSlS, DL.wI2, DL.evd_mx, DL.evd_mn, DL.evd_gcd, DL.wIStr, DL.wIEnumS, DL.wFun, DL.wWord, DL.wWordV, DL.wCallX, DL.wRaise, DL.wWordG, DL.wWordVG, DL.wRaiseI, DL.eRepS, DL.eJnL, DL.eJnT, DL.wJoin, DL.eStrI, DL.eIntS, DL.strsD_map]
    refine ⟨by rw [stC_len]; omega, ?_, word_txt hx hm hz ez x.length (by rw [List.length_append, List.length_singleton]; omega) ?_⟩
    · rw [l1, ← stC_self z, stC_app, stC_len, List.length_append]
      omega
    · simp -implicitDefEqProofs only [DL.WW, List.isEmpty_nil, List.lookup_cons, List.lookup_nil, List.map, List.length, List.length_cons, List.length_nil, List.length_set, List.replicate, List.append, List.cons_append, List.nil_append, List.append_nil, List.getElem?_cons_zero, List.getElem?_cons_succ, List.getElem?_nil, List.set_cons_zero, List.set_cons_succ, ↓reduceIte, Bool.false_eq_true, Bool.not_true, Bool.not_false, Bool.true_and, Bool.false_and, Bool.and_true, Bool.and_false, Bool.or_true, Bool.or_false, Bool.true_or, Bool.false_or, Nat.reduceAdd, Nat.reduceSub, Nat.reduceLT, Nat.reduceLeDiff, true_and, and_true, and_self, decide_eq_true_eq, Nat.zero_lt_succ, Nat.lt_add_left_iff_pos, beq_self_eq_true, String.reduceBEq, String.reduceEq, Nat.le_refl, Nat.zero_le, Bool.true_eq_false, decide_true, decide_false, Int.reduceEq, Int.reduceLT, Int.reduceLE, Int.reduceSub, Int.reduceAdd, DL.wIfT, DL.wListRg, DL.eSortT, DL.eAddS, DL.eInS, DL.eLenS, DL.wSlS, DL.wI2, DL.evd_mx, DL.evd_mn, DL.evd_gcd, DL.wIStr, DL.wIEnumS, DL.wFun, DL.wWord, DL.wWordV, DL.wCallX, DL.wRaise, DL.wWordG, DL.wWordVG, DL.wRaiseI, DL.eRepS, DL.eJnL, DL.eJnT, DL.wJoin, DL.eStrI, DL.eIntS, DL.strsD_map, wres_text, stC_len, eq_text]
      exact ⟨by omega, sh_text _, sh_text _, q G⟩
  by_cases n2 : n = 2
  · simp -implicitDefEqProofs only [DL.WW, List.isEmpty_nil, List.lookup_cons, List.lookup_nil, List.map, List.length, List.length_cons, List.length_nil, List.length_set, List.replicate, List.append, List.cons_append, List.nil_append, List.append_nil, List.getElem?_cons_zero, List.getElem?_cons_succ, List.getElem?_nil, List.set_cons_zero, List.set_cons_succ, ↓reduceIte, Bool.false_eq_true, Bool.not_true, Bool.not_false, Bool.true_and, Bool.false_and, Bool.and_true, Bool.and_false, Bool.or_true, Bool.or_false, Bool.true_or, Bool.false_or, Nat.reduceAdd, Nat.reduceSub, Nat.reduceLT, Nat.reduceLeDiff, true_and, and_true, and_self, decide_eq_true_eq, Nat.zero_lt_succ, Nat.lt_add_left_iff_pos, beq_self_eq_true, String.reduceBEq, String.reduceEq, Nat.le_refl, Nat.zero_le, Bool.true_eq_false, decide_true, decide_false, Int.reduceEq, Int.reduceLT, Int.reduceLE, Int.reduceSub, Int.reduceAdd, DL.wIfT, DL.wListRg, DL.eSortT, DL.eAddS, DL.eInS, DL.eLenS, DL.wSlS, DL.wI2, DL.evd_mx, DL.evd_mn, DL.evd_gcd, DL.wIStr, DL.wIEnumS, DL.wFun, DL.wWord, DL.wWordV, DL.wCallX, DL.wRaise, DL.wWordG, DL.wWordVG, DL.wRaiseI, DL.eRepS, DL.eJnL, DL.eJnT, DL.wJoin, DL.eStrI, DL.eIntS, DL.strsD_map, DL.wEDic, n2]
    refine ⟨_, _, rfl, ho2, by decide, fun d o3 ho3 hd => ?_⟩
    have hp := List.all_eq_true.mp (show ([PyData.tuple [.str (Str.ofString "1"), .str (Str.ofString "x")], .tuple [.str (Str.ofString "*"), .str (Str.ofString "*")], .tuple [.str (Str.ofString "^"), .str (Str.ofString "^")], .tuple [.str (Str.ofString "v*"), .str (Str.ofString "*")], .tuple [.str (Str.ofString "*2"), .str (Str.ofString "v")], .tuple [.str (Str.ofString "1/2"), .str (Str.ofString "/")], .tuple [.str (Str.ofString "3"), .str (Str.ofString "-")]].all chk2) = true by decide +kernel) d hd
    obtain ⟨y, z, rfl, hz⟩ : ∃ y z, d = .tuple [.str y, .str z] ∧ endB (y.cps.toList ++ z.cps.toList) z.cps.toList.length = true := by
      unfold chk2 at hp
      split at hp
      · exact ⟨_, _, rfl, hp⟩
      · cases hp
    clear hp
    have el := (end_len hz).1
    rw [List.length_append] at el
    have zl := len_z z
    have yl := len_z y
    have cy := ok_of hz (fun c h => List.mem_append_left _ h)
    simp -implicitDefEqProofs only [DL.WW, List.isEmpty_nil, List.lookup_cons, List.lookup_nil, List.map, List.length, List.length_cons, List.length_nil, List.length_set, List.replicate, List.append, List.cons_append, List.nil_append, List.append_nil, List.getElem?_cons_zero, List.getElem?_cons_succ, List.getElem?_nil, List.set_cons_zero, List.set_cons_succ, ↓reduceIte, Bool.false_eq_true, Bool.not_true, Bool.not_false, Bool.true_and, Bool.false_and, Bool.and_true, Bool.and_false, Bool.or_true, Bool.or_false, Bool.true_or, Bool.false_or, Nat.reduceAdd, Nat.reduceSub, Nat.reduceLT, Nat.reduceLeDiff, true_and, and_true, and_self, decide_eq_true_eq, Nat.zero_lt_succ, Nat.lt_add_left_iff_pos, beq_self_eq_true, String.reduceBEq, String.reduceEq, Nat.le_refl, Nat.zero_le, Bool.true_eq_false, decide_true, decide_false, Int.reduceEq, Int.reduceLT, Int.reduceLE, Int.reduceSub, Int.reduceAdd, DL.wIfT, DL.wListRg, DL.eSortT, DL.eAddS, DL.eInS, DL.eLenS, DL.wSlS, DL.wI2, DL.evd_mx, DL.evd_mn, DL.evd_gcd, DL.wIStr, DL.wIEnumS, DL.wFun, DL.wWord, DL.wWordV, DL.wCallX, DL.wRaise, DL.wWordG, DL.wWordVG, DL.wRaiseI, DL.eRepS, DL.eJnL, DL.eJnT, DL.wJoin, DL.eStrI, DL.eIntS, DL.strsD_map]
    refine ⟨hG, by rw [stC_len]; omega, ?_, word_txt hx hm hz (app3 _ _ _) (x.length + y.cps.toList.length) (by rw [List.length_append]; omega) ?_⟩
    · conv => lhs; rw [← stC_self y, stC_app]
      rw [stC_len, List.length_append]
      omega
    simp -implicitDefEqProofs only [DL.WW, List.isEmpty_nil, List.lookup_cons, List.lookup_nil, List.map, List.length, List.length_cons, List.length_nil, List.length_set, List.replicate, List.append, List.cons_append, List.nil_append, List.append_nil, List.getElem?_cons_zero, List.getElem?_cons_succ, List.getElem?_nil, List.set_cons_zero, List.set_cons_succ, ↓reduceIte, Bool.false_eq_true, Bool.not_true, Bool.not_false, Bool.true_and, Bool.false_and, Bool.and_true, Bool.and_false, Bool.or_true, Bool.or_false, Bool.true_or, Bool.false_or, Nat.reduceAdd, Nat.reduceSub, Nat.reduceLT, Nat.reduceLeDiff, true_and, and_true, and_self, decide_eq_true_eq, Nat.zero_lt_succ, Nat.lt_add_left_iff_pos, beq_self_eq_true, String.reduceBEq, String.reduceEq, Nat.le_refl, Nat.zero_le, Bool.true_eq_false, decide_true, decide_false, Int.reduceEq, Int.reduceLT, Int.reduceLE, Int.reduceSub, Int.reduceAdd, DL.wIfT, DL.wListRg, DL.eSortT, DL.eAddS, DL.eInS, DL.eLenS, DL.wSlS, DL.wI2, DL.evd_mx, DL.evd_mn, DL.evd_gcd, DL.wIStr, DL.wIEnumS, DL.wFun, DL.wWord, DL.wWordV, DL.wCallX, DL.wRaise, DL.wWordG, DL.wWordVG, DL.wRaiseI, DL.eRepS, DL.eJnL, DL.eJnT, DL.wJoin, DL.eStrI, DL.eIntS, DL.strsD_map, wres_text, stC_len, yl]
    have es : ((x.length : Nat) : Int) + ((y.cps.toList.length : Nat) : Int) = ((x.length + y.cps.toList.length : Nat) : Int) := by omega
    rw [es]
    refine ⟨by omega, by omega, sh_text _, sh_text _, ?_⟩
    rw [eq_text, decide_eq_true rfl]
    simp -implicitDefEqProofs only [DL.WW, List.isEmpty_nil, List.lookup_cons, List.lookup_nil, List.map, List.length, List.length_cons, List.length_nil, List.length_set, List.replicate, List.append, List.cons_append, List.nil_append, List.append_nil, List.getElem?_cons_zero, List.getElem?_cons_succ, List.getElem?_nil, List.set_cons_zero, List.set_cons_succ, ↓reduceIte, Bool.false_eq_true, Bool.not_true, Bool.not_false, Bool.true_and, Bool.false_and, Bool.and_true, Bool.and_false, Bool.or_true, Bool.or_false, Bool.true_or, Bool.false_or, Nat.reduceAdd, Nat.reduceSub, Nat.reduceLT, Nat.reduceLeDiff, true_and, and_true, and_self, decide_eq_true_eq, Nat.zero_lt_succ, Nat.lt_add_left_iff_pos, beq_self_eq_true, String.reduceBEq, String.reduceEq, Nat.le_refl, Nat.zero_le, Bool.true_eq_false, decide_true, decide_false, Int.reduceEq, Int.reduceLT, Int.reduceLE, Int.reduceSub, Int.reduceAdd, DL.wIfT, DL.wListRg, DL.eSortT, DL.eAddS, DL.eInS, DL.eLenS, DL.wSlS, DL.wI2, DL.evd_mx, DL.evd_mn, DL.evd_gcd, DL.wIStr, DL.wIEnumS, DL.wFun, DL.wWord, DL.wWordV, DL.wCallX, DL.wRaise, DL.wWordG, DL.wWordVG, DL.wRaiseI, DL.eRepS, DL.eJnL, DL.eJnT, DL.wJoin, DL.eStrI, DL.eIntS, DL.strsD_map]
    refine ⟨_, _, rfl, ho3, by decide, fun d o4 ho4 hd => ?_⟩
    have hp := List.all_eq_true.mp (show ([PyData.str (Str.ofString "-"), .str (Str.ofString "1/"), .str (Str.ofString "{"), .str (Str.ofString "{0"), .str (Str.ofString "{0,"), .str (Str.ofString "{0|"), .str (Str.ofString "{0|1"), .str (Str.ofString "{0|1,"), .str (Str.ofString "{|"), .str (Str.ofString "-3/")].all chk3) = true by decide +kernel) d hd
    clear hd
    obtain ⟨v, rfl, hv⟩ := str_dat (f := fun z => endB z.cps.toList 0) hp
    clear hp
    have el2 := (end_len hv).1
    have vl := len_z v
    have ev : stC x ++ v = stC (x ++ v.cps.toList) := by rw [← stC_app, stC_self]
    simp -implicitDefEqProofs only [DL.WW, List.isEmpty_nil, List.lookup_cons, List.lookup_nil, List.map, List.length, List.length_cons, List.length_nil, List.length_set, List.replicate, List.append, List.cons_append, List.nil_append, List.append_nil, List.getElem?_cons_zero, List.getElem?_cons_succ, List.getElem?_nil, List.set_cons_zero, List.set_cons_succ, ↓reduceIte, Bool.false_eq_true, Bool.not_true, Bool.not_false, Bool.true_and, Bool.false_and, Bool.and_true, Bool.and_false, Bool.or_true, Bool.or_false, Bool.true_or, Bool.false_or, Nat.reduceAdd, Nat.reduceSub, Nat.reduceLT, Nat.reduceLeDiff, true_and, and_true, and_self, decide_eq_true_eq, Nat.zero_lt_succ, Nat.lt_add_left_iff_pos, beq_self_eq_true, String.reduceBEq, String.reduceEq, Nat.le_refl, Nat.zero_le, Bool.true_eq_false, decide_true, decide_false, Int.reduceEq, Int.reduceLT, Int.reduceLE, Int.reduceSub, Int.reduceAdd, DL.wIfT, DL.wListRg, DL.eSortT, DL.eAddS, DL.eInS, DL.eLenS, DL.wSlS, DL.wI2, DL.evd_mx, DL.evd_mn, DL.evd_gcd, DL.wIStr, DL.wIEnumS, DL.wFun, DL.wWord, DL.wWordV, DL.wCallX, DL.wRaise, DL.wWordG, DL.wWordVG, DL.wRaiseI, DL.eRepS, DL.eJnL, DL.eJnT, DL.wJoin, DL.eStrI, DL.eIntS, DL.strsD_map]
    refine ⟨hG, by rw [stC_len]; omega, word_txt hx hm hv ev (x.length + v.cps.toList.length) (by omega) ?_⟩
    simp -implicitDefEqProofs only [DL.WW, List.isEmpty_nil, List.lookup_cons, List.lookup_nil, List.map, List.length, List.length_cons, List.length_nil, List.length_set, List.replicate, List.append, List.cons_append, List.nil_append, List.append_nil, List.getElem?_cons_zero, List.getElem?_cons_succ, List.getElem?_nil, List.set_cons_zero, List.set_cons_succ, ↓reduceIte, Bool.false_eq_true, Bool.not_true, Bool.not_false, Bool.true_and, Bool.false_and, Bool.and_true, Bool.and_false, Bool.or_true, Bool.or_false, Bool.true_or, Bool.false_or, Nat.reduceAdd, Nat.reduceSub, Nat.reduceLT, Nat.reduceLeDiff, true_and, and_true, and_self, decide_eq_true_eq, Nat.zero_lt_succ, Nat.lt_add_left_iff_pos, beq_self_eq_true, String.reduceBEq, String.reduceEq, Nat.le_refl, Nat.zero_le, Bool.true_eq_false, decide_true, decide_false, Int.reduceEq, Int.reduceLT, Int.reduceLE, Int.reduceSub, Int.reduceAdd, DL.wIfT, DL.wListRg, DL.eSortT, DL.eAddS, DL.eInS, DL.eLenS, DL.wSlS, DL.wI2, DL.evd_mx, DL.evd_mn, DL.evd_gcd, DL.wIStr, DL.wIEnumS, DL.wFun, DL.wWord, DL.wWordV, DL.wCallX, DL.wRaise, DL.wWordG, DL.wWordVG, DL.wRaiseI, DL.eRepS, DL.eJnL, DL.eJnT, DL.wJoin, DL.eStrI, DL.eIntS, DL.strsD_map, wres_text, stC_len, vl]
    have es : ((x.length : Nat) : Int) + ((v.cps.toList.length : Nat) : Int) = ((x.length + v.cps.toList.length : Nat) : Int) := by omega
    rw [es]
    refine ⟨by omega, by omega, sh_text _, sh_text _, ?_⟩
    rw [eq_text, decide_eq_true rfl]
    exact q G
  by_cases n3 : n = 3
  · simp -implicitDefEqProofs only [DL.WW, List.isEmpty_nil, List.lookup_cons, List.lookup_nil, List.map, List.length, List.length_cons, List.length_nil, List.length_set, List.replicate, List.append, List.cons_append, List.nil_append, List.append_nil, List.getElem?_cons_zero, List.getElem?_cons_succ, List.getElem?_nil, List.set_cons_zero, List.set_cons_succ, ↓reduceIte, Bool.false_eq_true, Bool.not_true, Bool.not_false, Bool.true_and, Bool.false_and, Bool.and_true, Bool.and_false, Bool.or_true, Bool.or_false, Bool.true_or, Bool.false_or, Nat.reduceAdd, Nat.reduceSub, Nat.reduceLT, Nat.reduceLeDiff, true_and, and_true, and_self, decide_eq_true_eq, Nat.zero_lt_succ, Nat.lt_add_left_iff_pos, beq_self_eq_true, String.reduceBEq, String.reduceEq, Nat.le_refl, Nat.zero_le, Bool.true_eq_false, decide_true, decide_false, Int.reduceEq, Int.reduceLT, Int.reduceLE, Int.reduceSub, Int.reduceAdd, DL.wIfT, DL.wListRg, DL.eSortT, DL.eAddS, DL.eInS, DL.eLenS, DL.wSlS, DL.wI2, DL.evd_mx, DL.evd_mn, DL.evd_gcd, DL.wIStr, DL.wIEnumS, DL.wFun, DL.wWord, DL.wWordV, DL.wCallX, DL.wRaise, DL.wWordG, DL.wWordVG, DL.wRaiseI, DL.eRepS, DL.eJnL, DL.eJnT, DL.wJoin, DL.eStrI, DL.eIntS, DL.strsD_map, DL.wEDic, n3]
    refine ⟨_, _, rfl, ho2, by decide, fun d o3 ho3 hd => ?_⟩
    obtain ⟨hn1, hb1⟩ := pickG (g := fun d => decide (GB.szD d ≤ 1000) && !GB.gameB d && decide (tyD d ≠ "str")) (by decide +kernel) hd
    clear hd
    simp only [Bool.and_eq_true, decide_eq_true_iff, Bool.not_eq_true'] at hb1
    obtain ⟨⟨hz0, hg1⟩, ht⟩ := hb1
    have sn : PyData.strOk (Str.ofString "none") = true := by decide +kernel
    have wn : wresD (Str.ofString "none", none) = .str (Str.ofString "none") := rfl
    have sg : PyData.strOk (Str.ofString "game") = true := by decide +kernel
    have wg : wresD (Str.ofString "game", none) = .str (Str.ofString "game") := rfl
    simp -implicitDefEqProofs only [DL.WW, List.isEmpty_nil, List.lookup_cons, List.lookup_nil, List.map, List.length, List.length_cons, List.length_nil, List.length_set, List.replicate, List.append, List.cons_append, List.nil_append, List.append_nil, List.getElem?_cons_zero, List.getElem?_cons_succ, List.getElem?_nil, List.set_cons_zero, List.set_cons_succ, ↓reduceIte, Bool.false_eq_true, Bool.not_true, Bool.not_false, Bool.true_and, Bool.false_and, Bool.and_true, Bool.and_false, Bool.or_true, Bool.or_false, Bool.true_or, Bool.false_or, Nat.reduceAdd, Nat.reduceSub, Nat.reduceLT, Nat.reduceLeDiff, true_and, and_true, and_self, decide_eq_true_eq, Nat.zero_lt_succ, Nat.lt_add_left_iff_pos, beq_self_eq_true, String.reduceBEq, String.reduceEq, Nat.le_refl, Nat.zero_le, Bool.true_eq_false, decide_true, decide_false, Int.reduceEq, Int.reduceLT, Int.reduceLE, Int.reduceSub, Int.reduceAdd, DL.wIfT, DL.wListRg, DL.eSortT, DL.eAddS, DL.eInS, DL.eLenS, DL.wSlS, DL.wI2, DL.evd_mx, DL.evd_mn, DL.evd_gcd, DL.wIStr, DL.wIEnumS, DL.wFun, DL.wWord, DL.wWordV, DL.wCallX, DL.wRaise, DL.wWordG, DL.wWordVG, DL.wRaiseI, DL.eRepS, DL.eJnL, DL.eJnT, DL.wJoin, DL.eStrI, DL.eIntS, DL.strsD_map]
    refine ⟨hG, d, rfl, hn1, .inl ⟨ht, _, .noneW, fun b e => (by cases e), ?_⟩⟩
    simp -implicitDefEqProofs only [DL.WW, List.isEmpty_nil, List.lookup_cons, List.lookup_nil, List.map, List.length, List.length_cons, List.length_nil, List.length_set, List.replicate, List.append, List.cons_append, List.nil_append, List.append_nil, List.getElem?_cons_zero, List.getElem?_cons_succ, List.getElem?_nil, List.set_cons_zero, List.set_cons_succ, ↓reduceIte, Bool.false_eq_true, Bool.not_true, Bool.not_false, Bool.true_and, Bool.false_and, Bool.and_true, Bool.and_false, Bool.or_true, Bool.or_false, Bool.true_or, Bool.false_or, Nat.reduceAdd, Nat.reduceSub, Nat.reduceLT, Nat.reduceLeDiff, true_and, and_true, and_self, decide_eq_true_eq, Nat.zero_lt_succ, Nat.lt_add_left_iff_pos, beq_self_eq_true, String.reduceBEq, String.reduceEq, Nat.le_refl, Nat.zero_le, Bool.true_eq_false, decide_true, decide_false, Int.reduceEq, Int.reduceLT, Int.reduceLE, Int.reduceSub, Int.reduceAdd, DL.wIfT, DL.wListRg, DL.eSortT, DL.eAddS, DL.eInS, DL.eLenS, DL.wSlS, DL.wI2, DL.evd_mx, DL.evd_mn, DL.evd_gcd, DL.wIStr, DL.wIEnumS, DL.wFun, DL.wWord, DL.wWordV, DL.wCallX, DL.wRaise, DL.wWordG, DL.wWordVG, DL.wRaiseI, DL.eRepS, DL.eJnL, DL.eJnT, DL.wJoin, DL.eStrI, DL.eIntS, DL.strsD_map, wn, sn]
    refine ⟨hG, d, rfl, hn1, by omega, hg1, _, .game, fun b e => (by cases e), ?_⟩
    simp -implicitDefEqProofs only [DL.WW, List.isEmpty_nil, List.lookup_cons, List.lookup_nil, List.map, List.length, List.length_cons, List.length_nil, List.length_set, List.replicate, List.append, List.cons_append, List.nil_append, List.append_nil, List.getElem?_cons_zero, List.getElem?_cons_succ, List.getElem?_nil, List.set_cons_zero, List.set_cons_succ, ↓reduceIte, Bool.false_eq_true, Bool.not_true, Bool.not_false, Bool.true_and, Bool.false_and, Bool.and_true, Bool.and_false, Bool.or_true, Bool.or_false, Bool.true_or, Bool.false_or, Nat.reduceAdd, Nat.reduceSub, Nat.reduceLT, Nat.reduceLeDiff, true_and, and_true, and_self, decide_eq_true_eq, Nat.zero_lt_succ, Nat.lt_add_left_iff_pos, beq_self_eq_true, String.reduceBEq, String.reduceEq, Nat.le_refl, Nat.zero_le, Bool.true_eq_false, decide_true, decide_false, Int.reduceEq, Int.reduceLT, Int.reduceLE, Int.reduceSub, Int.reduceAdd, DL.wIfT, DL.wListRg, DL.eSortT, DL.eAddS, DL.eInS, DL.eLenS, DL.wSlS, DL.wI2, DL.evd_mx, DL.evd_mn, DL.evd_gcd, DL.wIStr, DL.wIEnumS, DL.wFun, DL.wWord, DL.wWordV, DL.wCallX, DL.wRaise, DL.wWordG, DL.wWordVG, DL.wRaiseI, DL.eRepS, DL.eJnL, DL.eJnT, DL.wJoin, DL.eStrI, DL.eIntS, DL.strsD_map, wg, sg]
    exact q G
  by_cases n4 : n = 4
  · simp -implicitDefEqProofs only [DL.WW, List.isEmpty_nil, List.lookup_cons, List.lookup_nil, List.map, List.length, List.length_cons, List.length_nil, List.length_set, List.replicate, List.append, List.cons_append, List.nil_append, List.append_nil, List.getElem?_cons_zero, List.getElem?_cons_succ, List.getElem?_nil, List.set_cons_zero, List.set_cons_succ, ↓reduceIte, Bool.false_eq_true, Bool.not_true, Bool.not_false, Bool.true_and, Bool.false_and, Bool.and_true, Bool.and_false, Bool.or_true, Bool.or_false, Bool.true_or, Bool.false_or, Nat.reduceAdd, Nat.reduceSub, Nat.reduceLT, Nat.reduceLeDiff, true_and, and_true, and_self, decide_eq_true_eq, Nat.zero_lt_succ, Nat.lt_add_left_iff_pos, beq_self_eq_true, String.reduceBEq, String.reduceEq, Nat.le_refl, Nat.zero_le, Bool.true_eq_false, decide_true, decide_false, Int.reduceEq, Int.reduceLT, Int.reduceLE, Int.reduceSub, Int.reduceAdd, DL.wIfT, DL.wListRg, DL.eSortT, DL.eAddS, DL.eInS, DL.eLenS, DL.wSlS, DL.wI2, DL.evd_mx, DL.evd_mn, DL.evd_gcd, DL.wIStr, DL.wIEnumS, DL.wFun, DL.wWord, DL.wWordV, DL.wCallX, DL.wRaise, DL.wWordG, DL.wWordVG, DL.wRaiseI, DL.eRepS, DL.eJnL, DL.eJnT, DL.wJoin, DL.eStrI, DL.eIntS, DL.strsD_map, DL.wEDic, n4]
    refine ⟨o2, 19, rfl, ho2, by decide, fun k o3 ho3 k0 k19 => ?_⟩
    have l1 : (Str.ofString "{").length = 1 := by decide +kernel
    have l2 : (Str.ofString "|}").length = 2 := by decide +kernel
    have sq : SeqAt.shaped (PyData.tuple [PyData.str (Str.ofString "large"), PyData.int 2000]) = true := by decide +kernel
    have eq1 : PyData.eqv (PyData.tuple [PyData.str (Str.ofString "large"), PyData.int 2000]) (PyData.tuple [PyData.str (Str.ofString "large"), PyData.int 2000]) = true := by decide +kernel
    have s0 : PyData.strOk (Str.ofString "") = true := by decide +kernel
    have lapp : ∀ a b : Str, (a ++ b).length = a.length + b.length := fun a b => by
      show (a.cps ++ b.cps).size = _
      rw [Array.size_append]
      rfl
    have b42 := deep_of (k := 0) (by decide) (by decide)
    have c42 : (cutS (deepT 0) (some 1) (some (-2))).cps.toList = ((deepL 42).drop 1).take 123 := by decide +kernel
    have g42 : goodL (((deepL 42).drop 1).take 123) = true := by decide +kernel
    have bk := deep_of k0 k19
    simp -implicitDefEqProofs only [DL.WW, List.isEmpty_nil, List.lookup_cons, List.lookup_nil, List.map, List.length, List.length_cons, List.length_nil, List.length_set, List.replicate, List.append, List.cons_append, List.nil_append, List.append_nil, List.getElem?_cons_zero, List.getElem?_cons_succ, List.getElem?_nil, List.set_cons_zero, List.set_cons_succ, ↓reduceIte, Bool.false_eq_true, Bool.not_true, Bool.not_false, Bool.true_and, Bool.false_and, Bool.and_true, Bool.and_false, Bool.or_true, Bool.or_false, Bool.true_or, Bool.false_or, Nat.reduceAdd, Nat.reduceSub, Nat.reduceLT, Nat.reduceLeDiff, true_and, and_true, and_self, decide_eq_true_eq, Nat.zero_lt_succ, Nat.lt_add_left_iff_pos, beq_self_eq_true, String.reduceBEq, String.reduceEq, Nat.le_refl, Nat.zero_le, Bool.true_eq_false, decide_true, decide_false, Int.reduceEq, Int.reduceLT, Int.reduceLE, Int.reduceSub, Int.reduceAdd, DL.wIfT, DL.wListRg, DL.eSortT, DL.eAddS, DL.eInS, DL.eLenS, DL.wSlS, DL.wI2, DL.evd_mx, DL.evd_mn, DL.evd_gcd, DL.wIStr, DL.wIEnumS, DL.wFun, DL.wWord, DL.wWordV, DL.wCallX, DL.wRaise, DL.wWordG, DL.wWordVG, DL.wRaiseI, DL.eRepS, DL.eJnL, DL.eJnT, DL.wJoin, DL.eStrI, DL.eIntS, DL.strsD_map, l1, l2, repS_len, lapp]
    refine ⟨by omega, by omega, by omega, by omega, by omega, by omega, hG, word_big bk.1 bk.2 ?_⟩
    simp -implicitDefEqProofs only [DL.WW, List.isEmpty_nil, List.lookup_cons, List.lookup_nil, List.map, List.length, List.length_cons, List.length_nil, List.length_set, List.replicate, List.append, List.cons_append, List.nil_append, List.append_nil, List.getElem?_cons_zero, List.getElem?_cons_succ, List.getElem?_nil, List.set_cons_zero, List.set_cons_succ, ↓reduceIte, Bool.false_eq_true, Bool.not_true, Bool.not_false, Bool.true_and, Bool.false_and, Bool.and_true, Bool.and_false, Bool.or_true, Bool.or_false, Bool.true_or, Bool.false_or, Nat.reduceAdd, Nat.reduceSub, Nat.reduceLT, Nat.reduceLeDiff, true_and, and_true, and_self, decide_eq_true_eq, Nat.zero_lt_succ, Nat.lt_add_left_iff_pos, beq_self_eq_true, String.reduceBEq, String.reduceEq, Nat.le_refl, Nat.zero_le, Bool.true_eq_false, decide_true, decide_false, Int.reduceEq, Int.reduceLT, Int.reduceLE, Int.reduceSub, Int.reduceAdd, DL.wIfT, DL.wListRg, DL.eSortT, DL.eAddS, DL.eInS, DL.eLenS, DL.wSlS, DL.wI2, DL.evd_mx, DL.evd_mn, DL.evd_gcd, DL.wIStr, DL.wIEnumS, DL.wFun, DL.wWord, DL.wWordV, DL.wCallX, DL.wRaise, DL.wWordG, DL.wWordVG, DL.wRaiseI, DL.eRepS, DL.eJnL, DL.eJnT, DL.wJoin, DL.eStrI, DL.eIntS, DL.strsD_map, wres_large, sq, eq1, l1, l2, repS_len, lapp]
    refine ⟨by decide, by decide, hG, word_big b42.1 b42.2 ?_⟩
    simp -implicitDefEqProofs only [DL.WW, List.isEmpty_nil, List.lookup_cons, List.lookup_nil, List.map, List.length, List.length_cons, List.length_nil, List.length_set, List.replicate, List.append, List.cons_append, List.nil_append, List.append_nil, List.getElem?_cons_zero, List.getElem?_cons_succ, List.getElem?_nil, List.set_cons_zero, List.set_cons_succ, ↓reduceIte, Bool.false_eq_true, Bool.not_true, Bool.not_false, Bool.true_and, Bool.false_and, Bool.and_true, Bool.and_false, Bool.or_true, Bool.or_false, Bool.true_or, Bool.false_or, Nat.reduceAdd, Nat.reduceSub, Nat.reduceLT, Nat.reduceLeDiff, true_and, and_true, and_self, decide_eq_true_eq, Nat.zero_lt_succ, Nat.lt_add_left_iff_pos, beq_self_eq_true, String.reduceBEq, String.reduceEq, Nat.le_refl, Nat.zero_le, Bool.true_eq_false, decide_true, decide_false, Int.reduceEq, Int.reduceLT, Int.reduceLE, Int.reduceSub, Int.reduceAdd, DL.wIfT, DL.wListRg, DL.eSortT, DL.eAddS, DL.eInS, DL.eLenS, DL.wSlS, DL.wI2, DL.evd_mx, DL.evd_mn, DL.evd_gcd, DL.wIStr, DL.wIEnumS, DL.wFun, DL.wWord, DL.wWordV, DL.wCallX, DL.wRaise, DL.wWordG, DL.wWordVG, DL.wRaiseI, DL.eRepS, DL.eJnL, DL.eJnT, DL.wJoin, DL.eStrI, DL.eIntS, DL.strsD_map, wres_large, sq, eq1, s0]
    refine ⟨hG, by decide, word_good c42 g42 fun g => ?_⟩
    simp -implicitDefEqProofs only [DL.WW, List.isEmpty_nil, List.lookup_cons, List.lookup_nil, List.map, List.length, List.length_cons, List.length_nil, List.length_set, List.replicate, List.append, List.cons_append, List.nil_append, List.append_nil, List.getElem?_cons_zero, List.getElem?_cons_succ, List.getElem?_nil, List.set_cons_zero, List.set_cons_succ, ↓reduceIte, Bool.false_eq_true, Bool.not_true, Bool.not_false, Bool.true_and, Bool.false_and, Bool.and_true, Bool.and_false, Bool.or_true, Bool.or_false, Bool.true_or, Bool.false_or, Nat.reduceAdd, Nat.reduceSub, Nat.reduceLT, Nat.reduceLeDiff, true_and, and_true, and_self, decide_eq_true_eq, Nat.zero_lt_succ, Nat.lt_add_left_iff_pos, beq_self_eq_true, String.reduceBEq, String.reduceEq, Nat.le_refl, Nat.zero_le, Bool.true_eq_false, decide_true, decide_false, Int.reduceEq, Int.reduceLT, Int.reduceLE, Int.reduceSub, Int.reduceAdd, DL.wIfT, DL.wListRg, DL.eSortT, DL.eAddS, DL.eInS, DL.eLenS, DL.wSlS, DL.wI2, DL.evd_mx, DL.evd_mn, DL.evd_gcd, DL.wIStr, DL.wIEnumS, DL.wFun, DL.wWord, DL.wWordV, DL.wCallX, DL.wRaise, DL.wWordG, DL.wWordVG, DL.wRaiseI, DL.eRepS, DL.eJnL, DL.eJnT, DL.wJoin, DL.eStrI, DL.eIntS, DL.strsD_map]
    refine ⟨o3, 40, rfl, ho3, by decide, fun j o4 ho4 j0 j40 => ?_⟩
    simp -implicitDefEqProofs only [DL.WW, List.isEmpty_nil, List.lookup_cons, List.lookup_nil, List.map, List.length, List.length_cons, List.length_nil, List.length_set, List.replicate, List.append, List.cons_append, List.nil_append, List.append_nil, List.getElem?_cons_zero, List.getElem?_cons_succ, List.getElem?_nil, List.set_cons_zero, List.set_cons_succ, ↓reduceIte, Bool.false_eq_true, Bool.not_true, Bool.not_false, Bool.true_and, Bool.false_and, Bool.and_true, Bool.and_false, Bool.or_true, Bool.or_false, Bool.true_or, Bool.false_or, Nat.reduceAdd, Nat.reduceSub, Nat.reduceLT, Nat.reduceLeDiff, true_and, and_true, and_self, decide_eq_true_eq, Nat.zero_lt_succ, Nat.lt_add_left_iff_pos, beq_self_eq_true, String.reduceBEq, String.reduceEq, Nat.le_refl, Nat.zero_le, Bool.true_eq_false, decide_true, decide_false, Int.reduceEq, Int.reduceLT, Int.reduceLE, Int.reduceSub, Int.reduceAdd, DL.wIfT, DL.wListRg, DL.eSortT, DL.eAddS, DL.eInS, DL.eLenS, DL.wSlS, DL.wI2, DL.evd_mx, DL.evd_mn, DL.evd_gcd, DL.wIStr, DL.wIEnumS, DL.wFun, DL.wWord, DL.wWordV, DL.wCallX, DL.wRaise, DL.wWordG, DL.wWordVG, DL.wRaiseI, DL.eRepS, DL.eJnL, DL.eJnT, DL.wJoin, DL.eStrI, DL.eIntS, DL.strsD_map, l1, l2, repS_len, lapp]
    have mk := many_of j0 j40
    refine ⟨hG, by omega, by omega, by omega, by omega, by omega, word_bad mk.1 mk.2 ?_⟩
    simp -implicitDefEqProofs only [DL.WW, List.isEmpty_nil, List.lookup_cons, List.lookup_nil, List.map, List.length, List.length_cons, List.length_nil, List.length_set, List.replicate, List.append, List.cons_append, List.nil_append, List.append_nil, List.getElem?_cons_zero, List.getElem?_cons_succ, List.getElem?_nil, List.set_cons_zero, List.set_cons_succ, ↓reduceIte, Bool.false_eq_true, Bool.not_true, Bool.not_false, Bool.true_and, Bool.false_and, Bool.and_true, Bool.and_false, Bool.or_true, Bool.or_false, Bool.true_or, Bool.false_or, Nat.reduceAdd, Nat.reduceSub, Nat.reduceLT, Nat.reduceLeDiff, true_and, and_true, and_self, decide_eq_true_eq, Nat.zero_lt_succ, Nat.lt_add_left_iff_pos, beq_self_eq_true, String.reduceBEq, String.reduceEq, Nat.le_refl, Nat.zero_le, Bool.true_eq_false, decide_true, decide_false, Int.reduceEq, Int.reduceLT, Int.reduceLE, Int.reduceSub, Int.reduceAdd, DL.wIfT, DL.wListRg, DL.eSortT, DL.eAddS, DL.eInS, DL.eLenS, DL.wSlS, DL.wI2, DL.evd_mx, DL.evd_mn, DL.evd_gcd, DL.wIStr, DL.wIEnumS, DL.wFun, DL.wWord, DL.wWordV, DL.wCallX, DL.wRaise, DL.wWordG, DL.wWordVG, DL.wRaiseI, DL.eRepS, DL.eJnL, DL.eJnT, DL.wJoin, DL.eStrI, DL.eIntS, DL.strsD_map, wres_text]
    refine ⟨sh_text _, sh_text _, ?_⟩
    exact q G
  simp -implicitDefEqProofs only [DL.WW, List.isEmpty_nil, List.lookup_cons, List.lookup_nil, List.map, List.length, List.length_cons, List.length_nil, List.length_set, List.replicate, List.append, List.cons_append, List.nil_append, List.append_nil, List.getElem?_cons_zero, List.getElem?_cons_succ, List.getElem?_nil, List.set_cons_zero, List.set_cons_succ, ↓reduceIte, Bool.false_eq_true, Bool.not_true, Bool.not_false, Bool.true_and, Bool.false_and, Bool.and_true, Bool.and_false, Bool.or_true, Bool.or_false, Bool.true_or, Bool.false_or, Nat.reduceAdd, Nat.reduceSub, Nat.reduceLT, Nat.reduceLeDiff, true_and, and_true, and_self, decide_eq_true_eq, Nat.zero_lt_succ, Nat.lt_add_left_iff_pos, beq_self_eq_true, String.reduceBEq, String.reduceEq, Nat.le_refl, Nat.zero_le, Bool.true_eq_false, decide_true, decide_false, Int.reduceEq, Int.reduceLT, Int.reduceLE, Int.reduceSub, Int.reduceAdd, DL.wIfT, DL.wListRg, DL.eSortT, DL.eAddS, DL.eInS, DL.eLenS, DL.wSlS, DL.wI2, DL.evd_mx, DL.evd_mn, DL.evd_gcd, DL.wIStr, DL.wIEnumS, DL.wFun, DL.wWord, DL.wWordV, DL.wCallX, DL.wRaise, DL.wWordG, DL.wWordVG, DL.wRaiseI, DL.eRepS, DL.eJnL, DL.eJnT, DL.wJoin, DL.eStrI, DL.eIntS, DL.strsD_map, DL.wEDic, n0, n1, n2, n3, n4]
  refine ⟨_, _, rfl, ho2, by decide, fun d o3 ho3 hd => ?_⟩
  have hd2 : d = .str (Str.ofString "0") ∨ d = .str (Str.ofString "0,0") := by
    simp only [List.mem_cons, List.not_mem_nil, or_false] at hd
    exact hd
  clear hd
  have e0 : (Str.ofString "0").cps.toList = [48] := by decide +kernel
  have e00 : (Str.ofString "0,0").cps.toList = [48, 44, 48] := by decide +kernel
  have ne : ¬ Str.ofString "0" = Str.ofString "0,0" := by decide +kernel
  have s0 : PyData.strOk (Str.ofString "") = true := by decide +kernel
  have sz : PyData.strOk (Str.ofString "0") = true := by decide +kernel
  have szz : PyData.strOk (Str.ofString "0,0") = true := by decide +kernel
  have sq : SeqAt.shaped (PyData.tuple [PyData.str (Str.ofString "large"), PyData.int 2000]) = true := by decide +kernel
  have eq1 : PyData.eqv (PyData.tuple [PyData.str (Str.ofString "large"), PyData.int 2000]) (PyData.tuple [PyData.str (Str.ofString "large"), PyData.int 2000]) = true := by decide +kernel
  have l1 : (Str.ofString "{").length = 1 := by decide +kernel
  have l2 : (Str.ofString "*,").length = 2 := by decide +kernel
  have l3 : (Str.ofString "*|").length = 2 := by decide +kernel
  have l4 : (Str.ofString "}").length = 1 := by decide +kernel
  have l5 : (Str.ofString "0").length = 1 := by decide +kernel
  have l6 : (Str.ofString "0,0").length = 3 := by decide +kernel
  have lapp : ∀ a b : Str, (a ++ b).length = a.length + b.length := fun a b => by
    show (a.cps ++ b.cps).size = _
    rw [Array.size_append]
    rfl
  have end1 : badL [48, 125] 1 = true := by decide +kernel
  have end2 : badL [123, 48, 124, 48, 125, 48] 5 = true := by decide +kernel
  have f1 : (Str.ofString "0}").cps.toList = [48, 125] := by decide +kernel
  have f2 : (Str.ofString "{0|0}0").cps.toList = [123, 48, 124, 48, 125, 48] := by decide +kernel
  have q1 : SeqAt.shaped (PyData.tuple [PyData.str (Str.ofString "text"), PyData.int 1]) = true := by decide +kernel
  have e1 : PyData.eqv (PyData.tuple [PyData.str (Str.ofString "text"), PyData.int 1]) (PyData.tuple [PyData.str (Str.ofString "text"), PyData.int 1]) = true := by decide +kernel
  have q5 : SeqAt.shaped (PyData.tuple [PyData.str (Str.ofString "text"), PyData.int 5]) = true := by decide +kernel
  have e5 : PyData.eqv (PyData.tuple [PyData.str (Str.ofString "text"), PyData.int 5]) (PyData.tuple [PyData.str (Str.ofString "text"), PyData.int 5]) = true := by decide +kernel
  have wt1 : wresD (Str.ofString "text", some (.int 1)) = .tuple [.str (Str.ofString "text"), .int 1] := rfl
  have wt5 : wresD (Str.ofString "text", some (.int 5)) = .tuple [.str (Str.ofString "text"), .int 5] := rfl
  rcases hd2 with rfl | rfl
  · simp -implicitDefEqProofs only [DL.WW, List.isEmpty_nil, List.lookup_cons, List.lookup_nil, List.map, List.length, List.length_cons, List.length_nil, List.length_set, List.replicate, List.append, List.cons_append, List.nil_append, List.append_nil, List.getElem?_cons_zero, List.getElem?_cons_succ, List.getElem?_nil, List.set_cons_zero, List.set_cons_succ, ↓reduceIte, Bool.false_eq_true, Bool.not_true, Bool.not_false, Bool.true_and, Bool.false_and, Bool.and_true, Bool.and_false, Bool.or_true, Bool.or_false, Bool.true_or, Bool.false_or, Nat.reduceAdd, Nat.reduceSub, Nat.reduceLT, Nat.reduceLeDiff, true_and, and_true, and_self, decide_eq_true_eq, Nat.zero_lt_succ, Nat.lt_add_left_iff_pos, beq_self_eq_true, String.reduceBEq, String.reduceEq, Nat.le_refl, Nat.zero_le, Bool.true_eq_false, decide_true, decide_false, Int.reduceEq, Int.reduceLT, Int.reduceLE, Int.reduceSub, Int.reduceAdd, DL.wIfT, DL.wListRg, DL.eSortT, DL.eAddS, DL.eInS, DL.eLenS, DL.wSlS, DL.wI2, DL.evd_mx, DL.evd_mn, DL.evd_gcd, DL.wIStr, DL.wIEnumS, DL.wFun, DL.wWord, DL.wWordV, DL.wCallX, DL.wRaise, DL.wWordG, DL.wWordVG, DL.wRaiseI, DL.eRepS, DL.eJnL, DL.eJnT, DL.wJoin, DL.eStrI, DL.eIntS, DL.strsD_map, l1, l2, l3, l4, l5, l6, repS_len, lapp, ne]
    refine ⟨by decide, by decide, by decide, by decide, sz, szz, hG, word_good (long_eq _) (by rw [e0]; exact long_good) fun g => ?_⟩
    simp -implicitDefEqProofs only [DL.WW, List.isEmpty_nil, List.lookup_cons, List.lookup_nil, List.map, List.length, List.length_cons, List.length_nil, List.length_set, List.replicate, List.append, List.cons_append, List.nil_append, List.append_nil, List.getElem?_cons_zero, List.getElem?_cons_succ, List.getElem?_nil, List.set_cons_zero, List.set_cons_succ, ↓reduceIte, Bool.false_eq_true, Bool.not_true, Bool.not_false, Bool.true_and, Bool.false_and, Bool.and_true, Bool.and_false, Bool.or_true, Bool.or_false, Bool.true_or, Bool.false_or, Nat.reduceAdd, Nat.reduceSub, Nat.reduceLT, Nat.reduceLeDiff, true_and, and_true, and_self, decide_eq_true_eq, Nat.zero_lt_succ, Nat.lt_add_left_iff_pos, beq_self_eq_true, String.reduceBEq, String.reduceEq, Nat.le_refl, Nat.zero_le, Bool.true_eq_false, decide_true, decide_false, Int.reduceEq, Int.reduceLT, Int.reduceLE, Int.reduceSub, Int.reduceAdd, DL.wIfT, DL.wListRg, DL.eSortT, DL.eAddS, DL.eInS, DL.eLenS, DL.wSlS, DL.wI2, DL.evd_mx, DL.evd_mn, DL.evd_gcd, DL.wIStr, DL.wIEnumS, DL.wFun, DL.wWord, DL.wWordV, DL.wCallX, DL.wRaise, DL.wWordG, DL.wWordVG, DL.wRaiseI, DL.eRepS, DL.eJnL, DL.eJnT, DL.wJoin, DL.eStrI, DL.eIntS, DL.strsD_map, s0]
    refine ⟨hG, word_bad f1 end1 ?_⟩
    simp -implicitDefEqProofs only [DL.WW, List.isEmpty_nil, List.lookup_cons, List.lookup_nil, List.map, List.length, List.length_cons, List.length_nil, List.length_set, List.replicate, List.append, List.cons_append, List.nil_append, List.append_nil, List.getElem?_cons_zero, List.getElem?_cons_succ, List.getElem?_nil, List.set_cons_zero, List.set_cons_succ, ↓reduceIte, Bool.false_eq_true, Bool.not_true, Bool.not_false, Bool.true_and, Bool.false_and, Bool.and_true, Bool.and_false, Bool.or_true, Bool.or_false, Bool.true_or, Bool.false_or, Nat.reduceAdd, Nat.reduceSub, Nat.reduceLT, Nat.reduceLeDiff, true_and, and_true, and_self, decide_eq_true_eq, Nat.zero_lt_succ, Nat.lt_add_left_iff_pos, beq_self_eq_true, String.reduceBEq, String.reduceEq, Nat.le_refl, Nat.zero_le, Bool.true_eq_false, decide_true, decide_false, Int.reduceEq, Int.reduceLT, Int.reduceLE, Int.reduceSub, Int.reduceAdd, DL.wIfT, DL.wListRg, DL.eSortT, DL.eAddS, DL.eInS, DL.eLenS, DL.wSlS, DL.wI2, DL.evd_mx, DL.evd_mn, DL.evd_gcd, DL.wIStr, DL.wIEnumS, DL.wFun, DL.wWord, DL.wWordV, DL.wCallX, DL.wRaise, DL.wWordG, DL.wWordVG, DL.wRaiseI, DL.eRepS, DL.eJnL, DL.eJnT, DL.wJoin, DL.eStrI, DL.eIntS, DL.strsD_map, wt1, q1, e1]
    refine ⟨hG, word_bad f2 end2 ?_⟩
    simp -implicitDefEqProofs only [DL.WW, List.isEmpty_nil, List.lookup_cons, List.lookup_nil, List.map, List.length, List.length_cons, List.length_nil, List.length_set, List.replicate, List.append, List.cons_append, List.nil_append, List.append_nil, List.getElem?_cons_zero, List.getElem?_cons_succ, List.getElem?_nil, List.set_cons_zero, List.set_cons_succ, ↓reduceIte, Bool.false_eq_true, Bool.not_true, Bool.not_false, Bool.true_and, Bool.false_and, Bool.and_true, Bool.and_false, Bool.or_true, Bool.or_false, Bool.true_or, Bool.false_or, Nat.reduceAdd, Nat.reduceSub, Nat.reduceLT, Nat.reduceLeDiff, true_and, and_true, and_self, decide_eq_true_eq, Nat.zero_lt_succ, Nat.lt_add_left_iff_pos, beq_self_eq_true, String.reduceBEq, String.reduceEq, Nat.le_refl, Nat.zero_le, Bool.true_eq_false, decide_true, decide_false, Int.reduceEq, Int.reduceLT, Int.reduceLE, Int.reduceSub, Int.reduceAdd, DL.wIfT, DL.wListRg, DL.eSortT, DL.eAddS, DL.eInS, DL.eLenS, DL.wSlS, DL.wI2, DL.evd_mx, DL.evd_mn, DL.evd_gcd, DL.wIStr, DL.wIEnumS, DL.wFun, DL.wWord, DL.wWordV, DL.wCallX, DL.wRaise, DL.wWordG, DL.wWordVG, DL.wRaiseI, DL.eRepS, DL.eJnL, DL.eJnT, DL.wJoin, DL.eStrI, DL.eIntS, DL.strsD_map, wt5, q5, e5]
    exact q G
  · simp -implicitDefEqProofs only [DL.WW, List.isEmpty_nil, List.lookup_cons, List.lookup_nil, List.map, List.length, List.length_cons, List.length_nil, List.length_set, List.replicate, List.append, List.cons_append, List.nil_append, List.append_nil, List.getElem?_cons_zero, List.getElem?_cons_succ, List.getElem?_nil, List.set_cons_zero, List.set_cons_succ, ↓reduceIte, Bool.false_eq_true, Bool.not_true, Bool.not_false, Bool.true_and, Bool.false_and, Bool.and_true, Bool.and_false, Bool.or_true, Bool.or_false, Bool.true_or, Bool.false_or, Nat.reduceAdd, Nat.reduceSub, Nat.reduceLT, Nat.reduceLeDiff, true_and, and_true, and_self, decide_eq_true_eq, Nat.zero_lt_succ, Nat.lt_add_left_iff_pos, beq_self_eq_true, String.reduceBEq, String.reduceEq, Nat.le_refl, Nat.zero_le, Bool.true_eq_false, decide_true, decide_false, Int.reduceEq, Int.reduceLT, Int.reduceLE, Int.reduceSub, Int.reduceAdd, DL.wIfT, DL.wListRg, DL.eSortT, DL.eAddS, DL.eInS, DL.eLenS, DL.wSlS, DL.wI2, DL.evd_mx, DL.evd_mn, DL.evd_gcd, DL.wIStr, DL.wIEnumS, DL.wFun, DL.wWord, DL.wWordV, DL.wCallX, DL.wRaise, DL.wWordG, DL.wWordVG, DL.wRaiseI, DL.eRepS, DL.eJnL, DL.eJnT, DL.wJoin, DL.eStrI, DL.eIntS, DL.strsD_map, l1, l2, l3, l4, l5, l6, repS_len, lapp]
    refine ⟨by decide, by decide, by decide, by decide, szz, szz, hG, word_big (long_eq _) (by rw [e00]; exact long_big) ?_⟩
    simp -implicitDefEqProofs only [DL.WW, List.isEmpty_nil, List.lookup_cons, List.lookup_nil, List.map, List.length, List.length_cons, List.length_nil, List.length_set, List.replicate, List.append, List.cons_append, List.nil_append, List.append_nil, List.getElem?_cons_zero, List.getElem?_cons_succ, List.getElem?_nil, List.set_cons_zero, List.set_cons_succ, ↓reduceIte, Bool.false_eq_true, Bool.not_true, Bool.not_false, Bool.true_and, Bool.false_and, Bool.and_true, Bool.and_false, Bool.or_true, Bool.or_false, Bool.true_or, Bool.false_or, Nat.reduceAdd, Nat.reduceSub, Nat.reduceLT, Nat.reduceLeDiff, true_and, and_true, and_self, decide_eq_true_eq, Nat.zero_lt_succ, Nat.lt_add_left_iff_pos, beq_self_eq_true, String.reduceBEq, String.reduceEq, Nat.le_refl, Nat.zero_le, Bool.true_eq_false, decide_true, decide_false, Int.reduceEq, Int.reduceLT, Int.reduceLE, Int.reduceSub, Int.reduceAdd, DL.wIfT, DL.wListRg, DL.eSortT, DL.eAddS, DL.eInS, DL.eLenS, DL.wSlS, DL.wI2, DL.evd_mx, DL.evd_mn, DL.evd_gcd, DL.wIStr, DL.wIEnumS, DL.wFun, DL.wWord, DL.wWordV, DL.wCallX, DL.wRaise, DL.wWordG, DL.wWordVG, DL.wRaiseI, DL.eRepS, DL.eJnL, DL.eJnT, DL.wJoin, DL.eStrI, DL.eIntS, DL.strsD_map, wres_large, sq, eq1]
    refine ⟨hG, word_bad f1 end1 ?_⟩
    simp -implicitDefEqProofs only [DL.WW, List.isEmpty_nil, List.lookup_cons, List.lookup_nil, List.map, List.length, List.length_cons, List.length_nil, List.length_set, List.replicate, List.append, List.cons_append, List.nil_append, List.append_nil, List.getElem?_cons_zero, List.getElem?_cons_succ, List.getElem?_nil, List.set_cons_zero, List.set_cons_succ, ↓reduceIte, Bool.false_eq_true, Bool.not_true, Bool.not_false, Bool.true_and, Bool.false_and, Bool.and_true, Bool.and_false, Bool.or_true, Bool.or_false, Bool.true_or, Bool.false_or, Nat.reduceAdd, Nat.reduceSub, Nat.reduceLT, Nat.reduceLeDiff, true_and, and_true, and_self, decide_eq_true_eq, Nat.zero_lt_succ, Nat.lt_add_left_iff_pos, beq_self_eq_true, String.reduceBEq, String.reduceEq, Nat.le_refl, Nat.zero_le, Bool.true_eq_false, decide_true, decide_false, Int.reduceEq, Int.reduceLT, Int.reduceLE, Int.reduceSub, Int.reduceAdd, DL.wIfT, DL.wListRg, DL.eSortT, DL.eAddS, DL.eInS, DL.eLenS, DL.wSlS, DL.wI2, DL.evd_mx, DL.evd_mn, DL.evd_gcd, DL.wIStr, DL.wIEnumS, DL.wFun, DL.wWord, DL.wWordV, DL.wCallX, DL.wRaise, DL.wWordG, DL.wWordVG, DL.wRaiseI, DL.eRepS, DL.eJnL, DL.eJnT, DL.wJoin, DL.eStrI, DL.eIntS, DL.strsD_map, wt1, q1, e1]
    refine ⟨hG, word_bad f2 end2 ?_⟩
    simp -implicitDefEqProofs only [DL.WW, List.isEmpty_nil, List.lookup_cons, List.lookup_nil, List.map, List.length, List.length_cons, List.length_nil, List.length_set, List.replicate, List.append, List.cons_append, List.nil_append, List.append_nil, List.getElem?_cons_zero, List.getElem?_cons_succ, List.getElem?_nil, List.set_cons_zero, List.set_cons_succ, ↓reduceIte, Bool.false_eq_true, Bool.not_true, Bool.not_false, Bool.true_and, Bool.false_and, Bool.and_true, Bool.and_false, Bool.or_true, Bool.or_false, Bool.true_or, Bool.false_or, Nat.reduceAdd, Nat.reduceSub, Nat.reduceLT, Nat.reduceLeDiff, true_and, and_true, and_self, decide_eq_true_eq, Nat.zero_lt_succ, Nat.lt_add_left_iff_pos, beq_self_eq_true, String.reduceBEq, String.reduceEq, Nat.le_refl, Nat.zero_le, Bool.true_eq_false, decide_true, decide_false, Int.reduceEq, Int.reduceLT, Int.reduceLE, Int.reduceSub, Int.reduceAdd, DL.wIfT, DL.wListRg, DL.eSortT, DL.eAddS, DL.eInS, DL.eLenS, DL.wSlS, DL.wI2, DL.evd_mx, DL.evd_mn, DL.evd_gcd, DL.wIStr, DL.wIEnumS, DL.wFun, DL.wWord, DL.wWordV, DL.wCallX, DL.wRaise, DL.wWordG, DL.wWordVG, DL.wRaiseI, DL.eRepS, DL.eJnL, DL.eJnT, DL.wJoin, DL.eStrI, DL.eIntS, DL.strsD_map, wt5, q5, e5]
    exact q G
theorem ok_none {F : FSp} (h : ∀ args P, ¬ F args P) {k : Nat} {a : Addr} {d : FuncData} {ps : List Str} : FnOk P w K mg base CX0 k a d ps (spD K F) :=
  ⟨fun _ _ _ _ hs => by obtain ⟨args, A, Hz, P, y, _, hF, hQ⟩ := hs; exact absurd hF (h _ _), fun _ _ _ _ _ _ _ _ _ _ _ _ _ hs => by obtain ⟨args, A, Hz, P, y, _, hF, hQ⟩ := hs; exact absurd hF (h _ _)⟩
theorem ok_number {k : Nat} (T : Txt K mg) (G_integer_form : FnOk P w K mg base CX0 k T.a_integer_form T.d_integer_form ["number"] (spD K F_integer_form)) : ∀ f, FnOk P w K mg base CX0 (k + 1 + f) T.a_number_form T.d_number_form ["top", "bottom"] (spD K (F_numf f))
  | 0 => ok_number_form (Fi := fun _ _ => False) (fun m h => by omega) T G_integer_form (ok_none fun _ _ h => h)
  | f + 1 => ok_number_form (Fi := F_numf f) (fun m h => by rw [Nat.succ.inj h]) T (G_integer_form.mono (by show k ≤ k + 1 + f; omega)) (ok_number T G_integer_form f)
theorem ok_keepI (T : Txt K mg) : FnOk P w K mg base CX0 1 T.a_InvalidText___init__ T.d_InvalidText___init__ ["self", "place"] (LamY.spKeep K "place") := by
  refine T.F_InvalidText___init__.ok (sp := LamY.spKeep K "place") sc_InvalidText___init__ (fun vs H Q E h => by obtain ⟨a, C, v, rfl, _⟩ := h; rfl) (fun cdv A outer s H vs Q E hr h => ?_)
  obtain ⟨a, C, v, rfl, oc, hno, ha, q⟩ := h
  exact ⟨_, pss_one (ps_ost (pv 0) (pv 1)), _, rfl, _, rfl, a, C, rfl, oc, hno, .inl ⟨ha, fun dx h1 h2 => q dx h1 h2⟩⟩
theorem ok_keepL (T : Txt K mg) : FnOk P w K mg base CX0 1 T.a_TooLarge___init__ T.d_TooLarge___init__ ["self", "most"] (LamY.spKeep K "most") := by
  refine T.F_TooLarge___init__.ok (sp := LamY.spKeep K "most") sc_TooLarge___init__ (fun vs H Q E h => by obtain ⟨a, C, v, rfl, _⟩ := h; rfl) (fun cdv A outer s H vs Q E hr h => ?_)
  obtain ⟨a, C, v, rfl, oc, hno, ha, q⟩ := h
  exact ⟨_, pss_one (ps_ost (pv 0) (pv 1)), _, rfl, _, rfl, a, C, rfl, oc, hno, .inl ⟨ha, fun dx h1 h2 => q dx h1 h2⟩⟩
theorem law_end {l : PySem.W.OpenLaw} {w : World} {K : PySem.W.Frag} {mg : Str → Option Value} {fa : Addr} {h : Heap} (KX : K.In h) (N : Nonempty (Txt K mg)) (hfa : mg "law" = some (.ref fa)) (htab : ∀ c P, PySem.W.tabIn K "law" = some (c, P) → h.get? P = some { cls := .none, data := .fields #[] }) : LamX.LawAtS l w K CX0 200 63 "_law_script" mg fa h := by
  obtain ⟨T⟩ := N
  have e := hfa.symm.trans T.g_law
  cases e
  refine ⟨T.d_law, [(T.cc_law, T.cP_law)], spG K (F_law T), fun p hp => ?_, fun p hp => ?_, fun p hp => ?_, T.B_law, fun H a ns hl _ hH hS => ?_, fun base _ _ hB => ?_⟩
  · rw [List.mem_singleton] at hp
    subst hp
    exact htab _ _ T.tb_law
  · rw [List.mem_singleton] at hp
    subst hp
    exact T.nP_law
  · rw [List.mem_singleton] at hp
    subst hp
    exact PySem.W.codeHd_of_K KX T.ch_law
  · exact lawT_run (hH _ (List.mem_singleton.mpr rfl)) hS ⟨ns, rfl, if_pos rfl, hl, fun _ => ⟨rfl, rfl⟩⟩
  have hB1 := hB _ (List.mem_singleton.mpr rfl)
  have kI := ok_up (ok_keepI (P := l.prog) (w := w) (base := base) T)
  have kL := ok_up (ok_keepL (P := l.prog) (w := w) (base := base) T)
  have t1 : FnOk l.prog w K mg base CX0 1 T.a_law_taken T.d_law_taken ["_law_row", "_law_many"] (spD K F_law_taken) := ok_law_taken T
  have p1 := ok_law_pick T t1
  have h1 := ok_law_head T (G_law_taken := t1.mono (by decide)) (G_law_pick := p1)
  have gm : FnOk l.prog w K mg base CX0 1 T.a_is_game T.d_is_game ["value"] (spD K GB.F_is_game) := GB.ok_is_game T
  have xg := GB.okX_need_game T gm
  have xw := GB.okX_write T xg
  have i1 : FnOk l.prog w K mg base CX0 1 T.a_integer_form T.d_integer_form ["number"] (spD K F_integer_form) := ok_integer_form T
  have i2 : FnOk l.prog w K mg base CX0 (1 + 1 + 6) T.a_number_form T.d_number_form ["top", "bottom"] (spD K F_number_form) := ok_number T i1 6
  have n1 : FnOk l.prog w K mg base CX0 1 T.a_nimber_form T.d_nimber_form ["size"] (spD K F_nimber_form) := ok_nimber_form T
  have d1 : FnOk l.prog w K mg base CX0 1 T.a_digits_from T.d_digits_from ["text", "at"] (spD K F_digits_from) := ok_digits_from T
  have e1 : FnOk l.prog w K mg base CX0 1 T.a_too_deep T.d_too_deep ["text"] (spD K F_too_deep) := ok_too_deep T
  have w1 := okX_read_whole T (d1.mono (by decide)) kI
  have w2 := okX_read_number (k := 8) T (i2.mono (by decide)) (w1.mono (by decide)) (kI.mono (by decide))
  have w3 := okX_read_star (k := 8) T (d1.mono (by decide)) (n1.mono (by decide)) (kI.mono (by decide))
  have w4 := GB.ok_reads (k := 9) T (kI.mono (by decide)) w2 w3 60
  have w5 := GB.okX_read (k := 150) T (e1.mono (by decide)) (gm.mono (by decide)) (w4.mono (by decide)) (kL.mono (by decide)) (kI.mono (by decide))
  exact ok_law (k := 197) T hB1 (G_law_head := h1.mono (by decide)) (G_law_taken := t1.mono (by decide)) (G_law_pick := p1.mono (by decide)) (GX_read := w5.mono (by decide)) (GX_write := xw.mono (by decide)) (GL_law_pick := p1.mono (by decide))
end
end K07D


set_option Elab.async false
set_option linter.all false
set_option maxRecDepth 100000
open PySem PySem.W PyProof.Rows
set_option maxRecDepth 100000 in
set_option maxHeartbeats 0 in
theorem PySem.Challenge.cw_thermogames_k07_texts_refused_holds : PySem.Challenge.rw_thermogames_k07_texts_refused.Holds := by
  w_on; o_law; k_head; (case hw => w_witness2)
  k_fill
  refine LamX.walk_ofTs (l := PySem.Challenge.rw_thermogames_k07_texts_refused) (n := 63) (k := 200) (x := "_law_script") (CX := fun _ => L2.CX0) rfl (by decide) rfl ⟨rfl, by decide, by decide⟩ (fun w h Y => PySem.W.km_in_of Y) ?F (fun _ _ _ _ _ h => h)
  case F =>
    intro w mg fa h Y KX G hmg
    refine' K07D.law_end KX (K07.txt_mk KX G ?a0 ?l0 ?c0 ?k0 ?a1 ?l1 ?c1 ?k1 ?a2 ?l2 ?c2 ?k2 ?a3 ?l3 ?c3 ?k3 ?a4 ?l4 ?c4 ?k4 ?a5 ?l5 ?c5 ?k5 ?a6 ?l6 ?c6 ?k6 ?a7 ?l7 ?c7 ?k7 ?a8 ?l8 ?c8 ?k8 ?a9 ?l9 ?c9 ?k9 ?a10 ?l10 ?c10 ?k10 ?a11 ?l11 ?c11 ?k11 ?a12 ?l12 ?c12 ?k12 ?a13 ?l13 ?c13 ?k13 ?a14 ?l14 ?c14 ?k14 ?a15 ?l15 ?c15 ?k15 ?a16 ?l16 ?c16 ?k16 ?a17 ?l17 ?c17 ?k17 ?a18 ?l18 ?c18 ?k18 ?a19 ?l19 ?c19 ?k19 ?a20 ?l20 ?c20 ?k20 ?a21 ?l21 ?c21 ?k21 ?a22 ?l22 ?c22 ?k22 ?a23 ?l23 ?c23 ?k23 ?xe0a ?xe0b ?xe0c ?xe0d ?xe0e ?xe0f ?xe0g ?xe0h ?xe0i ?xe0j ?xe0k ?xe0l ?xe1a ?xe1b ?xe1c ?xe1d ?xe1e ?xe1f ?xe1g ?xe1h ?xe1i ?xe1j ?xe1k ?xe1l ?xe2a ?xe2b ?xe2c ?xe2d ?xe2e ?xe2f ?xe2g ?xe2h ?xe2i ?xe2j ?xe2k ?xe2l ?xi0a ?xi0b ?xi0c ?xi0d ?xi0e ?xi0f ?xi0g ?xi0h ?xi0i ?xi0j ?xi0k ?xi0l ?xi0m ?xi0n ?xi0o ?xb0 ?lx0 ?cx0 ?kx0 ?xi1a ?xi1b ?xi1c ?xi1d ?xi1e ?xi1f ?xi1g ?xi1h ?xi1i ?xi1j ?xi1k ?xi1l ?xi1m ?xi1n ?xi1o ?xb1 ?lx1 ?cx1 ?kx1 ?xk0_0 ?xk0_1 ?xk0_2 ?xk0_3 ?xk0_4 ?xm0 ?xk1_0 ?xk1_1 ?xk1_2 ?xk1_3 ?xk1_4 ?xm1 ?xk2_0 ?xk2_1 ?xk2_2 ?xk2_3 ?xk2_4 ?xm2 ?xk3_0 ?xk3_1 ?xk3_2 ?xk3_3 ?xk3_4 ?xm3 ?xk4_0 ?xk4_1 ?xk4_2 ?xk4_3 ?xk4_4 ?xm4 ?tbL ?chL ?nPL ?v0 ?v1 ?v2 ?v3 ?v4 ?v5 ?w_ZERO ?qt1 ?qt3 ?qt2 ?w_STAR ?qt4 ?qt9 ?qt10 ?qt12 ?qt11 ?qt5 ?qt6 ?qt8 ?qt7 ?w_UP ?qt13 ?qt18 ?qt19 ?qt24 ?qt25 ?qt27 ?qt26 ?qt20 ?qt21 ?qt23 ?qt22 ?qt14 ?qt15 ?qt17 ?qt16 ?w_DOWN ?qt28 ?qt39 ?qt40 ?qt42 ?qt41 ?qt29 ?qt30 ?qt35 ?qt36 ?qt38 ?qt37 ?qt31 ?qt32 ?qt34 ?qt33 ?w_UP_STAR ?qt43 ?qt57 ?qt58 ?qt60 ?qt59 ?qt44 ?qt48 ?qt53 ?qt54 ?qt56 ?qt55 ?qt49 ?qt50 ?qt52 ?qt51 ?qt45 ?qt47 ?qt46 ?w_DOWN_STAR ?qt61 ?qt66 ?qt70 ?qt75 ?qt76 ?qt78 ?qt77 ?qt71 ?qt72 ?qt74 ?qt73 ?qt67 ?qt69 ?qt68 ?qt62 ?qt63 ?qt65 ?qt64 ?z0 ?z1 ?z2 ?z3 ?z4 ?z5 ?z6 ?z7 ?z8) hmg (LamY.tab_mem ?tbM (PySem.W.km_tabs_of Y))
    case a0 => k_is
    case l0 => k_is
    case c0 => k_is
    case k0 => k_is
    case a1 => k_is
    case l1 => k_is
    case c1 => k_is
    case k1 => k_is
    case a2 => k_is
    case l2 => k_is
    case c2 => k_is
    case k2 => k_is
    case a3 => k_is
    case l3 => k_is
    case c3 => k_is
    case k3 => k_is
    case a4 => k_is
    case l4 => k_is
    case c4 => k_is
    case k4 => k_is
    case a5 => k_is
    case l5 => k_is
    case c5 => k_is
    case k5 => k_is
    case a6 => k_is
    case l6 => k_is
    case c6 => k_is
    case k6 => k_is
    case a7 => k_is
    case l7 => k_is
    case c7 => k_is
    case k7 => k_is
    case a8 => k_is
    case l8 => k_is
    case c8 => k_is
    case k8 => k_is
    case a9 => k_is
    case l9 => k_is
    case c9 => k_is
    case k9 => k_is
    case a10 => k_is
    case l10 => k_is
    case c10 => k_is
    case k10 => k_is
    case a11 => k_is
    case l11 => k_is
    case c11 => k_is
    case k11 => k_is
    case a12 => k_is
    case l12 => k_is
    case c12 => k_is
    case k12 => k_is
    case a13 => k_is
    case l13 => k_is
    case c13 => k_is
    case k13 => k_is
    case a14 => k_is
    case l14 => k_is
    case c14 => k_is
    case k14 => k_is
    case a15 => k_is
    case l15 => k_is
    case c15 => k_is
    case k15 => k_is
    case a16 => k_is
    case l16 => k_is
    case c16 => k_is
    case k16 => k_is
    case a17 => k_is
    case l17 => k_is
    case c17 => k_is
    case k17 => k_is
    case a18 => k_is
    case l18 => k_is
    case c18 => k_is
    case k18 => k_is
    case a19 => k_is
    case l19 => k_is
    case c19 => k_is
    case k19 => k_is
    case a20 => k_is
    case l20 => k_is
    case c20 => k_is
    case k20 => k_is
    case a21 => k_is
    case l21 => k_is
    case c21 => k_is
    case k21 => k_is
    case a22 => k_is
    case l22 => k_is
    case c22 => k_is
    case k22 => k_is
    case a23 => k_is
    case l23 => k_is
    case c23 => k_is
    case k23 => k_is
    case xe0a => k_is
    case xe0b => k_exc
    case xe0c => k_is
    case xe0d => k_is
    case xe0e => k_is
    case xe0f => k_is
    case xe0g => k_is
    case xe0h => k_is
    case xe0i => k_is
    case xe0j => k_is
    case xe0k => k_is
    case xe0l => k_is
    case xe1a => k_is
    case xe1b => k_exc
    case xe1c => k_is
    case xe1d => k_is
    case xe1e => k_is
    case xe1f => k_is
    case xe1g => k_is
    case xe1h => k_is
    case xe1i => k_is
    case xe1j => k_is
    case xe1k => k_is
    case xe1l => k_is
    case xe2a => k_is
    case xe2b => k_exc
    case xe2c => k_is
    case xe2d => k_is
    case xe2e => k_is
    case xe2f => k_is
    case xe2g => k_is
    case xe2h => k_is
    case xe2i => k_is
    case xe2j => k_is
    case xe2k => k_is
    case xe2l => k_is
    case xi0a => k_is
    case xi0b => k_is
    case xi0c => k_is
    case xi0d => k_is
    case xi0e => k_is
    case xi0f => k_is
    case xi0g => k_is
    case xi0h => k_is
    case xi0i => k_is
    case xi0j => k_is
    case xi0k => k_is
    case xi0l => k_is
    case xi0m => k_is
    case xi0n => k_is
    case xi0o => k_is
    case xb0 => exact rfl
    case lx0 => k_is
    case cx0 => k_is
    case kx0 => k_is
    case xi1a => k_is
    case xi1b => k_is
    case xi1c => k_is
    case xi1d => k_is
    case xi1e => k_is
    case xi1f => k_is
    case xi1g => k_is
    case xi1h => k_is
    case xi1i => k_is
    case xi1j => k_is
    case xi1k => k_is
    case xi1l => k_is
    case xi1m => k_is
    case xi1n => k_is
    case xi1o => k_is
    case xb1 => exact rfl
    case lx1 => k_is
    case cx1 => k_is
    case kx1 => k_is
    case xk0_0 => exact rfl
    case xk0_1 => exact rfl
    case xk0_2 => exact rfl
    case xk0_3 => exact rfl
    case xk0_4 => exact rfl
    case xm0 => exact rfl
    case xk1_0 => exact rfl
    case xk1_1 => exact rfl
    case xk1_2 => exact rfl
    case xk1_3 => exact rfl
    case xk1_4 => exact rfl
    case xm1 => exact rfl
    case xk2_0 => exact rfl
    case xk2_1 => exact rfl
    case xk2_2 => exact rfl
    case xk2_3 => exact rfl
    case xk2_4 => exact rfl
    case xm2 => exact rfl
    case xk3_0 => exact rfl
    case xk3_1 => exact rfl
    case xk3_2 => exact rfl
    case xk3_3 => exact rfl
    case xk3_4 => exact rfl
    case xm3 => exact rfl
    case xk4_0 => exact rfl
    case xk4_1 => exact rfl
    case xk4_2 => exact rfl
    case xk4_3 => exact rfl
    case xk4_4 => exact rfl
    case xm4 => exact rfl
    case tbL => exact rfl
    case chL => exact rfl
    case nPL => exact rfl
    case v0 => k_is
    case v1 => k_is
    case v2 => k_is
    case v3 => k_is
    case v4 => k_is
    case v5 => k_is
    case w_ZERO => k_is
    case qt1 => k_is
    case qt3 => k_is
    case qt2 => k_is
    case w_STAR => k_is
    case qt4 => k_is
    case qt9 => k_is
    case qt10 => k_is
    case qt12 => k_is
    case qt11 => k_is
    case qt5 => k_is
    case qt6 => k_is
    case qt8 => k_is
    case qt7 => k_is
    case w_UP => k_is
    case qt13 => k_is
    case qt18 => k_is
    case qt19 => k_is
    case qt24 => k_is
    case qt25 => k_is
    case qt27 => k_is
    case qt26 => k_is
    case qt20 => k_is
    case qt21 => k_is
    case qt23 => k_is
    case qt22 => k_is
    case qt14 => k_is
    case qt15 => k_is
    case qt17 => k_is
    case qt16 => k_is
    case w_DOWN => k_is
    case qt28 => k_is
    case qt39 => k_is
    case qt40 => k_is
    case qt42 => k_is
    case qt41 => k_is
    case qt29 => k_is
    case qt30 => k_is
    case qt35 => k_is
    case qt36 => k_is
    case qt38 => k_is
    case qt37 => k_is
    case qt31 => k_is
    case qt32 => k_is
    case qt34 => k_is
    case qt33 => k_is
    case w_UP_STAR => k_is
    case qt43 => k_is
    case qt57 => k_is
    case qt58 => k_is
    case qt60 => k_is
    case qt59 => k_is
    case qt44 => k_is
    case qt48 => k_is
    case qt53 => k_is
    case qt54 => k_is
    case qt56 => k_is
    case qt55 => k_is
    case qt49 => k_is
    case qt50 => k_is
    case qt52 => k_is
    case qt51 => k_is
    case qt45 => k_is
    case qt47 => k_is
    case qt46 => k_is
    case w_DOWN_STAR => k_is
    case qt61 => k_is
    case qt66 => k_is
    case qt70 => k_is
    case qt75 => k_is
    case qt76 => k_is
    case qt78 => k_is
    case qt77 => k_is
    case qt71 => k_is
    case qt72 => k_is
    case qt74 => k_is
    case qt73 => k_is
    case qt67 => k_is
    case qt69 => k_is
    case qt68 => k_is
    case qt62 => k_is
    case qt63 => k_is
    case qt65 => k_is
    case qt64 => k_is
    case z0 => k_is
    case z1 => k_is
    case z2 => k_is
    case z3 => k_is
    case z4 => k_is
    case z5 => k_is
    case z6 => k_is
    case z7 => k_is
    case z8 => k_is
    case tbM => exact rfl
#print axioms PySem.Challenge.cw_thermogames_k07_texts_refused_holds

