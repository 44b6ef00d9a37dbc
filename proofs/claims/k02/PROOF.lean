import PyProof.Rows.All
import Wide.All
import OpenK.AllK
import Wide.FinOn
import KE.KStateDown
import HandS.ForMost
import HandS.ForExc
import HandS.Walk
import HandS.Codes
import HandS.IsInst
import HandS.More
import HandS.Flow
import HandS.Defaults
import HandS.Head0
import HandS.Head1
import HandS.Head2
import HandS.HeadEnd
import HandS.HeadHook1
import HandS.HeadHook2
import PySem.Challenge.RW_wordrooms_k02_words_written
set_option Elab.async false
set_option linter.all false
set_option maxRecDepth 100000
set_option maxHeartbeats 4000000
namespace Wr
open PySem PySem.Spec PyProof.Rows L2

/-! ### own defs, by name -/
def Own (P : Program) (w : World) (K : PySem.W.Frag) (mg : Str → Option Value) (base : Heap) (CX : CXT) (k : Nat) (x : Str) (ps : List Str) (sp : Sp) : Prop :=
  ∃ f fd, FnOk P w K mg base CX k f fd ps sp ∧ mg x = some (.ref f) ∧ PySem.W.keepIn K (.ref f) = true ∧ Binds K fd ps []
section
variable {X : Cx} {k : Nat} {x : Str} {ps : List Str} {sp : Sp} {e : Expr} {es : List Expr} {t : TA} {p pos : Pos}
theorem pe_own (G : Own X.prog X.w X.K X.mg X.base CX0 k x ps sp) (hr : Room k X.A) (hg : Gl X x) (ha : PA X (e :: es) t)
    (hdb : (x == ("__debug__" : Str)) = false := by decide) (he : starEach (e :: es) X.env = (false, eval e X.env) :: starEach es X.env := by rfl) (hpl : (backTo pos (starEach es X.env)).any (·.1) = false := by rfl) :
    PE X (.Call (.Name x p) (e :: es) [] pos) (tCall sp [] E0 t) := by
  obtain ⟨f, fd, F, hm, hk, hb⟩ := G
  exact pe_call F hr hg hm hk hb .nil pass0 ha hdb he hpl
theorem pe_own0 (G : Own X.prog X.w X.K X.mg X.base CX0 k x ps sp) (hr : Room k X.A) (hg : Gl X x)
    (hdb : (x == ("__debug__" : Str)) = false := by decide) :
    PE X (.Call (.Name x p) [] [] pos) (tCall sp [] E0 tNil) := by
  obtain ⟨f, fd, F, hm, hk, hb⟩ := G
  exact pe_call0 F hr hg hm hk hb .nil pass0 hdb
theorem pe_gs {z : Str} (hg : Gl X x) (h : ∃ t, X.mg x = some (.str z t)) (hd : (x == ("__debug__" : Str)) = false := by decide) : PE X (.Name x pos) (tC (.str z)) := by
  obtain ⟨t, h⟩ := h
  exact pe_glob hg h ⟨t, rfl⟩ hd
theorem pe_gi {i : Int} (hg : Gl X x) (h : ∃ t, X.mg x = some (.int i t)) (hd : (x == ("__debug__" : Str)) = false := by decide) : PE X (.Name x pos) (tC (.int i)) := by
  obtain ⟨t, h⟩ := h
  exact pe_glob hg h ⟨t, rfl⟩ hd
theorem pe_sc {l : List Nat} {z : Str} {j} (h : z = ⟨l.toArray⟩) : PE X (.Constant (.str z) j pos) (tC (.str ⟨l.toArray⟩)) := by
  subst h
  exact pe_str
theorem pe_gsS {l : List Nat} {z : Str} (hg : Gl X x) (h : ∃ t, X.mg x = some (.str z t)) (hz : z = ⟨l.toArray⟩) (hd : (x == ("__debug__" : Str)) = false := by decide) : PE X (.Name x pos) (tC (.str ⟨l.toArray⟩)) := by
  subst hz
  exact pe_gs hg h hd
theorem ip_addS : PIp X .Add (fun x y H Q => ∃ i j, x = .str i ∧ y = .str j ∧ i.length + j.length ≤ sizeLine ∧ Q (.str (i ++ j)) H) :=
  fun pins s σ H x y u v Q I rx ry h => iop_add_str pins s σ H x y u v Q I rx ry h
end

/-! ### texts as lists of signs -/
abbrev S (l : List Nat) : Str := ⟨l.toArray⟩
theorem S_tl (x : Str) : S x.cps.toList = x := TL.mk_tl x
theorem S_inj {a b : List Nat} (h : S a = S b) : a = b := congrArg (fun x : Str => x.cps.toList) h
theorem S_len (a : List Nat) : (S a).length = a.length := by simp [S, Str.length]
theorem S_cat (a b : List Nat) : S a ++ S b = S (a ++ b) := TL.ext_tl (TL.tl_append (S a) (S b))

/-! ### heaps -/
theorem same_upd {H : Hp} {p : Addr} {o : HO} (h : H p = none) : Same H (upd H p o) := fun b x e => by
  rw [upd_ne (ne_of_none e h)]
  exact e
theorem _root_.L2.Same.seqT {K : PySem.W.Frag} {H H' : Hp} {a : Addr} {xs : List V} (e : Same H H') (h : SqT K H a xs) : SqT K H' a xs := by
  rcases h with (h | ⟨o, h⟩) | h
  · exact .inl (.inl (e _ _ h))
  · exact .inl (.inr ⟨o, e _ _ h⟩)
  · exact .inr h
/-- all but what stands at b is as it was -/
def SameBut (b : Addr) (H H' : Hp) : Prop := ∀ a o, a ≠ b → H a = some o → H' a = some o
theorem _root_.L2.Same.but {H H' : Hp} (b : Addr) (e : Same H H') : SameBut b H H' := fun a o _ h => e a o h
theorem SameBut.trans {b : Addr} {H H1 H2 : Hp} (e : SameBut b H H1) (f : SameBut b H1 H2) : SameBut b H H2 := fun a o n h => f a o n (e a o n h)
theorem SameBut.upd {b : Addr} {H : Hp} {o : HO} : SameBut b H (upd H b o) := fun a u n h => by
  rw [upd_ne n]
  exact h
theorem sz {n : Nat} (h : n ≤ 100000) : n ≤ sizeLine := Nat.le_trans h (by decide)
theorem szlt {n : Nat} (h : n < 100000) : n < sizeLine := Nat.lt_of_lt_of_le h (by decide)

/-! ### rules with the written part named (within a comprehension the context's own name for it hides) -/
section
variable {X : Cx} {K : PySem.W.Frag}
theorem ix_listK (h : X.K = K := by rfl) : IxR X (rIxL K) := by subst h; exact ix_list
theorem ix_tupK (h : X.K = K := by rfl) : IxR X (rIxT K) := by subst h; exact ix_tup
theorem ix_seqK (h : X.K = K := by rfl) : IxR X (rIx K) := by subst h; exact ix_seq
theorem sl_listK (h : X.K = K := by rfl) : SlR X (rSlL K) := by subst h; exact sl_list
theorem sl_tupK (h : X.K = K := by rfl) : SlR X (rSlT K) := by subst h; exact sl_tup
theorem op_in_seqK (h : X.K = K := by rfl) : OpR X (compareOp .In) (rIn K false) := by subst h; exact op_in_seq
theorem op_notIn_seqK (h : X.K = K := by rfl) : OpR X (compareOp .NotIn) (rIn K true) := by subst h; exact op_notIn_seq
theorem op_eqDK (hu : X.A.units + 64 < cLine) (h : X.K = K := by rfl) : OpR X (compareOp .Eq) (rEqD K) := by subst h; exact op_eqD hu
theorem op_neDK (hu : X.A.units + 64 < cLine) (h : X.K = K := by rfl) : OpR X (compareOp .NotEq) (rNeD K) := by subst h; exact op_neD hu
def rLenK (K : PySem.W.Frag) : List V → Hp → VK → Prop := fun xs H Q => ∃ x n, xs = [x] ∧ LenV K x H n ∧ Q (.int n) H
def rLenQ (K : PySem.W.Frag) : List V → Hp → VK → Prop := fun xs H Q => ∃ p ys, xs = [.ref p] ∧ (SqL K H p ys ∨ SqT K H p ys) ∧ Q (.int ys.length) H
def rListQ (K : PySem.W.Frag) : List V → Hp → VK → Prop := fun xs H Q => ∃ p ys, xs = [.ref p] ∧ (SqL K H p ys ∨ SqT K H p ys) ∧ ∀ l, H l = none → Q (.ref l) (upd H l (.lst ys))
def rTupQ (K : PySem.W.Frag) : List V → Hp → VK → Prop := fun xs H Q => ∃ p ys, xs = [.ref p] ∧ ((SqL K H p ys ∧ ∀ l, H l = none → Q (.ref l) (upd H l (.tup ys))) ∨ (SqT K H p ys ∧ Q (.ref p) H))
theorem call_lenK (h : X.K = K := by rfl) : CallR X (.builtin "len") (rLenK K) := by subst h; exact call_len
theorem call_len_seqK (h : X.K = K := by rfl) : CallR X (.builtin "len") (rLenQ K) := by subst h; exact call_len_seq
theorem call_list_ofK (h : X.K = K := by rfl) : CallR X (.type "list") (rListQ K) := by subst h; exact call_list_of
theorem call_tuple_ofK (h : X.K = K := by rfl) : CallR X (.type "tuple") (rTupQ K) := by subst h; exact call_tuple_of
theorem cr_allK (hc : X.calm = true) (h : X.K = K := by rfl) : CallR X (.builtin "all") (rAll K) := by subst h; exact cr_all hc
theorem cr_anyK (hc : X.calm = true) (h : X.K = K := by rfl) : CallR X (.builtin "any") (rAny K) := by subst h; exact cr_any hc
theorem cr_sumK (hc : X.calm = true) (h : X.K = K := by rfl) : CallR X (.builtin "sum") (rSum K) := by subst h; exact cr_sum hc
theorem cr_minK (hc : X.calm = true) (h : X.K = K := by rfl) : CallR X (.builtin "min") (rMin K) := by subst h; exact cr_min hc
theorem cr_maxK (hc : X.calm = true) (h : X.K = K := by rfl) : CallR X (.builtin "max") (rMax K) := by subst h; exact cr_max hc
theorem call_isiK1 (h : X.K = K := by rfl) : CallR X (.builtin "isinstance") (rIsi K) := by subst h; exact call_isi
theorem call_isiTK (h : X.K = K := by rfl) : CallR X (.builtin "isinstance") (rIsiT K) := by subst h; exact call_isiT
theorem pi_listK {l tg : Expr} {tl : TE} (hl : PE X l tl) (h : X.K = K := by rfl) : PI X tg l (iList K tl) := by subst h; exact pi_list hl
theorem pi_tupK {l tg : Expr} {tl : TE} (hl : PE X l tl) (h : X.K = K := by rfl) : PI X tg l (iTup K tl) := by subst h; exact pi_tup hl
def rJoinK (K : PySem.W.Frag) : V → List V → Hp → VK → Prop := fun x xs H Q => ∃ a p, ∃ ys : List Str, x = .str a ∧ xs = [.ref p] ∧ (SqL K H p (ys.map V.str) ∨ SqT K H p (ys.map V.str)) ∧ (ys.map (·.length)).sum + ys.length * a.length ≤ 16777216 ∧ Q (.str (Txt.join a ys)) H
theorem mt_joinK (h : X.K = K := by rfl) : MtR X "str.join" (rJoinK K) := by subst h; exact mt_join
end
end Wr

namespace Wr
open PySem PySem.Spec PyProof.Rows L2
/-! ### data at values -/
mutual
theorem dp_same {K : PySem.W.Frag} {H H' : Hp} (e : Same H H') : ∀ (d : PyData) (v : V), Dp K H v d → Dp K H' v d
  | .none, _, h => by cases h; exact .non
  | .bool b, _, h => by cases h; exact .bl b
  | .int b, _, h => by cases h; exact .int b
  | .str b, _, h => by cases h; exact .str b
  | .list ds, _, h => by
    cases h with
    | lst hs ha => exact .lst (e.seq hs) (dp_sameA e ds _ ha)
  | .tuple ds, _, h => by
    cases h with
    | tup hs ha => exact .tup (e.seqT hs) (dp_sameA e ds _ ha)
  | .dict _, _, h => by cases h
theorem dp_sameA {K : PySem.W.Frag} {H H' : Hp} (e : Same H H') : ∀ (ds : List PyData) (vs : List V), DpAll K H vs ds → DpAll K H' vs ds
  | [], _, h => by cases h; exact .nil
  | d :: ds, _, h => by
    cases h with
    | cons h1 h2 => exact .cons (dp_same e d _ h1) (dp_sameA e ds _ h2)
end
theorem dpA_len {K : PySem.W.Frag} {H : Hp} : ∀ {vs : List V} {ds : List PyData}, DpAll K H vs ds → vs.length = ds.length
  | _, _, .nil => rfl
  | _, _, .cons _ h => congrArg Nat.succ (dpA_len h)
theorem dpA_get {K : PySem.W.Frag} {H : Hp} : ∀ {vs : List V} {ds : List PyData} {i : Nat} {d : PyData}, DpAll K H vs ds → ds[i]? = some d → ∃ v, vs[i]? = some v ∧ Dp K H v d
  | _, _, _, _, .nil, e => by simp at e
  | _, _, 0, _, .cons h _, e => by simp at e; subst e; exact ⟨_, rfl, h⟩
  | _, _, i + 1, _, .cons _ h, e => by
    obtain ⟨v, h1, h2⟩ := dpA_get (i := i) h (by simpa using e)
    exact ⟨v, by simpa using h1, h2⟩
theorem dpA_map {α : Type} {K : PySem.W.Frag} {H : Hp} {f : α → V} {g : α → PyData} (h : ∀ a, Dp K H (f a) (g a)) : ∀ l : List α, DpAll K H (l.map f) (l.map g)
  | [] => .nil
  | a :: l => .cons (h a) (dpA_map h l)
/-- data of fewer than n levels, no list too long -/
def fits : Nat → PyData → Prop
  | 0, _ => False
  | n + 1, .list ds => ds.length < 100000 ∧ ∀ d ∈ ds, fits n d
  | n + 1, .tuple ds => ds.length < 100000 ∧ ∀ d ∈ ds, fits n d
  | _ + 1, .dict _ => False
  | _ + 1, _ => True
def isTup : PyData → Bool
  | .tuple _ => true
  | _ => false
def isLst : PyData → Bool
  | .list _ => true
  | _ => false
def isBl : PyData → Bool
  | .bool _ => true
  | _ => false
def tyN : PyData → String
  | .none => "NoneType"
  | .bool _ => "bool"
  | .int _ => "int"
  | .str _ => "str"
  | .list _ => "list"
  | .tuple _ => "tuple"
  | .dict _ => "dict"
theorem ty_of {K : PySem.W.Frag} {H : Hp} {x : V} {d : PyData} (h : Dp K H x d) : TyX K H x (.type (tyN d)) := by
  cases h with
  | non => exact .base .non
  | bl b => exact .base (.bl b)
  | int b => exact .base (.int b)
  | str b => exact .base (.str b)
  | lst hs _ =>
    rcases hs with (h | ⟨o, h⟩) | ⟨o, its, n, h1, h2, _⟩
    · exact .base (.lst h)
    · exact .base (.frz h)
    · exact .kList h1 h2
  | tup hs _ =>
    rcases hs with (h | ⟨o, h⟩) | ⟨o, its, n, h1, h2, _⟩
    · exact .base (.tup h)
    · exact .fTuple h
    · exact .kTuple h1 h2
theorem kit_tup (K : PySem.W.Frag) (d : PyData) : PySem.W.kitOne K (.type (tyN d)) (.type "tuple") = some (isTup d) := kit_ty (by cases d <;> first | decide +kernel | rfl)
theorem kit_lst (K : PySem.W.Frag) (d : PyData) : PySem.W.kitOne K (.type (tyN d)) (.type "list") = some (isLst d) := kit_ty (by cases d <;> first | decide +kernel | rfl)
theorem kit_bl (K : PySem.W.Frag) (d : PyData) : PySem.W.kitOne K (.type (tyN d)) (.type "bool") = some (isBl d) := kit_ty (by cases d <;> first | decide +kernel | rfl)
theorem kit_seq (K : PySem.W.Frag) (d : PyData) : PySem.W.kitAny K (.type (tyN d)) [.type "tuple", .type "list"] = some (isTup d || isLst d) := by
  refine kitAny_cons (kit_tup K d) (fun e => ?_) (fun e => by rw [e]; rfl)
  refine kitAny_cons (kit_lst K d) (fun e2 => ?_) (fun e2 => by rw [e2, Bool.or_true])
  rw [e, e2]
  rfl
theorem scal_same {K : PySem.W.Frag} {H : Hp} {x y : V} {d : PyData} (hx : Dp K H x d) (hy : Dp K H y d) (h1 : isTup d = false) (h2 : isLst d = false) : scal x y = true ∧ x = y := by
  cases hx with
  | lst => cases h2
  | tup => cases h1
  | non => cases hy; exact ⟨rfl, rfl⟩
  | bl b => cases hy; exact ⟨rfl, rfl⟩
  | int b => cases hy; exact ⟨rfl, rfl⟩
  | str b => cases hy; exact ⟨rfl, rfl⟩
/-- a list or a tuple to be read -/
def Sq (K : PySem.W.Frag) (H : Hp) (a : Addr) (xs : List V) : Prop := SqL K H a xs ∨ SqT K H a xs
theorem Sq.same {K : PySem.W.Frag} {H H' : Hp} {a : Addr} {xs : List V} (e : Same H H') : Sq K H a xs → Sq K H' a xs
  | .inl h => .inl (e.seq h)
  | .inr h => .inr (e.seqT h)
theorem Sq.ix {K : PySem.W.Frag} {H : Hp} {a : Addr} {xs : List V} {i : Int} {v : V} {Q : VK} (h : Sq K H a xs) (hi : atI xs i = some v) (q : Q v H) : rIx K (.ref a) (.int i) H Q := by
  rcases h with h | h
  · exact .inl ⟨a, xs, i, v, rfl, rfl, h, hi, q⟩
  · exact .inr (.inl ⟨a, xs, i, v, rfl, rfl, h, hi, q⟩)
theorem seq_of {K : PySem.W.Frag} {H : Hp} {x : V} {d : PyData} {n : Nat} (hd : Dp K H x d) (hf : fits (n + 1) d) (h : (isTup d || isLst d) = true) :
    ∃ a xs ds, x = .ref a ∧ Sq K H a xs ∧ DpAll K H xs ds ∧ ds.length < 100000 ∧ (∀ d ∈ ds, fits n d) ∧ (d = .list ds ∨ d = .tuple ds) := by
  cases hd with
  | lst hs ha => exact ⟨_, _, _, rfl, .inl hs, ha, hf.1, hf.2, .inl rfl⟩
  | tup hs ha => exact ⟨_, _, _, rfl, .inr hs, ha, hf.1, hf.2, .inr rfl⟩
  | non => cases h
  | bl b => cases h
  | int b => cases h
  | str b => cases h
end Wr

namespace Wr
open PySem PySem.Spec PyProof.Rows L2
/-! ### texts put together -/
theorem joinL_signs : ∀ cs : List Nat, TL.joinL [] (cs.map fun c => [c]) = cs
  | [] => rfl
  | [c] => rfl
  | c :: d :: r => by
    have ih := joinL_signs (d :: r)
    show [c] ++ ([] ++ TL.joinL [] ((d :: r).map fun c => [c])) = c :: d :: r
    rw [ih]
    rfl
theorem empty_S : ("" : Str) = S [] := by decide +kernel
theorem join_signs (cs : List Nat) : Txt.join ("" : Str) (cs.map fun c => S [c]) = S cs := by
  have h := SX.join_S [] (cs.map fun c => [c])
  rw [joinL_signs, List.map_map] at h
  rw [empty_S]
  exact h
theorem signs_map (cs : List Nat) : (cs.map fun c => V.str (S [c])) = (cs.map fun c => S [c]).map V.str := by
  rw [List.map_map]
  rfl
theorem signs_sum (cs : List Nat) : ((cs.map fun c => S [c]).map (·.length)).sum = cs.length := by
  induction cs with
  | nil => rfl
  | cons c r ih =>
    rw [List.map_cons, List.map_cons, List.sum_cons, ih, S_len, List.length_cons]
    simp
    omega
/-- the join of a list of single signs, whatever stands between is empty -/
theorem join_ok {K : PySem.W.Frag} {H : Hp} {p : Addr} {cs : List Nat} {Q : VK} (h : H p = some (.lst (cs.map fun c => V.str (S [c])))) (hl : cs.length ≤ 100000) (q : Q (.str (S cs)) H) : rJoinK K (.str ("" : Str)) [.ref p] H Q := by
  refine ⟨"", p, cs.map fun c => S [c], rfl, rfl, .inl (SqL.of (by rw [h, signs_map])), ?_, by rw [join_signs]; exact q⟩
  rw [signs_sum, show ("" : Str).length = 0 by decide +kernel]
  omega
theorem join_okS {K : PySem.W.Frag} {H : Hp} {p : Addr} {cs : List Nat} {Q : VK} (h : H p = some (.lst (cs.map fun c => V.str (S [c])))) (hl : cs.length ≤ 100000) (q : Q (.str (S cs)) H) : rJoinK K (.str (S [])) [.ref p] H Q := by
  rw [← empty_S]
  exact join_ok h hl q
end Wr

namespace Wr
open PySem PySem.Spec PyProof.Rows L2
/-! ### words written: the mathematics -/
/-- signs that are turned, but the line feed -/
def specials : List Nat := [32, 92, 123, 125, 34, 36, 91, 93, 59, 35]
def turn1 (c : Nat) : List Nat := if c = 10 then [92, 110] else if c ∈ specials then [92, c] else [c]
def turnedL (l : List Nat) : List Nat := l.flatMap turn1
theorem turn1_len (c : Nat) : 1 ≤ (turn1 c).length ∧ (turn1 c).length ≤ 2 := by
  unfold turn1
  split
  · decide
  · split <;> simp
theorem turnedL_snoc (l : List Nat) (c : Nat) : turnedL (l ++ [c]) = turnedL l ++ turn1 c := by
  unfold turnedL
  rw [List.flatMap_append]
  simp
theorem turnedL_len (l : List Nat) : (turnedL l).length ≤ 2 * l.length := by
  induction l with
  | nil => decide
  | cons c r ih =>
    show (turn1 c ++ turnedL r).length ≤ 2 * (r.length + 1)
    rw [List.length_append]
    have := (turn1_len c).2
    omega
theorem turnedL_take {l : List Nat} {i c : Nat} (h : l[i]? = some c) : turnedL (l.take (i + 1)) = turnedL (l.take i) ++ turn1 c := by
  rw [List.take_add_one, h]
  exact turnedL_snoc _ _
theorem turnedL_take_len (l : List Nat) (i : Nat) : (turnedL (l.take i)).length ≤ 2 * l.length := by
  have h1 := turnedL_len (l.take i)
  have h2 : (l.take i).length ≤ l.length := by
    rw [List.length_take]
    exact Nat.min_le_right _ _
  omega
/-- how much a sign opens -/
def dep1 (c : Nat) : Int := (if c = 123 then 1 else 0) - (if c = 125 then 1 else 0)
def depth (l : List Nat) : Int := (l.map dep1).sum
def pairsFrom : Int → List Nat → Bool
  | lv, [] => decide (lv = 0)
  | lv, c :: r => if lv + dep1 c < 0 then false else pairsFrom (lv + dep1 c) r
def pairs (l : List Nat) : Bool := pairsFrom 0 l
theorem depth_nil : depth [] = 0 := rfl
theorem depth_cons (c : Nat) (r : List Nat) : depth (c :: r) = dep1 c + depth r := by
  unfold depth
  rw [List.map_cons, List.sum_cons]
theorem depth_append (a b : List Nat) : depth (a ++ b) = depth a + depth b := by
  unfold depth
  rw [List.map_append, List.sum_append]
theorem depth_take {l : List Nat} {i c : Nat} (h : l[i]? = some c) : depth (l.take (i + 1)) = depth (l.take i) + dep1 c := by
  rw [List.take_add_one, h, depth_append]
  show depth (l.take i) + depth [c] = _
  rw [depth_cons, depth_nil]
  omega
theorem depth_cnt (l : List Nat) : cnt 123 l - cnt 125 l = depth l := by
  induction l with
  | nil => rfl
  | cons c r ih =>
    rw [cnt_cons, cnt_cons, depth_cons, ← ih]
    unfold dep1
    omega
/-- all beginnings are open or closed, the whole is closed -/
theorem pairsFrom_iff : ∀ (l : List Nat) (lv : Int), 0 ≤ lv → (pairsFrom lv l = true ↔ (∀ i, i ≤ l.length → 0 ≤ lv + depth (l.take i)) ∧ lv + depth l = 0)
  | [], lv, h => by
    unfold pairsFrom
    rw [decide_eq_true_eq, depth_nil]
    constructor
    · rintro rfl
      refine ⟨fun i _ => ?_, by decide⟩
      rw [List.take_nil, depth_nil]
      decide
    · rintro ⟨_, h2⟩
      omega
  | c :: r, lv, h => by
    unfold pairsFrom
    by_cases hn : lv + dep1 c < 0
    · rw [if_pos hn]
      constructor
      · intro z
        cases z
      · rintro ⟨h1, _⟩
        have := h1 1 (by rw [List.length_cons]; omega)
        rw [show (c :: r).take 1 = [c] from rfl, depth_cons, depth_nil] at this
        omega
    · rw [if_neg hn, pairsFrom_iff r (lv + dep1 c) (by omega), depth_cons]
      constructor
      · rintro ⟨h1, h2⟩
        refine ⟨fun i hi => ?_, by omega⟩
        cases i with
        | zero =>
          rw [List.take_zero, depth_nil]
          omega
        | succ j =>
          have := h1 j (by rw [List.length_cons] at hi; omega)
          rw [List.take_succ_cons, depth_cons]
          omega
      · rintro ⟨h1, h2⟩
        refine ⟨fun i hi => ?_, by omega⟩
        have := h1 (i + 1) (by rw [List.length_cons]; omega)
        rw [List.take_succ_cons, depth_cons] at this
        omega
/-- a word as it is written -/
def wordL (l : List Nat) : List Nat := if l = [] then [123, 125] else if pairs l = true ∧ l.length + 2 ≤ (turnedL l).length then 123 :: (l ++ [125]) else turnedL l
theorem wordL_len (l : List Nat) : (wordL l).length ≤ 2 * l.length + 2 := by
  unfold wordL
  have := turnedL_len l
  split
  · simp
  · split
    · rw [List.length_cons, List.length_append]
      simp
      omega
    · omega
theorem sg_eq (c d : Nat) : decide (V.str (S [c]) = V.str (S [d])) = decide (c = d) := by
  by_cases h : c = d
  · subst h
    simp
  · rw [decide_eq_false h, decide_eq_false]
    intro z
    have := S_inj (V.str.inj z)
    exact h (List.cons.inj this).1
theorem str_eq (a b : List Nat) : decide (V.str (S a) = V.str (S b)) = decide (a = b) := by
  by_cases h : a = b
  · subst h
    simp
  · rw [decide_eq_false h, decide_eq_false]
    intro z
    exact h (S_inj (V.str.inj z))
/-! slices -/
theorem cut_to (l : List Nat) (j : Nat) : cutS (S l) none (some (j : Int)) = S (l.take j) := by
  show S _ = _
  rw [HT.sIx_none, HT.sIx_nat, S_len]
  show S ((l.drop 0).take (min j l.length - 0)) = _
  rw [List.drop_zero, Nat.sub_zero]
  by_cases h : j ≤ l.length
  · rw [Nat.min_eq_left h]
  · rw [Nat.min_eq_right (by omega), List.take_of_length_le (Nat.le_refl _), List.take_of_length_le (by omega)]
theorem cut_from (l : List Nat) (i : Nat) : cutS (S l) (some (i : Int)) none = S (l.drop i) := by
  show S _ = _
  rw [HT.sIx_none, HT.sIx_nat, S_len]
  show S ((l.drop (min i l.length)).take (l.length - min i l.length)) = _
  by_cases h : i ≤ l.length
  · rw [Nat.min_eq_left h, List.take_of_length_le (by rw [List.length_drop]; exact Nat.le_refl _)]
  · rw [Nat.min_eq_right (by omega), Nat.sub_self, List.take_zero, List.drop_eq_nil_of_le (by omega)]
theorem cut_mid (l : List Nat) (i j : Nat) : cutS (S l) (some (i : Int)) (some (j : Int)) = S ((l.drop i).take (j - i)) := by
  show S _ = _
  rw [HT.sIx_nat, HT.sIx_nat, S_len]
  show S ((l.drop (min i l.length)).take (min j l.length - min i l.length)) = _
  by_cases h : i ≤ l.length
  · rw [Nat.min_eq_left h]
    by_cases hj : j ≤ l.length
    · rw [Nat.min_eq_left hj]
    · rw [Nat.min_eq_right (by omega), List.take_of_length_le (by rw [List.length_drop]; exact Nat.le_refl _), List.take_of_length_le (by rw [List.length_drop]; omega)]
  · rw [Nat.min_eq_right (show l.length ≤ i by omega), List.drop_eq_nil_of_le (Nat.le_refl _), List.drop_eq_nil_of_le (show l.length ≤ i by omega), List.take_nil, List.take_nil]
end Wr
namespace Wr
open PySem PySem.Spec PyProof.Rows L2
/-! ### the text by places -/
def top (i : Nat) : Stmt := PySem.Challenge.pw_wordrooms_k02_words_written.main.body.getD i (.Pass ⟨0, 0, 0, 0⟩)
abbrev s_turned : Stmt := top 4
abbrev s_pairs_up : Stmt := top 5
abbrev s_word_text : Stmt := top 7
abbrev s_law_bag : Stmt := top 9
abbrev s_law_pull : Stmt := top 10
abbrev s_law_like : Stmt := top 11
abbrev s_law_of : Stmt := top 12
abbrev s_law_text : Stmt := top 13
abbrev s_law_turned : Stmt := top 14
abbrev s_law_pairs : Stmt := top 15
abbrev s_law_word_text : Stmt := top 16
abbrev s_law : Stmt := top 17
theorem sc_turned : FnScope ["text", "found", "sign"] ["text"] (defScope s_turned) := ⟨rfl, rfl, rfl, by decide +kernel, rfl, by decide +kernel, by decide +kernel⟩
theorem sc_pairs_up : FnScope ["text", "level", "sign"] ["text"] (defScope s_pairs_up) := ⟨rfl, rfl, rfl, by decide +kernel, rfl, by decide +kernel, by decide +kernel⟩
theorem sc_word_text : FnScope ["word", "plain"] ["word"] (defScope s_word_text) := ⟨rfl, rfl, rfl, by decide +kernel, rfl, by decide +kernel, by decide +kernel⟩
theorem sc_law_bag : FnScope ["_law_script", "_law_salt", "_law_cell"] ["_law_script"] (defScope s_law_bag) := ⟨rfl, rfl, rfl, by decide +kernel, rfl, by decide +kernel, by decide +kernel⟩
theorem sc_law_pull : FnScope ["_law_bag_here", "_law_amount", "_law_seed", "_law_cell", "_law_got"] ["_law_bag_here", "_law_amount"] (defScope s_law_pull) := ⟨rfl, rfl, rfl, by decide +kernel, rfl, by decide +kernel, by decide +kernel⟩
theorem sc_law_like : FnScope ["_law_found", "_law_due", "_law_k"] ["_law_found", "_law_due"] (defScope s_law_like) := ⟨rfl, rfl, rfl, by decide +kernel, rfl, by decide +kernel, by decide +kernel⟩
theorem sc_law_of : FnScope ["_law_bag_here", "_law_things"] ["_law_bag_here", "_law_things"] (defScope s_law_of) := ⟨rfl, rfl, rfl, by decide +kernel, rfl, by decide +kernel, by decide +kernel⟩
theorem sc_law_text : FnScope ["_law_bag_here", "_law_top", "_law_signs", "_law_k"] ["_law_bag_here", "_law_top"] (defScope s_law_text) := ⟨rfl, rfl, rfl, by decide +kernel, rfl, by decide +kernel, by decide +kernel⟩
theorem sc_law_turned : FnScope ["_law_text_here", "_law_found", "_law_sign"] ["_law_text_here"] (defScope s_law_turned) := ⟨rfl, rfl, rfl, by decide +kernel, rfl, by decide +kernel, by decide +kernel⟩
theorem sc_law_pairs : FnScope ["_law_text_here", "_law_depths", "_law_at"] ["_law_text_here"] (defScope s_law_pairs) := ⟨rfl, rfl, rfl, by decide +kernel, rfl, by decide +kernel, by decide +kernel⟩
theorem sc_law_word_text : FnScope ["_law_word"] ["_law_word"] (defScope s_law_word_text) := ⟨rfl, rfl, rfl, by decide +kernel, rfl, by decide +kernel, by decide +kernel⟩
theorem sc_law : FnScope ["_law_script", "_law_bag_here", "_law_turn", "_law_told", "_law_word"] ["_law_script"] (defScope s_law) := ⟨rfl, rfl, rfl, by decide +kernel, rfl, by decide +kernel, by decide +kernel⟩
/-- what the top has written -/
structure Top (K : PySem.W.Frag) (mg : Str → Option Value) : Prop where
  f_turned : ∃ f fd, FunD K "turned" "turned" (defArgs s_turned) (defBody s_turned) (defScope s_turned) [] [] f fd ∧ mg "turned" = some (.ref f)
  f_pairs_up : ∃ f fd, FunD K "pairs_up" "pairs_up" (defArgs s_pairs_up) (defBody s_pairs_up) (defScope s_pairs_up) [] [] f fd ∧ mg "pairs_up" = some (.ref f)
  f_word_text : ∃ f fd, FunD K "word_text" "word_text" (defArgs s_word_text) (defBody s_word_text) (defScope s_word_text) [] [] f fd ∧ mg "word_text" = some (.ref f)
  f_law_bag : ∃ f fd, FunD K "_law_bag" "_law_bag" (defArgs s_law_bag) (defBody s_law_bag) (defScope s_law_bag) [] [] f fd ∧ mg "_law_bag" = some (.ref f)
  f_law_pull : ∃ f fd, FunD K "_law_pull" "_law_pull" (defArgs s_law_pull) (defBody s_law_pull) (defScope s_law_pull) [] [] f fd ∧ mg "_law_pull" = some (.ref f)
  f_law_like : ∃ f fd, FunD K "_law_like" "_law_like" (defArgs s_law_like) (defBody s_law_like) (defScope s_law_like) [] [] f fd ∧ mg "_law_like" = some (.ref f)
  f_law_of : ∃ f fd, FunD K "_law_of" "_law_of" (defArgs s_law_of) (defBody s_law_of) (defScope s_law_of) [] [] f fd ∧ mg "_law_of" = some (.ref f)
  f_law_text : ∃ f fd, FunD K "_law_text" "_law_text" (defArgs s_law_text) (defBody s_law_text) (defScope s_law_text) [] [] f fd ∧ mg "_law_text" = some (.ref f)
  f_law_turned : ∃ f fd, FunD K "_law_turned" "_law_turned" (defArgs s_law_turned) (defBody s_law_turned) (defScope s_law_turned) [] [] f fd ∧ mg "_law_turned" = some (.ref f)
  f_law_pairs : ∃ f fd, FunD K "_law_pairs" "_law_pairs" (defArgs s_law_pairs) (defBody s_law_pairs) (defScope s_law_pairs) [] [] f fd ∧ mg "_law_pairs" = some (.ref f)
  f_law_word_text : ∃ f fd, FunD K "_law_word_text" "_law_word_text" (defArgs s_law_word_text) (defBody s_law_word_text) (defScope s_law_word_text) [] [] f fd ∧ mg "_law_word_text" = some (.ref f)
  f_law : ∃ f fd, FunD K "law" "law" (defArgs s_law) (defBody s_law) (defScope s_law) [] [] f fd ∧ mg "law" = some (.ref f)
  z_all : mg "all" = none
  z_bool : mg "bool" = none
  z_int : mg "int" = none
  z_isinstance : mg "isinstance" = none
  z_len : mg "len" = none
  z_list : mg "list" = none
  z_min : mg "min" = none
  z_range : mg "range" = none
  z_tuple : mg "tuple" = none
  g_FEED : ∃ t, mg "FEED" = some (.str "\n" t)
  g_TURN : ∃ t, mg "TURN" = some (.str "\\" t)
  g_TURNED : ∃ t, mg "TURNED" = some (.str " \n\\{}\"$[];#" t)
end Wr

namespace Wr
open PySem PySem.Spec PyProof.Rows L2
def sp_turned : Sp := fun vs H Q _ => ∃ l : List Nat, vs = [.str (S l)] ∧ l.length ≤ 40000 ∧ Q (.str (S (turnedL l))) H
section
variable {P : Program} {w : World} {K : PySem.W.Frag} {mg : Str → Option Value} {base : Heap}
theorem ok_turned (T : Top K mg) : Own P w K mg base CX0 1 "turned" ["text"] (sp_turned) := by
  obtain ⟨f, fd, F, hm⟩ := T.f_turned
  refine ⟨f, fd, ?_, hm, F.kp, F.bindsN fun _ _ _ _ _ _ us hl => match us, hl with | [_], _ => rfl⟩
  refine F.ok sc_turned (fun vs H Q E h => ?_) (fun cdv A outer s H vs Q E hr h => ?_)
  · obtain ⟨l, rfl, _⟩ := h
    rfl
  · obtain ⟨l, rfl, hl, q⟩ := h
    refine ⟨_, PSs.nox (pss_cons (ps_set (i := 1) sc_turned.nd rfl (Or.inl rfl) (pe_sc (l := []) (by decide +kernel)))
        (pss_cons (ps_for PassesOwn.never rfl (pi_str (pv 0)) (pg_name (i := 2) sc_turned.nd rfl (Or.inl rfl)) (pss_one (ps_if (pt_cmpR op_eq (pv 2) (pe_gsS (l := [10]) (by rfl) T.g_FEED (by decide +kernel)) (nomark _)) (pss_one (ps_aug (i := 1) sc_turned.nd rfl (Or.inl rfl) (pe_op op_add_str (pe_gsS (l := [92]) (by rfl) T.g_TURN (by decide +kernel)) (pe_sc (l := [110]) (by decide +kernel))) ip_addS)) (pss_one (ps_if (pt_cmpR op_in_sign (pv 2) (pe_gsS (l := [32, 10, 92, 123, 125, 34, 36, 91, 93, 59, 35]) (by rfl) T.g_TURNED (by decide +kernel)) (by rfl)) (pss_one (ps_aug (i := 1) sc_turned.nd rfl (Or.inl rfl) (pe_op op_add_str (pe_gsS (l := [92]) (by rfl) T.g_TURN (by decide +kernel)) (pv 2)) ip_addS)) (pss_one (ps_aug (i := 1) sc_turned.nd rfl (Or.inl rfl) (pv 2) ip_addS)))))))
        (pss_one (ps_ret (pv 1))))), ?_⟩
    refine ⟨_, rfl, S l, rfl, for_it walk_str (fun i σ H' => ∃ y, σ = [some (.str (S l)), some (.str (S (turnedL (l.take i)))), y] ∧ H' = H) ⟨none, rfl, rfl⟩ (fun _ _ _ _ _ => trivial) ?_ ?_⟩
    · rintro i x σ H1 H2 hi ⟨y, rfl, rfl⟩ ⟨rfl, c, hc, rfl⟩
      have hc' : l[i]? = some c := by simpa [S] using hc
      have fin : ∀ z, z = turn1 c → ∃ y, [some (V.str (S l)), some (V.str (S (turnedL (l.take i)) ++ S z)), some (.str (S [c]))] = [some (.str (S l)), some (.str (S (turnedL (l.take (i + 1))))), y] ∧ H2 = H2 := by
        rintro z rfl
        rw [S_cat, turnedL_take hc']
        exact ⟨_, rfl, rfl⟩
      have bl := turnedL_take_len l i
      refine ⟨_, rfl, rfl, _, rfl, ?_⟩
      rw [sg_eq]
      refine ite2 (fun e => ?_) (fun e => ?_)
      · have e1 : c = 10 := of_decide_eq_true e
        refine ⟨_, rfl, _, _, rfl, rfl, (by rw [S_len, S_len]; exact sz (by decide)), _, _, rfl, rfl, ?_, ?_⟩
        · rw [S_cat, S_len, S_len]
          exact sz (by simp; omega)
        · rw [S_cat [92] [110]]
          exact fin _ (by unfold turn1; rw [if_pos e1]; rfl)
      · have e1 : ¬ c = 10 := fun z => e (decide_eq_true z)
        refine ⟨_, rfl, c, _, rfl, rfl, _, rfl, ?_⟩
        refine ite2 (fun e2 => ?_) (fun e2 => ?_)
        · have m : c ∈ specials := by
            have := of_decide_eq_true e2
            unfold specials
            simp at this ⊢
            omega
          refine ⟨_, rfl, _, rfl, _, _, rfl, rfl, (by rw [S_len, S_len]; exact sz (by simp)), _, _, rfl, rfl, ?_, ?_⟩
          · rw [S_cat, S_len, S_len]
            exact sz (by simp; omega)
          · rw [S_cat [92] [c]]
            exact fin _ (by unfold turn1; rw [if_neg e1, if_pos m]; rfl)
        · have m : ¬ c ∈ specials := by
            intro z
            refine e2 (decide_eq_true ?_)
            unfold specials at z
            simp at z ⊢
            omega
          refine ⟨_, rfl, _, rfl, _, _, rfl, rfl, ?_, ?_⟩
          · rw [S_len, S_len]
            exact sz (by simp; omega)
          · exact fin _ (by unfold turn1; rw [if_neg e1, if_neg m])
    · rintro σ H1 ⟨y, rfl, rfl⟩
      have e : l.take (S l).cps.size = l := by simp [S]
      rw [e]
      exact ⟨_, rfl, q⟩
end
end Wr

namespace Wr
open PySem PySem.Spec PyProof.Rows L2
def sp_pairs_up : Sp := fun vs H Q _ => ∃ l : List Nat, vs = [.str (S l)] ∧ Q (.bl (pairs l)) H
section
variable {P : Program} {w : World} {K : PySem.W.Frag} {mg : Str → Option Value} {base : Heap}
theorem ok_pairs_up (T : Top K mg) : Own P w K mg base CX0 1 "pairs_up" ["text"] (sp_pairs_up) := by
  obtain ⟨f, fd, F, hm⟩ := T.f_pairs_up
  refine ⟨f, fd, ?_, hm, F.kp, F.bindsN fun _ _ _ _ _ _ us hl => match us, hl with | [_], _ => rfl⟩
  refine F.ok sc_pairs_up (fun vs H Q E h => ?_) (fun cdv A outer s H vs Q E hr h => ?_)
  · obtain ⟨l, rfl, _⟩ := h
    rfl
  · obtain ⟨l, rfl, q⟩ := h
    refine ⟨_, PSs.nox (pss_cons (ps_set (i := 1) sc_pairs_up.nd rfl (Or.inl rfl) pe_int)
        (pss_cons (ps_for PassesOwn.never rfl (pi_str (pv 0)) (pg_name (i := 2) sc_pairs_up.nd rfl (Or.inl rfl)) (pss_cons (ps_aug (i := 1) sc_pairs_up.nd rfl (Or.inl rfl) (pe_op op_sub (pe_callTy call_int1 (by rfl) T.z_int (by decide +kernel) (pa_cons (pe_cmpR op_eq (pv 2) (pe_sc (l := [123]) (by decide +kernel)) (nomark _)) pa_nil)) (pe_callTy call_int1 (by rfl) T.z_int (by decide +kernel) (pa_cons (pe_cmpR op_eq (pv 2) (pe_sc (l := [125]) (by decide +kernel)) (nomark _)) pa_nil))) ip_add)
        (pss_one (ps_if (pt_cmpR op_lt (pv 1) pe_int (nomark _)) (pss_one (ps_ret pe_bl)) pss_nil))))
        (pss_one (ps_ret (pe_cmpR op_eq (pv 1) pe_int (nomark _)))))), ?_⟩
    refine ⟨_, rfl, S l, rfl, for_it walk_str (fun i σ H' => ∃ y, σ = [some (.str (S l)), some (.int (depth (l.take i))), y] ∧ H' = H ∧ pairs l = pairsFrom (depth (l.take i)) (l.drop i)) ⟨none, rfl, rfl, rfl⟩ (fun _ _ _ _ _ => trivial) ?_ ?_⟩
    · rintro i x σ H1 H2 hi ⟨y, rfl, rfl, hp⟩ ⟨rfl, c, hc, rfl⟩
      have hc' : l[i]? = some c := by simpa [S] using hc
      have hlt := (List.getElem?_eq_some_iff.mp hc').1
      have ed : l.drop i = c :: l.drop (i + 1) := by
        rw [List.drop_eq_getElem_cons hlt, (List.getElem?_eq_some_iff.mp hc').2]
      have s1 : (if decide (V.str (S [c]) = V.str (S [123])) = true then (1 : Int) else 0) - (if decide (V.str (S [c]) = V.str (S [125])) = true then 1 else 0) = dep1 c := by
        rw [sg_eq, sg_eq]
        unfold dep1
        by_cases h1 : c = 123 <;> by_cases h2 : c = 125 <;> simp [h1, h2]
      refine ⟨_, rfl, _, rfl, rfl, .inr ⟨_, rfl, _, rfl, rfl, .inr ⟨_, rfl, _, _, rfl, rfl, _, _, rfl, rfl, ?_⟩⟩⟩
      rw [s1]
      refine ⟨_, rfl, _, _, rfl, rfl, _, rfl, ?_⟩
      rw [ed] at hp
      unfold pairsFrom at hp
      refine ite2 (fun e => ?_) (fun e => ?_)
      · have e1 := of_decide_eq_true e
        rw [if_pos e1] at hp
        show Q (.bl false) _
        rw [← hp]
        exact q
      · have e1 : ¬ (depth (l.take i) + dep1 c < 0) := fun z => e (decide_eq_true z)
        rw [if_neg e1] at hp
        refine ⟨some (.str (S [c])), ?_, rfl, ?_⟩
        · rw [depth_take hc']
          rfl
        · rw [hp, depth_take hc']
    · rintro σ H1 ⟨y, rfl, rfl, hp⟩
      have e1 : (S l).cps.size = l.length := by simp [S]
      rw [e1, List.drop_length] at hp
      rw [e1]
      refine ⟨_, rfl, rfl, ?_⟩
      have : decide (V.int (depth (l.take l.length)) = V.int 0) = pairs l := by
        rw [hp]
        unfold pairsFrom
        by_cases h : depth (l.take l.length) = 0
        · rw [h]
          rfl
        · rw [decide_eq_false h, decide_eq_false]
          intro z
          exact h (V.int.inj z)
      rw [this]
      exact q
end
end Wr

namespace Wr
open PySem PySem.Spec PyProof.Rows L2
def sp_word_text : Sp := fun vs H Q _ => ∃ l : List Nat, vs = [.str (S l)] ∧ l.length ≤ 40000 ∧ Q (.str (S (wordL l))) H
section
variable {P : Program} {w : World} {K : PySem.W.Frag} {mg : Str → Option Value} {base : Heap}
theorem ok_word_text (T : Top K mg) : Own P w K mg base CX0 2 "word_text" ["word"] (sp_word_text) := by
  have G_turned := ok_turned (P := P) (w := w) (base := base)  T
  have G_pairs_up := ok_pairs_up (P := P) (w := w) (base := base)  T
  obtain ⟨f, fd, F, hm⟩ := T.f_word_text
  refine ⟨f, fd, ?_, hm, F.kp, F.bindsN fun _ _ _ _ _ _ us hl => match us, hl with | [_], _ => rfl⟩
  refine F.ok sc_word_text (fun vs H Q E h => ?_) (fun cdv A outer s H vs Q E hr h => ?_)
  · obtain ⟨l, rfl, _⟩ := h
    rfl
  · obtain ⟨l, rfl, hl, q⟩ := h
    refine ⟨_, PSs.nox (pss_cons (ps_if (pt_cmpR op_eq (pv 0) (pe_sc (l := []) (by decide +kernel)) (nomark _)) (pss_one (ps_ret (pe_sc (l := [123, 125]) (by decide +kernel)))) pss_nil)
        (pss_cons (ps_set (i := 1) sc_word_text.nd rfl (Or.inl rfl) (pe_own G_turned (hr.mono (by decide)) (by rfl) (pa_cons (pv 0) pa_nil)))
        (pss_cons (ps_if (PW.pt (pw_and (pt_val (pe_own G_pairs_up (hr.mono (by decide)) (by rfl) (pa_cons (pv 0) pa_nil))) (pw_and1 (pt_cmpR op_le (pe_op op_add (pe_callB call_len_str (by rfl) T.z_len (by decide +kernel) (pa_cons (pv 0) pa_nil)) pe_int) (pe_callB call_len_str (by rfl) T.z_len (by decide +kernel) (pa_cons (pv 1) pa_nil)) (nomark _))))) (pss_one (ps_ret (pe_op op_add_str (pe_op op_add_str (pe_sc (l := [123]) (by decide +kernel)) (pv 0)) (pe_sc (l := [125]) (by decide +kernel))))) pss_nil)
        (pss_one (ps_ret (pv 1)))))), ?_⟩
    have tl := turnedL_len l
    refine ⟨_, rfl, rfl, _, rfl, ?_⟩
    rw [str_eq]
    refine ite2 (fun e => ?_) (fun e => ?_)
    · have e1 : l = [] := of_decide_eq_true e
      show Q (.str (S [123, 125])) H
      have : wordL l = [123, 125] := by unfold wordL; rw [if_pos e1]
      rw [← this]
      exact q
    · have e1 : ¬ l = [] := fun z => e (decide_eq_true z)
      refine ⟨_, rfl, l, rfl, hl, _, rfl, l, rfl, _, rfl, ?_⟩
      cases hp : pairs l with
      | false =>
        refine iteF ?_
        have : wordL l = turnedL l := by unfold wordL; rw [if_neg e1, if_neg (by rw [hp]; rintro ⟨z, _⟩; cases z)]
        rw [this] at q
        exact ⟨_, rfl, q⟩
      | true =>
        refine iteT ⟨_, rfl, _, rfl, by rw [S_len]; exact sz (by omega), _, _, rfl, rfl, _, rfl, _, rfl, by rw [S_len]; exact sz (by omega), _, _, rfl, rfl, _, rfl, ?_⟩
        rw [S_len, S_len]
        refine ite2 (fun e2 => ?_) (fun e2 => ?_)
        · have h2 : l.length + 2 ≤ (turnedL l).length := by
            have := of_decide_eq_true e2
            omega
          have : wordL l = 123 :: (l ++ [125]) := by unfold wordL; rw [if_neg e1, if_pos ⟨hp, h2⟩]
          rw [this] at q
          refine ⟨_, rfl, _, _, rfl, rfl, ?_, _, _, rfl, rfl, ?_, ?_⟩
          · rw [S_len, S_len]
            exact sz (by simp; omega)
          · rw [S_cat, S_len, S_len]
            exact sz (by simp; omega)
          · rw [S_cat, S_cat]
            exact q
        · have h2 : ¬ l.length + 2 ≤ (turnedL l).length := fun z => e2 (decide_eq_true (by omega))
          have : wordL l = turnedL l := by unfold wordL; rw [if_neg e1, if_neg (fun z => h2 z.2)]
          rw [this] at q
          exact ⟨_, rfl, q⟩
end
end Wr

namespace Wr
open PySem PySem.Spec PyProof.Rows L2
/-- a bag of drawn numbers at b, its cells at la -/
def Bag (H : Hp) (b la : Addr) : Prop := ∃ (cells : List Int) (i : Nat) (big salt : Int), H b = some (.lst [.ref la, .int (i : Int), .int big, .int salt]) ∧ H la = some (.lst (cells.map V.int)) ∧ 0 ≤ big ∧ 0 ≤ salt ∧ salt < 2147483647
theorem Bag.ne {H : Hp} {b la : Addr} (h : Bag H b la) : la ≠ b := by
  obtain ⟨cells, i, big, salt, h1, h2, _⟩ := h
  exact ne_of h2 h1 (by intro z; cases cells <;> cases z)
def BagTo (b la : Addr) (H H' : Hp) : Prop := SameBut b H H' ∧ Bag H' b la
theorem BagTo.trans {b la : Addr} {H H1 H2 : Hp} (e : BagTo b la H H1) (f : BagTo b la H1 H2) : BagTo b la H H2 := ⟨e.1.trans f.1, f.2⟩
theorem Bag.same {b la : Addr} {H H' : Hp} (h : Bag H b la) (e : Same H H') : Bag H' b la := by
  obtain ⟨cells, i, big, salt, h1, h2, h3⟩ := h
  exact ⟨cells, i, big, salt, e _ _ h1, e _ _ h2, h3⟩
theorem Bag.to {b la : Addr} {H H' : Hp} (h : Bag H b la) (e : Same H H') : BagTo b la H H' := ⟨e.but b, h.same e⟩
theorem Bag.upd {b la p : Addr} {H : Hp} {o : HO} (h : Bag H b la) (n1 : p ≠ b) (n2 : p ≠ la) : Bag (upd H p o) b la := by
  obtain ⟨cells, i, big, salt, h1, h2, h3⟩ := h
  exact ⟨cells, i, big, salt, by rw [upd_ne n1.symm]; exact h1, by rw [upd_ne n2.symm]; exact h2, h3⟩
theorem Bag.fresh {b la p : Addr} {H : Hp} (h : Bag H b la) (n : H p = none) : p ≠ b ∧ p ≠ la := by
  obtain ⟨cells, i, big, salt, h1, h2, h3⟩ := h
  exact ⟨(ne_of_none h1 n).symm, (ne_of_none h2 n).symm⟩
/-- what was there ahead of a bag is there behind its pulls -/
theorem BagTo.after {b la : Addr} {H0 H H' : Hp} (e : BagTo b la H H') (s : Same H0 H) (n : H0 b = none) : Same H0 H' := fun a o h => e.1 a o (ne_of_none h n) (s a o h)
theorem cut63 (xs : List V) (h : xs.length ≤ 63) : cutV xs none (some 63) = xs := by
  unfold cutV
  rw [HT.sIx_none, show HT.sIx xs.length xs.length (some 63) = min 63 xs.length from HT.sIx_nat xs.length xs.length 63]
  rw [Nat.min_eq_right h]
  simp
def sp_law_bag (K : PySem.W.Frag) : Sp := fun vs H Q _ => ∃ (a : Addr) (ns : List Int), vs = [.ref a] ∧ SqL K H a (ns.map V.int) ∧ ns.length ≤ 63 ∧ ∀ H' b la, Same H H' → H b = none → H la = none → Bag H' b la → Q (.ref b) H'
section
variable {P : Program} {w : World} {K : PySem.W.Frag} {mg : Str → Option Value} {base : Heap}
theorem ok_law_bag (T : Top K mg) : Own P w K mg base CX0 1 "_law_bag" ["_law_script"] (sp_law_bag K) := by
  obtain ⟨f, fd, F, hm⟩ := T.f_law_bag
  refine ⟨f, fd, ?_, hm, F.kp, F.bindsN fun _ _ _ _ _ _ us hl => match us, hl with | [_], _ => rfl⟩
  refine F.ok sc_law_bag (fun vs H Q E h => ?_) (fun cdv A outer s H vs Q E hr h => ?_)
  · obtain ⟨a, ns, rfl, _⟩ := h
    rfl
  · obtain ⟨a, ns, rfl, hS, hlen, q⟩ := h
    refine ⟨_, PSs.nox (pss_cons (ps_set (i := 1) sc_law_bag.nd rfl (Or.inl rfl) pe_int)
        (pss_cons (ps_for PassesOwn.never rfl (pi_listK (K := K) (pe_slice (sl_listK (K := K)) (pv 0) po_none (po_some pe_int))) (pg_name (i := 2) sc_law_bag.nd rfl (Or.inl rfl)) (pss_one (ps_set (i := 1) sc_law_bag.nd rfl (Or.inl rfl) (pe_op op_mod (pe_op op_add (pe_op op_add (pe_op op_mul (pv 1) pe_int) (pe_op op_mod (pv 2) pe_int)) pe_int) pe_int))))
        (pss_one (ps_ret (pe_lst (pa_cons (pe_callTy (call_list_ofK (K := K)) (by rfl) T.z_list (by decide +kernel) (pa_cons (pe_slice (sl_listK (K := K)) (pv 0) po_none (po_some pe_int)) pa_nil)) (pa_cons pe_int (pa_cons pe_int (pa_cons (pv 1) pa_nil))))))))), ?_⟩
    have hl63 : (ns.map V.int).length ≤ 63 := by
      rw [List.length_map]
      exact hlen
    refine ⟨.ref a, rfl, 63, rfl, a, _, rfl, hS, fun c nc => ?_⟩
    rw [cut63 _ hl63]
    have s1 : Same H (upd H c (.lst (ns.map V.int))) := same_upd nc
    refine ⟨c, rfl, ⟨_, SqL.of upd_same⟩, for_it (walk_list (K := K) (a := c) (xs := ns.map V.int)) (fun i σ H' => ∃ (salt : Int) (y : Option V), σ = [some (.ref a), some (.int salt), y] ∧ 0 ≤ salt ∧ salt < 2147483647 ∧ Same H H' ∧ H' c = some (.lst (ns.map V.int))) ⟨8968, none, rfl, by decide, by decide, s1, upd_same⟩ (fun i σ H' _ h => ?_) ?_ ?_⟩
    · obtain ⟨_, _, _, _, _, _, hc⟩ := h
      exact SqL.of hc
    · rintro i x σ H1 H2 hi ⟨salt, y, rfl, h0, h1, sm, hc⟩ ⟨rfl, hx⟩
      obtain ⟨v, hv, rfl⟩ := List.exists_of_mem_map (List.mem_of_getElem? hx)
      refine ⟨_, rfl, _, _, rfl, rfl, .inl ⟨by omega, by omega⟩, _, rfl, _, _, rfl, rfl, (by show (0 : Int) < 2147483629; decide), _, _, rfl, rfl, _, _, rfl, rfl, _, _, rfl, rfl, (by show (0 : Int) < 2147483647; decide), ?_⟩
      refine ⟨_, _, rfl, ?_, ?_, sm, hc⟩
      · exact Int.emod_nonneg _ (by decide)
      · exact Int.emod_lt_of_pos _ (by decide)
    · rintro σ H1 ⟨salt, y, rfl, h0, h1, sm, hc⟩
      refine ⟨.ref a, rfl, 63, rfl, a, _, rfl, sm.seq hS, fun d nd => ?_⟩
      rw [cut63 _ hl63]
      refine ⟨d, _, rfl, .inl (SqL.of upd_same), fun e ne => ?_⟩
      refine ⟨_, rfl, (by show 4 ≤ sizeLine; decide), fun b nb => ?_⟩
      have s2 : Same H1 (upd H1 d (.lst (ns.map V.int))) := same_upd nd
      refine q _ b e (sm.trans (s2.trans ((same_upd ne).trans (same_upd nb)))) ?_ ((sm.trans s2).free ne) ⟨ns, 0, 0, salt, upd_same, ?_, by decide, h0, h1⟩
      · exact (sm.trans (s2.trans (same_upd ne))).free nb
      · rw [upd_ne (ne_of_none upd_same nb), upd_same]
end
end Wr

namespace Wr
open PySem PySem.Spec PyProof.Rows L2
def sp_law_pull : Sp := fun vs H Q _ => ∃ (b la : Addr) (n : Int), vs = [.ref b, .int n] ∧ Bag H b la ∧ 0 < n ∧ n < 1000000 ∧ ∀ H' r, BagTo b la H H' → 0 ≤ r → r < n → Q (.int r) H'
section
variable {P : Program} {w : World} {K : PySem.W.Frag} {mg : Str → Option Value} {base : Heap}
theorem ok_law_pull (T : Top K mg) : Own P w K mg base CX0 1 "_law_pull" ["_law_bag_here", "_law_amount"] (sp_law_pull) := by
  obtain ⟨f, fd, F, hm⟩ := T.f_law_pull
  refine ⟨f, fd, ?_, hm, F.kp, F.bindsN fun _ _ _ _ _ _ us hl => match us, hl with | [_, _], _ => rfl⟩
  refine F.ok sc_law_pull (fun vs H Q E h => ?_) (fun cdv A outer s H vs Q E hr h => ?_)
  · obtain ⟨b, la, n, rfl, _⟩ := h
    rfl
  · obtain ⟨b, la, n, rfl, hB, n0, n1, q⟩ := h
    refine ⟨_, PSs.nox (C8.pss_cut (ps_if (PW.pt (pw_and (pt_cmpR op_eq (pe_ix (ix_listK (K := K)) (pv 0) pe_int (fun _ _ => rfl)) pe_int (nomark _)) (pw_and1 (pt_cmpR op_lt (pe_ix (ix_listK (K := K)) (pv 0) pe_int (fun _ _ => rfl)) (pe_callB (call_len_seqK (K := K)) (by rfl) T.z_len (by decide +kernel) (pa_cons (pe_ix (ix_listK (K := K)) (pv 0) pe_int (fun _ _ => rfl)) pa_nil)) (nomark _))))) (pss_cons (ps_set (i := 3) sc_law_pull.nd rfl (Or.inl rfl) (pe_ix (ix_listK (K := K)) (pe_ix (ix_listK (K := K)) (pv 0) pe_int (fun _ _ => rfl)) (pe_ix (ix_listK (K := K)) (pv 0) pe_int (fun _ _ => rfl)) (fun _ _ => rfl)))
        (pss_cons (ps_asg (pe_op op_add (pe_ix (ix_listK (K := K)) (pv 0) pe_int (fun _ _ => rfl)) pe_int) (pg_sub (pv 0) pe_int set_list))
        (pss_one (ps_if (pt_cmpR op_ge (pv 3) (pe_op op_pow pe_int pe_int) (nomark _)) (pss_one (ps_asg (pv 3) (pg_sub (pv 0) pe_int set_list))) (pss_one (ps_asg (pe_op op_mod (pe_op op_add (pe_op op_add (pe_op op_mul (pe_ix (ix_listK (K := K)) (pv 0) pe_int (fun _ _ => rfl)) pe_int) (pe_op op_mul (pe_op op_mod (pv 3) pe_int) pe_int)) pe_int) pe_int) (pg_sub (pv 0) pe_int set_list))))))) pss_nil)
        (pss_cons (ps_if (pt_cmpR op_gt (pe_ix (ix_listK (K := K)) (pv 0) pe_int (fun _ _ => rfl)) pe_int (nomark _)) (pss_cons (ps_set (i := 4) sc_law_pull.nd rfl (Or.inl rfl) (pe_op op_mod (pe_ix (ix_listK (K := K)) (pv 0) pe_int (fun _ _ => rfl)) (pv 1)))
        (pss_cons (ps_asg (pe_op op_fdiv (pe_ix (ix_listK (K := K)) (pv 0) pe_int (fun _ _ => rfl)) (pv 1)) (pg_sub (pv 0) pe_int set_list))
        (pss_one (ps_ret (pv 4))))) pss_nil)
        (pss_cons (ps_set (i := 2) sc_law_pull.nd rfl (Or.inl rfl) (pe_ix (ix_listK (K := K)) (pv 0) pe_int (fun _ _ => rfl)))
        (pss_cons (ps_asg (pe_op op_mod (pe_op op_add (pe_op op_add (pe_op op_mul (pv 2) pe_int) (pe_op op_mul (pe_op op_fdiv (pv 2) pe_int) pe_int)) pe_int) pe_int) (pg_sub (pv 0) pe_int set_list))
        (pss_one (ps_ret (pe_op op_mod (pe_op op_add (pe_op op_fdiv (pe_ix (ix_listK (K := K)) (pv 0) pe_int (fun _ _ => rfl)) pe_int) (pe_op op_mul (pe_op op_mod (pe_ix (ix_listK (K := K)) (pv 0) pe_int (fun _ _ => rfl)) pe_int) pe_int)) (pv 1)))))))), ?_⟩
    obtain ⟨cells, i, big, salt, hb, hla, b0, s0, s1⟩ := hB
    have nlb : la ≠ b := ne_of hla hb (by intro z; cases cells <;> cases z)
    refine ⟨fun σ H1 => ∃ y2 y3 y4, σ = [some (.ref b), some (.int n), y2, y3, y4] ∧ BagTo b la H H1, ?_, ?_⟩
    · -- the first if
      refine ⟨_, rfl, b, _, 2, _, rfl, rfl, SqL.of hb, rfl, rfl, _, rfl, ?_⟩
      refine ite2 (fun e1 => ?_) (fun e1 => ?_)
      · refine ⟨_, rfl, b, _, 1, _, rfl, rfl, SqL.of hb, rfl, _, rfl, b, _, 0, _, rfl, rfl, SqL.of hb, rfl, la, _, rfl, .inl (SqL.of hla), _, _, rfl, rfl, _, rfl, ?_⟩
        refine ite2 (fun e2 => ?_) (fun e2 => ?_)
        · have hi : i < cells.length := by
            have := of_decide_eq_true e2
            rw [List.length_map] at this
            omega
          have gi : atI (cells.map V.int) (i : Int) = some (.int cells[i]) := atI_nat (by rw [List.getElem?_map, List.getElem?_eq_getElem hi]; rfl)
          refine ⟨_, rfl, b, _, 0, _, rfl, rfl, SqL.of hb, rfl, _, rfl, b, _, 1, _, rfl, rfl, SqL.of hb, rfl, la, _, _, _, rfl, rfl, SqL.of hla, gi, ?_⟩
          refine ⟨_, rfl, b, _, 1, _, rfl, rfl, SqL.of hb, rfl, _, _, rfl, rfl, _, rfl, b, _, 1, 1, rfl, rfl, hb, rfl, ?_⟩
          refine ⟨_, rfl, _, _, rfl, rfl, ⟨by decide, by decide, by decide⟩, _, _, rfl, rfl, _, rfl, ?_⟩
          refine ite2 (fun e3 => ?_) (fun e3 => ?_)
          · have c0 : 10 ^ 18 ≤ cells[i] := of_decide_eq_true e3
            refine ⟨_, rfl, _, rfl, b, _, 2, 2, rfl, rfl, upd_same, rfl, ?_⟩
            refine ⟨_, _, _, rfl, SameBut.upd.trans SameBut.upd, cells, i + 1, cells[i], salt, upd_same, ?_, by omega, s0, s1⟩
            rw [upd_ne nlb, upd_ne nlb]
            exact hla
          · refine ⟨_, rfl, b, _, 3, _, rfl, rfl, SqL.of upd_same, rfl, _, _, rfl, rfl, .inl ⟨by omega, by omega⟩, _, rfl, _, _, rfl, rfl, (by show (0 : Int) < 2147483629; decide), _, _, rfl, rfl, .inl ⟨by omega, by omega⟩, _, _, rfl, rfl, _, _, rfl, rfl, _, _, rfl, rfl, (by show (0 : Int) < 2147483647; decide), _, rfl, b, _, 3, 3, rfl, rfl, upd_same, rfl, ?_⟩
            refine ⟨_, _, _, rfl, SameBut.upd.trans SameBut.upd, cells, i + 1, big, _, upd_same, ?_, b0, Int.emod_nonneg _ (by decide), Int.emod_lt_of_pos _ (by decide)⟩
            rw [upd_ne nlb, upd_ne nlb]
            exact hla
        · exact ⟨_, _, _, rfl, fun _ _ _ h => h, cells, i, big, salt, hb, hla, b0, s0, s1⟩
      · exact ⟨_, _, _, rfl, fun _ _ _ h => h, cells, i, big, salt, hb, hla, b0, s0, s1⟩
    · rintro σ H1 ⟨y2, y3, y4, rfl, sm, cells, i, big, salt, hb, hla, b0, s0, s1⟩
      have nlb : la ≠ b := ne_of hla hb (by intro z; cases cells <;> cases z)
      refine ⟨_, rfl, b, _, 2, _, rfl, rfl, SqL.of hb, rfl, _, _, rfl, rfl, _, rfl, ?_⟩
      refine ite2 (fun e1 => ?_) (fun e1 => ?_)
      · refine ⟨_, rfl, b, _, 2, _, rfl, rfl, SqL.of hb, rfl, _, rfl, _, _, rfl, rfl, n0, ?_⟩
        refine ⟨_, rfl, b, _, 2, _, rfl, rfl, SqL.of hb, rfl, _, rfl, _, _, rfl, rfl, ⟨n0, by omega⟩, _, rfl, b, _, 2, 2, rfl, rfl, hb, rfl, ?_⟩
        refine ⟨_, rfl, q _ _ ⟨sm.trans SameBut.upd, cells, i, _, salt, upd_same, ?_, Int.ediv_nonneg b0 (by omega), s0, s1⟩ (Int.emod_nonneg _ (by omega)) (Int.emod_lt_of_pos _ n0)⟩
        rw [upd_ne nlb]
        exact hla
      · refine ⟨_, rfl, b, _, 3, _, rfl, rfl, SqL.of hb, rfl, ?_⟩
        refine ⟨_, rfl, _, _, rfl, rfl, .inl ⟨by omega, by omega⟩, _, rfl, _, _, rfl, rfl, ⟨by decide, by decide⟩, _, _, rfl, rfl, .inl ⟨by omega, by omega⟩, _, _, rfl, rfl, _, _, rfl, rfl, _, _, rfl, rfl, (by show (0 : Int) < 2147483647; decide), _, rfl, b, _, 3, 3, rfl, rfl, hb, rfl, ?_⟩
        refine ⟨_, rfl, b, _, 3, _, rfl, rfl, SqL.of upd_same, rfl, _, _, rfl, rfl, ⟨by decide, by decide⟩, _, rfl, b, _, 3, _, rfl, rfl, SqL.of upd_same, rfl, _, _, rfl, rfl, (by show (0 : Int) < 8191; decide), _, _, rfl, rfl, .inl ⟨by omega, by omega⟩, _, _, rfl, rfl, _, rfl, _, _, rfl, rfl, n0, ?_⟩
        refine q _ _ ⟨sm.trans SameBut.upd, cells, i, big, _, upd_same, ?_, b0, Int.emod_nonneg _ (by decide), Int.emod_lt_of_pos _ (by decide)⟩ (Int.emod_nonneg _ (by omega)) (Int.emod_lt_of_pos _ n0)
        rw [upd_ne nlb]
        exact hla
end
end Wr

namespace Wr
open PySem PySem.Spec PyProof.Rows L2
def sp_law_like (K : PySem.W.Frag) (n : Nat) : Sp := fun vs H Q _ => ∃ (x y : V) (d : PyData), vs = [x, y] ∧ Dp K H x d ∧ Dp K H y d ∧ fits n d ∧ ∀ H', Same H H' → Q (.bl true) H'
section
variable {P : Program} {w : World} {K : PySem.W.Frag} {mg : Str → Option Value} {base : Heap}
theorem ok_law_like : ∀ (n : Nat) (T : Top K mg), Own P w K mg base CX0 (n + 1) "_law_like" ["_law_found", "_law_due"] (sp_law_like K n)
  | 0, T => by
    obtain ⟨f, fd, F, hm⟩ := T.f_law_like
    refine ⟨f, fd, ?_, hm, F.kp, F.bindsN fun _ _ _ _ _ _ us hl => match us, hl with | [_, _], _ => rfl⟩
    refine F.ok sc_law_like (fun vs H Q E h => ?_) (fun cdv A outer s H vs Q E hr h => ?_)
    · obtain ⟨x, y, d, _, _, _, hf, _⟩ := h
      exact hf.elim
    · obtain ⟨x, y, d, _, _, _, hf, _⟩ := h
      exact hf.elim
  | n + 1, T => by
    have G_law_like := ok_law_like n T
    obtain ⟨f, fd, F, hm⟩ := T.f_law_like
    refine ⟨f, fd, ?_, hm, F.kp, F.bindsN fun _ _ _ _ _ _ us hl => match us, hl with | [_, _], _ => rfl⟩
    refine F.ok sc_law_like (fun vs H Q E h => ?_) (fun cdv A outer s H vs Q E hrec h => ?_)
    · obtain ⟨x, y, d, rfl, _⟩ := h
      rfl
    obtain ⟨x, y, d, rfl, hx, hy, hf, q⟩ := h
    refine ⟨_, PSs.nox (pss_cons (ps_if (PW.pt (pw_or (pt_cmpR op_ne (pe_callB (call_isiK1 (K := K)) (by rfl) T.z_isinstance (by decide +kernel) (pa_cons (pv 1) (pa_cons (pe_bltn (v := .ty "tuple") (by rfl) T.z_tuple (by decide +kernel) rfl) pa_nil))) (pe_callB (call_isiK1 (K := K)) (by rfl) T.z_isinstance (by decide +kernel) (pa_cons (pv 0) (pa_cons (pe_bltn (v := .ty "tuple") (by rfl) T.z_tuple (by decide +kernel) rfl) pa_nil))) (nomark _)) (pw_or1 (pt_cmpR op_ne (pe_callB (call_isiK1 (K := K)) (by rfl) T.z_isinstance (by decide +kernel) (pa_cons (pv 1) (pa_cons (pe_bltn (v := .ty "list") (by rfl) T.z_list (by decide +kernel) rfl) pa_nil))) (pe_callB (call_isiK1 (K := K)) (by rfl) T.z_isinstance (by decide +kernel) (pa_cons (pv 0) (pa_cons (pe_bltn (v := .ty "list") (by rfl) T.z_list (by decide +kernel) rfl) pa_nil))) (nomark _))))) (pss_one (ps_ret pe_bl)) pss_nil)
        (pss_cons (ps_if (pt_not (pt_val (pe_callB (call_isiTK (K := K)) (by rfl) T.z_isinstance (by decide +kernel) (pa_cons (pv 1) (pa_cons (pe_tup (pa_cons (pe_bltn (v := .ty "tuple") (by rfl) T.z_tuple (by decide +kernel) rfl) (pa_cons (pe_bltn (v := .ty "list") (by rfl) T.z_list (by decide +kernel) rfl) pa_nil))) pa_nil))))) (pss_one (ps_ret (pe_and (pe_cmpR op_eq (pe_callB (call_isiK1 (K := K)) (by rfl) T.z_isinstance (by decide +kernel) (pa_cons (pv 0) (pa_cons (pe_bltn (v := .ty "bool") (by rfl) T.z_bool (by decide +kernel) rfl) pa_nil))) (pe_callB (call_isiK1 (K := K)) (by rfl) T.z_isinstance (by decide +kernel) (pa_cons (pv 1) (pa_cons (pe_bltn (v := .ty "bool") (by rfl) T.z_bool (by decide +kernel) rfl) pa_nil))) (nomark _)) (pe_one (pe_cmpR op_eq (pv 0) (pv 1) (nomark _)))))) pss_nil)
        (pss_one (ps_ret (pe_and (pe_cmpR op_eq (pe_callB (call_len_seqK (K := K)) (by rfl) T.z_len (by decide +kernel) (pa_cons (pv 0) pa_nil)) (pe_callB (call_len_seqK (K := K)) (by rfl) T.z_len (by decide +kernel) (pa_cons (pv 1) pa_nil)) (nomark _)) (pe_one (pe_callB (cr_allK (K := K) rfl) (by rfl) T.z_all (by decide +kernel) (pa_cons (pe_lc (own := [("_law_k", 2)]) (g := gName 2) (tt := tYes) rfl sc_law_like.nd (pi_range1 (by rfl) T.z_range (pa_cons (pe_callB (call_len_seqK (K := K)) (by rfl) T.z_len (by decide +kernel) (pa_cons (pv 1) pa_nil)) pa_nil)) (blkOk_by (own := [("_law_k", 2)]) (N := ["_law_found", "_law_due", "_law_k"]) (sc := (defScope s_law_like)) (by decide +kernel)) (fun _ _ _ _ _ => pg_name (i := 2) sc_law_like.nd rfl (Or.inl rfl)) (fun _ _ _ _ _ => pts_nil) (fun _ _ _ _ _ => (pe_own G_law_like hrec (by rfl) (pa_cons (pe_ix (ix_seqK (K := K)) (pv 0) (pv 2) (fun _ _ => rfl)) (pa_cons (pe_ix (ix_seqK (K := K)) (pv 1) (pv 2) (fun _ _ => rfl)) pa_nil))))) pa_nil)))))))), ?_⟩
    refine ⟨y, rfl, y, _, _, _, isTup d, rfl, .ty _, ty_of hy, kit_tup K d, x, rfl, x, _, _, _, isTup d, rfl, .ty _, ty_of hx, kit_tup K d, rfl, _, rfl, iteNS rfl ?_⟩
    refine ⟨y, rfl, y, _, _, _, isLst d, rfl, .ty _, ty_of hy, kit_lst K d, x, rfl, x, _, _, _, isLst d, rfl, .ty _, ty_of hx, kit_lst K d, rfl, _, rfl, iteNS rfl ?_⟩
    refine ⟨y, rfl, (by show 2 ≤ sizeLine; decide), fun p np => ?_⟩
    have sp1 := same_upd (o := .tup [.ty "tuple", .ty "list"]) np
    refine ⟨y, p, _, _, _, _, rfl, upd_same, .cons (.ty _) (.cons (.ty _) .nil), ty_of (dp_same sp1 d _ hy), kit_seq K d, _, rfl, ?_⟩
    cases hseq : (isTup d || isLst d) with
    | false =>
      obtain ⟨ht, hl⟩ := Bool.or_eq_false_iff.mp hseq
      obtain ⟨hs, rfl⟩ := scal_same hx hy ht hl
      refine ⟨x, rfl, x, _, _, _, isBl d, rfl, .ty _, ty_of (dp_same sp1 d _ hx), kit_bl K d, x, rfl, x, _, _, _, isBl d, rfl, .ty _, ty_of (dp_same sp1 d _ hx), kit_bl K d, rfl, _, rfl, ?_⟩
      rw [decide_eq_true rfl]
      refine iteT ⟨x, rfl, x, rfl, hs, ?_⟩
      rw [decide_eq_true rfl]
      exact q _ sp1
    | true =>
      obtain ⟨a, xs, ds, rfl, ha, da, hl, hfs, hd⟩ := seq_of hx hf hseq
      obtain ⟨b, ys, ds', rfl, hb, db, _, _, hd'⟩ := seq_of hy hf hseq
      have eds : ds' = ds := by
        rcases hd with rfl | rfl <;> rcases hd' with h | h <;> cases h <;> rfl
      subst eds
      have lx := dpA_len da
      have ly := dpA_len db
      refine ⟨_, rfl, a, xs, rfl, ha.same sp1, _, rfl, b, ys, rfl, hb.same sp1, rfl, _, rfl, ?_⟩
      rw [lx, ly, decide_eq_true rfl]
      refine iteT ⟨_, rfl, b, ys, rfl, hb.same sp1, ys.length, rfl, by omega, by omega, fun D nD => ?_⟩
      refine lc_it walk_range (fun i H' => Same H H' ∧ H' D = some (.lst (List.replicate i (V.bl true)))) ⟨sp1.trans (same_upd nD), upd_same⟩ (fun _ _ _ _ => trivial) ?_ ?_
      · rintro i v H1 H2 hi ⟨sm, hD⟩ ⟨rfl, rfl⟩
        have hi' : i < ds'.length := by
          have : ((ys.length : Nat) : Int).toNat = ys.length := by omega
          omega
        obtain ⟨vx, gx, dx⟩ := dpA_get da (List.getElem?_eq_getElem hi')
        obtain ⟨vy, gy, dy⟩ := dpA_get db (List.getElem?_eq_getElem hi')
        refine ⟨rfl, _, rfl, _, rfl, (ha.same sm).ix (v := vx) ?_ ⟨_, rfl, _, rfl, (hb.same sm).ix (v := vy) ?_ ?_⟩⟩
        · rw [Int.zero_add]
          exact atI_nat gx
        · rw [Int.zero_add]
          exact atI_nat gy
        · refine ⟨vx, vy, _, rfl, dp_same sm _ _ dx, dp_same sm _ _ dy, hfs _ (List.getElem_mem hi'), fun H3 s3 => ?_⟩
          refine ⟨_, s3 _ _ hD, ?_, ?_, ?_⟩
          · rw [List.length_replicate]
            exact szlt (by omega)
          · have : H D = none := sp1.free nD
            intro c o e
            rw [upd_ne (ne_of_none e this)]
            exact s3 _ _ (sm _ _ e)
          · rw [upd_same]
            congr 2
            rw [List.replicate_succ']
      · rintro H1 ⟨sm, hD⟩
        refine ⟨D, List.replicate _ true, rfl, SqL.of (by rw [hD, List.map_replicate]), ?_⟩
        rw [show (List.replicate (((ys.length : Nat) : Int).toNat) true).all id = true by simp]
        exact q _ sm
end
end Wr

namespace Wr
open PySem PySem.Spec PyProof.Rows L2
/-- what can be drawn from: a text, a list or a tuple -/
inductive Things (K : PySem.W.Frag) (H : Hp) : V → List V → Prop where
  | txt (l : List Nat) : Things K H (.str (S l)) (l.map fun c => V.str (S [c]))
  | seq {a : Addr} {xs : List V} : Sq K H a xs → Things K H (.ref a) xs
theorem Things.str (K : PySem.W.Frag) (H : Hp) (z : Str) : Things K H (.str z) (z.cps.toList.map fun c => V.str (S [c])) := by
  have h := Things.txt (K := K) (H := H) z.cps.toList
  rw [S_tl] at h
  exact h
theorem Things.but {K : PySem.W.Frag} {H H' : Hp} {b : Addr} {x : V} {xs : List V} (e : SameBut b H H') (h : Things K H x xs) (hx : x ≠ .ref b) : Things K H' x xs := by
  cases h with
  | txt l => exact .txt l
  | seq h =>
    refine .seq ?_
    rename_i a
    have na : a ≠ b := fun z => hx (by rw [z])
    rcases h with h | h
    · rcases h with (h | ⟨o, h⟩) | h
      · exact .inl (.inl (.inl (e _ _ na h)))
      · exact .inl (.inl (.inr ⟨o, e _ _ na h⟩))
      · exact .inl (.inr h)
    · rcases h with (h | ⟨o, h⟩) | h
      · exact .inr (.inl (.inl (e _ _ na h)))
      · exact .inr (.inl (.inr ⟨o, e _ _ na h⟩))
      · exact .inr (.inr h)
theorem Things.len {K : PySem.W.Frag} {H : Hp} {x : V} {xs : List V} (h : Things K H x xs) (hl : xs.length < 100000) : LenV K x H xs.length := by
  cases h with
  | txt l =>
    rw [List.length_map] at hl ⊢
    exact ⟨by rw [S_len]; exact sz (by omega), by rw [S_len]⟩
  | seq h =>
    rcases h with h | h
    · exact .inl ⟨_, h, rfl⟩
    · exact .inr ⟨_, h, rfl⟩
theorem Things.ix {K : PySem.W.Frag} {H : Hp} {x v : V} {xs : List V} {i : Nat} {Q : VK} (h : Things K H x xs) (hl : xs.length < 100000) (hi : xs[i]? = some v) (q : Q v H) : rIx K x (.int (i : Int)) H Q := by
  cases h with
  | txt l =>
    rw [List.length_map] at hl
    rw [List.getElem?_map] at hi
    cases e : l[i]? with
    | none => rw [e] at hi; cases hi
    | some c =>
      rw [e] at hi
      obtain rfl : V.str (S [c]) = v := Option.some.inj hi
      exact .inr (.inr ⟨S l, i, c, rfl, rfl, by rw [S_len]; exact sz (by omega), atI_nat e, q⟩)
  | seq h => exact h.ix (atI_nat hi) q
def sp_law_of (K : PySem.W.Frag) : Sp := fun vs H Q _ => ∃ (b la : Addr) (x : V) (xs : List V), vs = [.ref b, x] ∧ Bag H b la ∧ Things K H x xs ∧ x ≠ .ref b ∧ 0 < xs.length ∧ xs.length < 100000 ∧ ∀ H' v, BagTo b la H H' → v ∈ xs → Q v H'
section
variable {P : Program} {w : World} {K : PySem.W.Frag} {mg : Str → Option Value} {base : Heap}
theorem ok_law_of (T : Top K mg) : Own P w K mg base CX0 2 "_law_of" ["_law_bag_here", "_law_things"] (sp_law_of K) := by
  have G_law_pull := ok_law_pull (P := P) (w := w) (base := base)  T
  obtain ⟨f, fd, F, hm⟩ := T.f_law_of
  refine ⟨f, fd, ?_, hm, F.kp, F.bindsN fun _ _ _ _ _ _ us hl => match us, hl with | [_, _], _ => rfl⟩
  refine F.ok sc_law_of (fun vs H Q E h => ?_) (fun cdv A outer s H vs Q E hr h => ?_)
  · obtain ⟨b, la, x, xs, rfl, _⟩ := h
    rfl
  · obtain ⟨b, la, x, xs, rfl, hB, hx, nx, l0, l1, q⟩ := h
    refine ⟨_, PSs.nox (pss_one (ps_ret (pe_ix (ix_seqK (K := K)) (pv 1) (pe_own G_law_pull (hr.mono (by decide)) (by rfl) (pa_cons (pv 0) (pa_cons (pe_callB (call_lenK (K := K)) (by rfl) T.z_len (by decide +kernel) (pa_cons (pv 1) pa_nil)) pa_nil))) (fun _ _ => rfl)))), ?_⟩
    refine ⟨x, rfl, .ref b, rfl, x, rfl, x, xs.length, rfl, hx.len l1, b, la, xs.length, rfl, hB, by omega, by omega, fun H1 r to r0 r1 => ?_⟩
    obtain ⟨i, rfl⟩ := Int.eq_ofNat_of_zero_le r0
    have hi : i < xs.length := by omega
    exact (hx.but to.1 nx).ix l1 (List.getElem?_eq_getElem hi) (q _ _ to (List.getElem_mem hi))
end
end Wr

namespace Wr
open PySem PySem.Spec PyProof.Rows L2
/-- a sign that texts may have -/
def okSign (c : Nat) : Bool := c == 10 || (decide (32 ≤ c) && decide (c ≤ 126))
def sp_law_text : Sp := fun vs H Q _ => ∃ (b la : Addr) (n : Nat), vs = [.ref b, .int (n : Int)] ∧ Bag H b la ∧ n ≤ 1000 ∧ ∀ H' cs, BagTo b la H H' → cs.length ≤ n → (∀ c ∈ cs, okSign c = true) → Q (.str (S cs)) H'
section
variable {P : Program} {w : World} {K : PySem.W.Frag} {mg : Str → Option Value} {base : Heap}
theorem ok_law_text (T : Top K mg) : Own P w K mg base CX0 3 "_law_text" ["_law_bag_here", "_law_top"] (sp_law_text) := by
  have G_law_of := ok_law_of (P := P) (w := w) (base := base)  T
  have G_law_pull := ok_law_pull (P := P) (w := w) (base := base)  T
  obtain ⟨f, fd, F, hm⟩ := T.f_law_text
  refine ⟨f, fd, ?_, hm, F.kp, F.bindsN fun _ _ _ _ _ _ us hl => match us, hl with | [_, _], _ => rfl⟩
  refine F.ok sc_law_text (fun vs H Q E h => ?_) (fun cdv A outer s H vs Q E hr h => ?_)
  · obtain ⟨b, la, n, rfl, _⟩ := h
    rfl
  · obtain ⟨b, la, n, rfl, hB, hn, q⟩ := h
    refine ⟨_, PSs.nox (pss_cons (ps_set (i := 2) sc_law_text.nd rfl (Or.inr rfl) (pe_own G_law_of (hr.mono (by decide)) (by rfl) (pa_cons (pv 0) (pa_cons (pe_lst (pa_cons (pe_sc (l := [97, 98]) (by decide +kernel)) (pa_cons (pe_sc (l := [32, 97, 123, 125]) (by decide +kernel)) (pa_cons (pe_sc (l := [92, 10, 32, 110]) (by decide +kernel)) (pa_cons (pe_sc (l := [123, 125]) (by decide +kernel)) (pa_cons (pe_sc (l := [120, 34, 36, 91, 93, 59, 35]) (by decide +kernel)) (pa_cons (pe_sc (l := [65, 122, 48, 57, 95, 45, 43, 33, 126]) (by decide +kernel)) (pa_cons (pe_sc (l := [97, 98, 99, 32, 10, 92, 123, 125, 34, 36, 91, 93, 59, 35]) (by decide +kernel)) pa_nil)))))))) pa_nil))))
        (pss_one (ps_ret (pe_m1 PySem.F.slot_str_join PySem.F.type_str_join (mt_joinK (K := K)) (pe_sc (l := []) (by decide +kernel)) (pe_lc (own := [("_law_k", 3)]) (g := gName 3) (tt := tYes) rfl sc_law_text.nd (pi_range1 (by rfl) T.z_range (pa_cons (pe_own G_law_pull (hr.mono (by decide)) (by rfl) (pa_cons (pv 0) (pa_cons (pe_op op_add (pv 1) pe_int) pa_nil))) pa_nil)) (blkOk_by (own := [("_law_k", 3)]) (N := ["_law_bag_here", "_law_top", "_law_signs", "_law_k"]) (sc := (defScope s_law_text)) (by decide +kernel)) (fun _ _ _ _ _ => pg_name (i := 3) sc_law_text.nd rfl (Or.inl rfl)) (fun _ _ _ _ _ => pts_nil) (fun _ _ _ _ _ => (pe_own G_law_of (hr.mono (by decide)) (by rfl) (pa_cons (pv 0) (pa_cons (pv 2) pa_nil))))))))), ?_⟩
    refine ⟨.ref b, rfl, (by show 7 ≤ sizeLine; decide), fun p np => ?_⟩
    have np' := hB.fresh np
    refine ⟨b, la, .ref p, _, rfl, hB.same (same_upd np), .seq (.inl (SqL.of upd_same)), (by intro z; cases z; exact np'.1 rfl), by decide, by decide, fun H1 v to1 hv => ?_⟩
    obtain ⟨sg, rfl, s0, s1, s2⟩ : ∃ sg : List Nat, v = .str (S sg) ∧ 0 < sg.length ∧ sg.length < 100 ∧ ∀ c ∈ sg, okSign c = true := by
      simp only [List.mem_cons, List.not_mem_nil, or_false] at hv
      rcases hv with rfl | rfl | rfl | rfl | rfl | rfl | rfl <;> exact ⟨_, rfl, by decide, by decide, by decide⟩
    have t1 : BagTo b la H H1 := (hB.to (same_upd np)).trans to1
    refine ⟨⟨_, rfl⟩, .ref b, rfl, _, rfl, _, _, rfl, rfl, b, la, _, rfl, to1.2, by omega, by omega, fun H2 r to2 r0 r1 => ⟨r, rfl, by omega, by omega, fun D nD => ?_⟩⟩
    have fD := to2.2.fresh nD
    have t2 := t1.trans to2
    refine lc_it walk_range (fun j H' => BagTo b la H H' ∧ ∃ cs : List Nat, cs.length = j ∧ (∀ c ∈ cs, okSign c = true) ∧ H' D = some (.lst (cs.map fun c => V.str (S [c])))) ⟨t2.trans (to2.2.to (same_upd nD)), [], rfl, by simp, upd_same⟩ (fun _ _ _ _ => trivial) ?_ ?_
    · rintro j v H5 H6 hj ⟨t5, cs, lcs, ok, hD⟩ ⟨rfl, rfl⟩
      refine ⟨rfl, .ref b, rfl, _, rfl, b, la, _, _, rfl, t5.2, Things.txt sg, (by intro z; cases z), by rw [List.length_map]; exact s0, by rw [List.length_map]; omega, fun H7 v to7 hv => ?_⟩
      obtain ⟨c, hc, rfl⟩ := List.exists_of_mem_map hv
      have hHD : H D = none := by
        cases e : H D with
        | none => rfl
        | some o =>
          have := t2.1 D o fD.1 e
          rw [nD] at this
          cases this
      refine ⟨_, to7.1 _ _ fD.1 hD, ?_, ⟨fun a o na e => ?_, to7.2.upd fD.1 fD.2⟩, cs ++ [c], ?_, ?_, ?_⟩
      · rw [List.length_map]
        exact szlt (by omega)
      · rw [upd_ne (ne_of_none e hHD)]
        exact to7.1 a o na (t5.1 a o na e)
      · rw [List.length_append, lcs]
        rfl
      · intro d hd
        rcases List.mem_append.mp hd with h | h
        · exact ok d h
        · rw [List.mem_singleton.mp h]
          exact s2 c hc
      · rw [upd_same, List.map_append]
        rfl
    · rintro H5 ⟨t5, cs, lcs, ok, hD⟩
      exact join_okS hD (by omega) (q _ _ t5 (by omega) ok)
end
end Wr

namespace Wr
open PySem PySem.Spec PyProof.Rows L2
def sp_law_turned : Sp := fun vs H Q _ => ∃ l : List Nat, vs = [.str (S l)] ∧ l.length ≤ 40000 ∧ Q (.str (S (turnedL l))) H
section
variable {P : Program} {w : World} {K : PySem.W.Frag} {mg : Str → Option Value} {base : Heap}
theorem ok_law_turned (T : Top K mg) : Own P w K mg base CX0 1 "_law_turned" ["_law_text_here"] (sp_law_turned) := by
  obtain ⟨f, fd, F, hm⟩ := T.f_law_turned
  refine ⟨f, fd, ?_, hm, F.kp, F.bindsN fun _ _ _ _ _ _ us hl => match us, hl with | [_], _ => rfl⟩
  refine F.ok sc_law_turned (fun vs H Q E h => ?_) (fun cdv A outer s H vs Q E hr h => ?_)
  · obtain ⟨l, rfl, _⟩ := h
    rfl
  · obtain ⟨l, rfl, hl, q⟩ := h
    refine ⟨_, PSs.nox (pss_cons (ps_set (i := 1) sc_law_turned.nd rfl (Or.inl rfl) (pe_sc (l := []) (by decide +kernel)))
        (pss_cons (ps_for PassesOwn.never rfl (pi_str (pv 0)) (pg_name (i := 2) sc_law_turned.nd rfl (Or.inl rfl)) (pss_one (ps_if (pt_cmpR op_eq (pv 2) (pe_sc (l := [10]) (by decide +kernel)) (nomark _)) (pss_one (ps_set (i := 1) sc_law_turned.nd rfl (Or.inl rfl) (pe_op op_add_str (pv 1) (pe_sc (l := [92, 110]) (by decide +kernel))))) (pss_one (ps_set (i := 1) sc_law_turned.nd rfl (Or.inl rfl) (pe_op op_add_str (pe_op op_add_str (pv 1) (pe_ifExp (pt_cmpR op_in_sign (pv 2) (pe_sc (l := [32, 92, 123, 125, 34, 36, 91, 93, 59, 35]) (by decide +kernel)) (by rfl)) (pe_sc (l := [92]) (by decide +kernel)) (pe_sc (l := []) (by decide +kernel)))) (pv 2)))))))
        (pss_one (ps_ret (pv 1))))), ?_⟩
    refine ⟨_, rfl, S l, rfl, for_it walk_str (fun i σ H' => ∃ y, σ = [some (.str (S l)), some (.str (S (turnedL (l.take i)))), y] ∧ H' = H) ⟨none, rfl, rfl⟩ (fun _ _ _ _ _ => trivial) ?_ ?_⟩
    · rintro i x σ H1 H2 hi ⟨y, rfl, rfl⟩ ⟨rfl, c, hc, rfl⟩
      have hc' : l[i]? = some c := by simpa [S] using hc
      have fin : ∀ z, z = turn1 c → ∃ y, [some (V.str (S l)), some (V.str (S (turnedL (l.take i)) ++ S z)), some (.str (S [c]))] = [some (.str (S l)), some (.str (S (turnedL (l.take (i + 1))))), y] ∧ H2 = H2 := by
        rintro z rfl
        rw [S_cat, turnedL_take hc']
        exact ⟨_, rfl, rfl⟩
      have bl := turnedL_take_len l i
      refine ⟨_, rfl, rfl, _, rfl, ?_⟩
      rw [sg_eq]
      refine ite2 (fun e => ?_) (fun e => ?_)
      · have e1 : c = 10 := of_decide_eq_true e
        refine ⟨_, rfl, _, _, rfl, rfl, ?_, ?_⟩
        · rw [S_len, S_len]
          exact sz (by simp; omega)
        · exact fin _ (by unfold turn1; rw [if_pos e1])
      · have e1 : ¬ c = 10 := fun z => e (decide_eq_true z)
        refine ⟨_, rfl, _, rfl, c, _, rfl, rfl, _, rfl, ?_⟩
        refine ite2 (fun e2 => ?_) (fun e2 => ?_)
        · have m : c ∈ specials := of_decide_eq_true e2
          refine ⟨_, _, rfl, rfl, ?_, _, rfl, _, _, rfl, rfl, ?_, ?_⟩
          · rw [S_len, S_len]
            exact sz (by simp; omega)
          · rw [S_cat, S_len, S_len]
            exact sz (by simp; omega)
          · rw [S_cat _ [92], S_cat, List.append_assoc, ← S_cat]
            exact fin _ (by unfold turn1; rw [if_neg e1, if_pos m]; rfl)
        · have m : ¬ c ∈ specials := fun z => e2 (decide_eq_true z)
          refine ⟨_, _, rfl, rfl, ?_, _, rfl, _, _, rfl, rfl, ?_, ?_⟩
          · rw [S_len, S_len]
            exact sz (by simp; omega)
          · rw [S_cat, S_len, S_len]
            exact sz (by simp; omega)
          · rw [S_cat _ [], List.append_nil]
            exact fin _ (by unfold turn1; rw [if_neg e1, if_neg m])
    · rintro σ H1 ⟨y, rfl, rfl⟩
      have e : l.take (S l).cps.size = l := by simp [S]
      rw [e]
      exact ⟨_, rfl, q⟩
end
end Wr

namespace Wr
open PySem PySem.Spec PyProof.Rows L2
def depths (l : List Nat) : List Int := (List.range (l.length + 1)).map fun i => depth (l.take i)
theorem depths_len (l : List Nat) : (depths l).length = l.length + 1 := by
  unfold depths
  rw [List.length_map, List.length_range]
theorem depths_take (l : List Nat) (i : Nat) (h : i < l.length + 1) : (depths l).take (i + 1) = (depths l).take i ++ [depth (l.take i)] := by
  have : (depths l)[i]? = some (depth (l.take i)) := by
    unfold depths
    rw [List.getElem?_map, List.getElem?_range h]
    rfl
  rw [List.take_add_one, this]
  rfl
theorem depths_snoc (l : List Nat) : depths l = (List.range l.length).map (fun i => depth (l.take i)) ++ [depth l] := by
  unfold depths
  rw [List.range_succ, List.map_append, List.map_singleton, List.take_length]
theorem pairs_by_min (l : List Nat) (m : Int) (hm : m ∈ depths l) (hle : ∀ y, y ∈ depths l → m ≤ y) : (decide (m = 0) && decide (depth l = 0)) = pairs l := by
  rw [Bool.eq_iff_iff, Bool.and_eq_true, decide_eq_true_eq, decide_eq_true_eq]
  unfold pairs
  rw [pairsFrom_iff l 0 (by decide)]
  have m0 : depth (l.take 0) ∈ depths l := List.mem_map.mpr ⟨0, List.mem_range.mpr (by omega), rfl⟩
  have h0 := hle _ m0
  rw [List.take_zero, depth_nil] at h0
  constructor
  · rintro ⟨rfl, h2⟩
    refine ⟨fun i hi => ?_, by omega⟩
    have := hle _ (List.mem_map.mpr ⟨i, List.mem_range.mpr (by omega), rfl⟩)
    omega
  · rintro ⟨h1, h2⟩
    refine ⟨?_, by omega⟩
    obtain ⟨i, hi, rfl⟩ := List.mem_map.mp hm
    have := h1 i (by have := List.mem_range.mp hi; omega)
    omega
def sp_law_pairs : Sp := fun vs H Q _ => ∃ l : List Nat, vs = [.str (S l)] ∧ l.length ≤ 40000 ∧ ∀ H', Same H H' → Q (.bl (pairs l)) H'
section
variable {P : Program} {w : World} {K : PySem.W.Frag} {mg : Str → Option Value} {base : Heap}
theorem ok_law_pairs (T : Top K mg) : Own P w K mg base CX0 1 "_law_pairs" ["_law_text_here"] (sp_law_pairs) := by
  obtain ⟨f, fd, F, hm⟩ := T.f_law_pairs
  refine ⟨f, fd, ?_, hm, F.kp, F.bindsN fun _ _ _ _ _ _ us hl => match us, hl with | [_], _ => rfl⟩
  refine F.ok sc_law_pairs (fun vs H Q E h => ?_) (fun cdv A outer s H vs Q E hr h => ?_)
  · obtain ⟨l, rfl, _⟩ := h
    rfl
  · obtain ⟨l, rfl, hl, q⟩ := h
    refine ⟨_, PSs.nox (pss_cons (ps_setLc (i := 1) (own := [("_law_at", 2)]) (g := gName 2) (tt := tYes) rfl sc_law_pairs.nd rfl rfl (sw_true rfl rfl rfl (by decide +kernel)) (pi_range1 (by rfl) T.z_range (pa_cons (pe_op op_add (pe_callB call_len_str (by rfl) T.z_len (by decide +kernel) (pa_cons (pv 0) pa_nil)) pe_int) pa_nil)) (blkOk_by (own := [("_law_at", 2)]) (N := ["_law_text_here", "_law_depths", "_law_at"]) (sc := (defScope s_law_pairs)) (by decide +kernel)) (fun _ _ _ _ _ => pg_name (i := 2) sc_law_pairs.nd rfl (Or.inl rfl)) (fun _ _ _ _ _ => pts_nil) (fun _ _ _ _ _ => (pe_op op_sub (pe_m1 PySem.F.slot_str_count PySem.F.type_str_count mt_count (pe_slice sl_str (pv 0) po_none (po_some (pv 2))) (pe_sc (l := [123]) (by decide +kernel))) (pe_m1 PySem.F.slot_str_count PySem.F.type_str_count mt_count (pe_slice sl_str (pv 0) po_none (po_some (pv 2))) (pe_sc (l := [125]) (by decide +kernel))))))
        (pss_one (ps_ret (pe_and (pe_cmpR op_eq (pe_callB (cr_minK (K := K) rfl) (by rfl) T.z_min (by decide +kernel) (pa_cons (pv 1) pa_nil)) pe_int (nomark _)) (pe_one (pe_cmpR op_eq (pe_ix (ix_listK (K := K)) (pv 1) (pe_un un_neg pe_int) (fun _ _ => rfl)) pe_int (nomark _))))))), ?_⟩
    refine ⟨_, rfl, S l, rfl, (by rw [S_len]; exact sz (by omega)), _, _, rfl, rfl, _, rfl, by rw [S_len]; omega, by rw [S_len]; omega, fun D nD => ?_⟩
    rw [S_len, show ((l.length : Int) + 1).toNat = l.length + 1 by omega]
    refine lc_it walk_range (fun i H' => Same H H' ∧ H' D = some (.lst (((depths l).take i).map V.int))) ⟨same_upd nD, upd_same⟩ (fun _ _ _ _ => trivial) ?_ ?_
    · rintro i x H1 H2 hi ⟨sm, hD⟩ ⟨rfl, rfl⟩
      have ez : (0 : Int) + (i : Int) = (i : Int) := Int.zero_add _
      have hc : ∀ c : Nat, Txt.count (cutS (S l) none (some (0 + (i : Int)))) (S [c]) = cnt c (l.take i) := by
        intro c
        rw [ez, cut_to]
        exact count_cnt _ c
      refine ⟨rfl, _, rfl, _, rfl, _, rfl, S l, rfl, (by rw [S_len]; exact sz (by omega)), ⟨_, rfl⟩, _, _, rfl, rfl, ?_⟩
      refine ⟨_, rfl, _, rfl, _, rfl, S l, rfl, (by rw [S_len]; exact sz (by omega)), ⟨_, rfl⟩, _, _, rfl, rfl, ?_⟩
      rw [hc, hc]
      refine ⟨_, _, rfl, rfl, _, hD, ?_, ?_, ?_⟩
      · rw [List.length_map, List.length_take]
        exact szlt (by omega)
      · intro a o e
        rw [upd_ne (ne_of_none e nD)]
        exact sm a o e
      · rw [upd_same, depths_take l i hi, ← depth_cnt, List.map_append]
        rfl
    · rintro H1 ⟨sm, hD⟩
      rw [List.take_of_length_le (by rw [depths_len]; exact Nat.le_refl _)] at hD
      refine ⟨_, rfl, D, depths l, rfl, SqL.of hD, by rw [depths_len]; omega, fun m hm hle => ?_⟩
      have pm := pairs_by_min l m hm hle
      refine ⟨rfl, _, rfl, ?_⟩
      have ed : decide (V.int m = V.int 0) = decide (m = 0) := by
        by_cases h : m = 0
        · rw [h]
          rfl
        · rw [decide_eq_false h, decide_eq_false]
          intro z
          exact h (V.int.inj z)
      rw [ed]
      by_cases h : m = 0
      · rw [decide_eq_true h] at pm ⊢
        have gl : atI ((depths l).map V.int) (-1) = some (.int (depth l)) := by
          rw [depths_snoc, List.map_append]
          exact atI_last _ _
        refine iteT ⟨_, rfl, 1, rfl, D, _, -1, _, rfl, rfl, SqL.of hD, gl, rfl, ?_⟩
        have ed2 : decide (V.int (depth l) = V.int 0) = decide (depth l = 0) := by
          by_cases h : depth l = 0
          · rw [h]
            rfl
          · rw [decide_eq_false h, decide_eq_false]
            intro z
            exact h (V.int.inj z)
        rw [ed2]
        rw [Bool.true_and] at pm
        rw [pm]
        exact q _ sm
      · rw [decide_eq_false h] at pm ⊢
        rw [Bool.false_and] at pm
        refine iteF ?_
        rw [pm]
        exact q _ sm
end
end Wr

namespace Wr
open PySem PySem.Spec PyProof.Rows L2
def sp_law_word_text : Sp := fun vs H Q _ => ∃ l : List Nat, vs = [.str (S l)] ∧ l.length ≤ 40000 ∧ ∀ H', Same H H' → Q (.str (S (wordL l))) H'
section
variable {P : Program} {w : World} {K : PySem.W.Frag} {mg : Str → Option Value} {base : Heap}
theorem ok_law_word_text (T : Top K mg) : Own P w K mg base CX0 2 "_law_word_text" ["_law_word"] (sp_law_word_text) := by
  have G_law_pairs := ok_law_pairs (P := P) (w := w) (base := base)  T
  have G_law_turned := ok_law_turned (P := P) (w := w) (base := base)  T
  obtain ⟨f, fd, F, hm⟩ := T.f_law_word_text
  refine ⟨f, fd, ?_, hm, F.kp, F.bindsN fun _ _ _ _ _ _ us hl => match us, hl with | [_], _ => rfl⟩
  refine F.ok sc_law_word_text (fun vs H Q E h => ?_) (fun cdv A outer s H vs Q E hr h => ?_)
  · obtain ⟨l, rfl, _⟩ := h
    rfl
  · obtain ⟨l, rfl, hl, q⟩ := h
    refine ⟨_, PSs.nox (pss_cons (ps_if (pt_cmpR op_eq (pv 0) (pe_sc (l := []) (by decide +kernel)) (nomark _)) (pss_one (ps_ret (pe_sc (l := [123, 125]) (by decide +kernel)))) pss_nil)
        (pss_cons (ps_if (PW.pt (pw_and (pt_val (pe_own G_law_pairs (hr.mono (by decide)) (by rfl) (pa_cons (pv 0) pa_nil))) (pw_and1 (pt_cmpR op_le (pe_op op_add (pe_callB call_len_str (by rfl) T.z_len (by decide +kernel) (pa_cons (pv 0) pa_nil)) pe_int) (pe_callB call_len_str (by rfl) T.z_len (by decide +kernel) (pa_cons (pe_own G_law_turned (hr.mono (by decide)) (by rfl) (pa_cons (pv 0) pa_nil)) pa_nil)) (nomark _))))) (pss_one (ps_ret (pe_op op_add_str (pe_op op_add_str (pe_sc (l := [123]) (by decide +kernel)) (pv 0)) (pe_sc (l := [125]) (by decide +kernel))))) pss_nil)
        (pss_one (ps_ret (pe_own G_law_turned (hr.mono (by decide)) (by rfl) (pa_cons (pv 0) pa_nil)))))), ?_⟩
    have tl := turnedL_len l
    refine ⟨_, rfl, rfl, _, rfl, ?_⟩
    rw [str_eq]
    refine ite2 (fun e => ?_) (fun e => ?_)
    · have e1 : l = [] := of_decide_eq_true e
      show Q (.str (S [123, 125])) H
      have : wordL l = [123, 125] := by unfold wordL; rw [if_pos e1]
      rw [← this]
      exact q _ (Same.refl H)
    · have e1 : ¬ l = [] := fun z => e (decide_eq_true z)
      refine ⟨_, rfl, l, rfl, hl, fun H1 s1 => ⟨_, rfl, ?_⟩⟩
      cases hp : pairs l with
      | false =>
        refine iteF ?_
        have : wordL l = turnedL l := by unfold wordL; rw [if_neg e1, if_neg (by rw [hp]; rintro ⟨z, _⟩; cases z)]
        rw [this] at q
        exact ⟨_, rfl, l, rfl, hl, q _ s1⟩
      | true =>
        refine iteT ⟨_, rfl, _, rfl, by rw [S_len]; exact sz (by omega), _, _, rfl, rfl, _, rfl, l, rfl, hl, _, rfl, by rw [S_len]; exact sz (by omega), _, _, rfl, rfl, _, rfl, ?_⟩
        rw [S_len, S_len]
        refine ite2 (fun e2 => ?_) (fun e2 => ?_)
        · have h2 : l.length + 2 ≤ (turnedL l).length := by
            have := of_decide_eq_true e2
            omega
          have : wordL l = 123 :: (l ++ [125]) := by unfold wordL; rw [if_neg e1, if_pos ⟨hp, h2⟩]
          rw [this] at q
          refine ⟨_, rfl, _, _, rfl, rfl, ?_, _, _, rfl, rfl, ?_, ?_⟩
          · rw [S_len, S_len]
            exact sz (by simp; omega)
          · rw [S_cat, S_len, S_len]
            exact sz (by simp; omega)
          · rw [S_cat, S_cat]
            exact q _ s1
        · have h2 : ¬ l.length + 2 ≤ (turnedL l).length := fun z => e2 (decide_eq_true (by omega))
          have : wordL l = turnedL l := by unfold wordL; rw [if_neg e1, if_neg (fun z => h2 z.2)]
          rw [this] at q
          exact ⟨_, rfl, l, rfl, hl, q _ s1⟩
end
end Wr

namespace Wr
open PySem PySem.Spec PyProof.Rows L2
def sp_law (K : PySem.W.Frag) : Sp := fun vs H Q _ => ∃ (a : Addr) (ns : List Int), vs = [.ref a] ∧ SqL K H a (ns.map V.int) ∧ ns.length ≤ 63 ∧ ∀ H', Q (.bl true) H'
def four : List (List Nat) := [[], [97, 32, 98], [97, 32, 98, 32, 99], [125, 123]]
theorem four_is : four.map wordL = [[123, 125], [97, 92, 32, 98], [123, 97, 32, 98, 32, 99, 125], [92, 125, 92, 123]] := by decide
section
variable {P : Program} {w : World} {K : PySem.W.Frag} {mg : Str → Option Value} {base : Heap}
theorem ok_law {f : Addr} {fd : FuncData} (T : Top K mg) (F : FunD K "law" "law" (defArgs s_law) (defBody s_law) (defScope s_law) [] [] f fd) : FnOk P w K mg base CX0 5 f fd ["_law_script"] (sp_law K) := by
  have G_law_bag := ok_law_bag (P := P) (w := w) (base := base)  T
  have G_law_text := ok_law_text (P := P) (w := w) (base := base)  T
  have G_law_like := ok_law_like (P := P) (w := w) (base := base) 3 T
  have G_word_text := ok_word_text (P := P) (w := w) (base := base)  T
  have G_law_word_text := ok_law_word_text (P := P) (w := w) (base := base)  T
  refine F.ok sc_law (fun vs H Q E h => ?_) (fun cdv A outer s H vs Q E hr h => ?_)
  · obtain ⟨a, ns, rfl, _⟩ := h
    rfl
  · obtain ⟨a, ns, rfl, hS, hlen, q⟩ := h
    refine ⟨_, PSs.nox (pss_cons (ps_set (i := 1) sc_law.nd rfl (Or.inl rfl) (pe_own G_law_bag (hr.mono (by decide)) (by rfl) (pa_cons (pv 0) pa_nil)))
        (pss_cons (ps_for PassesOwn.never rfl (pi_range1 (by rfl) T.z_range (pa_cons pe_int pa_nil)) (pg_name (i := 2) sc_law.nd rfl (Or.inl rfl)) (pss_cons (ps_set (i := 4) sc_law.nd rfl (Or.inl rfl) (pe_own G_law_text (hr.mono (by decide)) (by rfl) (pa_cons (pv 1) (pa_cons pe_int pa_nil))))
        (pss_one (ps_if (pt_not (pt_val (pe_own G_law_like (hr.mono (by decide)) (by rfl) (pa_cons (pe_own G_word_text (hr.mono (by decide)) (by rfl) (pa_cons (pv 4) pa_nil)) (pa_cons (pe_own G_law_word_text (hr.mono (by decide)) (by rfl) (pa_cons (pv 4) pa_nil)) pa_nil))))) (pss_one (ps_ret pe_bl)) pss_nil))))
        (pss_cons (ps_setLc (i := 3) (own := [("_law_word", 4)]) (g := gName 4) (tt := tYes) rfl sc_law.nd rfl rfl (sw_true rfl rfl rfl (by decide +kernel)) (pi_listK (K := K) (pe_lst (pa_cons (pe_sc (l := []) (by decide +kernel)) (pa_cons (pe_sc (l := [97, 32, 98]) (by decide +kernel)) (pa_cons (pe_sc (l := [97, 32, 98, 32, 99]) (by decide +kernel)) (pa_cons (pe_sc (l := [125, 123]) (by decide +kernel)) pa_nil)))))) (blkOk_by (own := [("_law_word", 4)]) (N := ["_law_script", "_law_bag_here", "_law_turn", "_law_told", "_law_word"]) (sc := (defScope s_law)) (by decide +kernel)) (fun _ _ _ _ _ => pg_name (i := 4) sc_law.nd rfl (Or.inl rfl)) (fun _ _ _ _ _ => pts_nil) (fun _ _ _ _ _ => (pe_own G_word_text (hr.mono (by decide)) (by rfl) (pa_cons (pv 4) pa_nil))))
        (pss_one (ps_ret (pe_own G_law_like (hr.mono (by decide)) (by rfl) (pa_cons (pv 3) (pa_cons (pe_lst (pa_cons (pe_sc (l := [123, 125]) (by decide +kernel)) (pa_cons (pe_sc (l := [97, 92, 32, 98]) (by decide +kernel)) (pa_cons (pe_sc (l := [123, 97, 32, 98, 32, 99, 125]) (by decide +kernel)) (pa_cons (pe_sc (l := [92, 125, 92, 123]) (by decide +kernel)) pa_nil))))) pa_nil)))))))), ?_⟩
    refine ⟨.ref a, rfl, a, ns, rfl, hS, hlen, fun H1 b la s1 nb nla hB => ?_⟩
    refine ⟨12, rfl, by decide, by decide, for_it walk_range (fun i σ H' => ∃ y2 y3 y4, σ = [some (.ref a), some (.ref b), y2, y3, y4] ∧ Bag H' b la) ⟨none, none, none, rfl, hB⟩ (fun _ _ _ _ _ => trivial) ?_ ?_⟩
    · rintro i x σ H2 H3 hi ⟨y2, y3, y4, rfl, hB2⟩ ⟨rfl, rfl⟩
      refine ⟨.ref b, rfl, b, la, 12, rfl, hB2, by decide, fun H4 cs to4 hcs _ => ?_⟩
      refine ⟨_, rfl, cs, rfl, by omega, _, rfl, cs, rfl, by omega, fun H5 s5 => ?_⟩
      refine ⟨_, _, .str (S (wordL cs)), rfl, .str _, .str _, trivial, fun H6 s6 => ?_⟩
      exact ⟨_, rfl, iteF ⟨_, _, _, rfl, to4.2.same (s5.trans s6)⟩⟩
    · rintro σ H2 ⟨y2, y3, y4, rfl, hB2⟩
      refine ⟨(by show 4 ≤ sizeLine; decide), fun p np => ⟨p, rfl, ⟨_, SqL.of upd_same⟩, fun D nD => ?_⟩⟩
      have npD : D ≠ p := fun z => by
        rw [z, upd_same] at nD
        cases nD
      refine lc_it (walk_list (K := K) (a := p) (xs := four.map fun z => V.str (S z))) (fun i H' => H' p = some (.lst (four.map fun z => V.str (S z))) ∧ H' D = some (.lst (((four.map wordL).take i).map fun z => V.str (S z)))) ⟨by rw [upd_ne npD.symm, upd_same]; rfl, upd_same⟩ (fun _ _ _ h => SqL.of h.1) ?_ ?_
      · rintro i x H3 H4 hi ⟨hp, hD⟩ ⟨rfl, hx⟩
        rw [List.getElem?_map] at hx
        cases e : four[i]? with
        | none => rw [e] at hx; cases hx
        | some z =>
          rw [e] at hx
          obtain rfl : V.str (S z) = x := Option.some.inj hx
          have hz : z.length ≤ 40000 := by
            have := List.mem_of_getElem? e
            unfold four at this
            simp only [List.mem_cons, List.not_mem_nil, or_false] at this
            rcases this with rfl | rfl | rfl | rfl <;> decide
          refine ⟨rfl, _, rfl, z, rfl, hz, _, hD, ?_, ?_, ?_⟩
          · rw [List.length_map, List.length_take]
            exact szlt (Nat.lt_of_le_of_lt (Nat.min_le_right _ _) (by decide))
          · rw [upd_ne npD.symm]
            exact hp
          · rw [upd_same, List.take_add_one, List.getElem?_map, e, List.map_append]
            rfl
      · rintro H3 ⟨hp, hD⟩
        rw [List.take_of_length_le (by simp), four_is] at hD
        refine ⟨_, rfl, (by show 4 ≤ sizeLine; decide), fun r nr => ?_⟩
        refine ⟨_, _, .list [.str (S [123, 125]), .str (S [97, 92, 32, 98]), .str (S [123, 97, 32, 98, 32, 99, 125]), .str (S [92, 125, 92, 123])], rfl, .lst (SqL.of ?_) (.cons (.str _) (.cons (.str _) (.cons (.str _) (.cons (.str _) .nil)))), .lst (SqL.of upd_same) (.cons (.str _) (.cons (.str _) (.cons (.str _) (.cons (.str _) .nil)))), ⟨by decide, fun d hd => ?_⟩, fun H3 _ => q _⟩
        · rw [upd_ne (ne_of_none hD nr)]
          exact hD
        · simp only [List.mem_cons, List.not_mem_nil, or_false] at hd
          rcases hd with rfl | rfl | rfl | rfl <;> trivial
theorem law_end {h : Heap} {fa : Addr} (T : Top K mg) (KX : K.In h) (hmg : mg ("law" : Str) = some (.ref fa)) :
    ∃ (K : PySem.W.Frag) (fd : FuncData) (sp : Sp), K.In h ∧ (∀ (s : Shared) (u : Value), BindsTo s fd ⟨[u], []⟩ [("_law_script", u)]) ∧
      (∀ (H : Hp) (a : Addr) (ns : List Int), ns.length ≤ 63 → Only H → SqL K H a (ns.map V.int) → sp [.ref a] H (fun v _ => v = .bl true) fun _ _ _ => False) ∧
      ∀ base : Heap, K.In base → base.Ns mainGlobals mg → FnOk P w K mg base CX0 5 fa fd ["_law_script"] sp := by
  obtain ⟨f, fd, F, hm⟩ := T.f_law
  have e := hmg.symm.trans hm
  cases e
  have b := FunD.bindsA (ps := ["_law_script"]) F fun _ _ _ _ _ _ us hl => match us, hl with | [_], _ => rfl
  exact ⟨K, fd, sp_law K, KX, fun s v => b s [v] rfl, fun H a ns hl _ hS => ⟨a, ns, rfl, hS, hl, fun _ => rfl⟩, fun base _ _ => ok_law T F⟩
end
end Wr

namespace Wr
open PySem PySem.Spec PyProof.Rows L2
def d_turned : He.DefD := ⟨("turned", none), "turned", "turned", defArgs s_turned, defBody s_turned, defScope s_turned, [], []⟩
def d_pairs_up : He.DefD := ⟨("pairs_up", none), "pairs_up", "pairs_up", defArgs s_pairs_up, defBody s_pairs_up, defScope s_pairs_up, [], []⟩
def d_word_text : He.DefD := ⟨("word_text", none), "word_text", "word_text", defArgs s_word_text, defBody s_word_text, defScope s_word_text, [], []⟩
def d_law_bag : He.DefD := ⟨("_law_bag", none), "_law_bag", "_law_bag", defArgs s_law_bag, defBody s_law_bag, defScope s_law_bag, [], []⟩
def d_law_pull : He.DefD := ⟨("_law_pull", none), "_law_pull", "_law_pull", defArgs s_law_pull, defBody s_law_pull, defScope s_law_pull, [], []⟩
def d_law_like : He.DefD := ⟨("_law_like", none), "_law_like", "_law_like", defArgs s_law_like, defBody s_law_like, defScope s_law_like, [], []⟩
def d_law_of : He.DefD := ⟨("_law_of", none), "_law_of", "_law_of", defArgs s_law_of, defBody s_law_of, defScope s_law_of, [], []⟩
def d_law_text : He.DefD := ⟨("_law_text", none), "_law_text", "_law_text", defArgs s_law_text, defBody s_law_text, defScope s_law_text, [], []⟩
def d_law_turned : He.DefD := ⟨("_law_turned", none), "_law_turned", "_law_turned", defArgs s_law_turned, defBody s_law_turned, defScope s_law_turned, [], []⟩
def d_law_pairs : He.DefD := ⟨("_law_pairs", none), "_law_pairs", "_law_pairs", defArgs s_law_pairs, defBody s_law_pairs, defScope s_law_pairs, [], []⟩
def d_law_word_text : He.DefD := ⟨("_law_word_text", none), "_law_word_text", "_law_word_text", defArgs s_law_word_text, defBody s_law_word_text, defScope s_law_word_text, [], []⟩
def d_law : He.DefD := ⟨("law", none), "law", "law", defArgs s_law, defBody s_law, defScope s_law, [], []⟩
def fn : List He.DefD := [d_turned, d_pairs_up, d_word_text, d_law_bag, d_law_pull, d_law_like, d_law_of, d_law_text, d_law_turned, d_law_pairs, d_law_word_text, d_law]
def fa : List He.Fa := [.glo "turned", .glo "pairs_up", .glo "word_text", .glo "_law_bag", .glo "_law_pull", .glo "_law_like", .glo "_law_of", .glo "_law_text", .glo "_law_turned", .glo "_law_pairs", .glo "_law_word_text", .glo "law", .free "all", .free "bool", .free "int", .free "isinstance", .free "len", .free "list", .free "min", .free "range", .free "tuple", .str "FEED" "\n", .str "TURN" "\\", .str "TURNED" " \n\\{}\"$[];#"]
abbrev R : PySem.W.OpenRow := PySem.W.OpenLaw.row PySem.Challenge.rw_wordrooms_k02_words_written
abbrev hk : PySem.W.Hook := He.hookD 4 fa fn
def ob (s : PySem.W.SharedT) : He.AlD := He.obsDG 4 fa fn (HandSHeadRun.getT s)
theorem ob_eq (s : PySem.W.SharedT) : ob s = hk.obs s.abs := He.obsDG_eq (HandSHeadRun.getT_eq s)
def loose : List Str := (["FEED", "TURN", "TURNED", "turned", "pairs_up", "word_text", "_law_bag", "_law_pull", "_law_like", "_law_of", "_law_text", "_law_turned", "_law_pairs", "_law_word_text"] : List Str)
theorem run (w : World) : HandSHeadRun.RunEq R (PySem.W.view R.prog [17]) hk ob 4000 loose w := by
  intro os
  kernel_rfl
theorem facts {K : PySem.W.Frag} {h : Heap} {mg : Str → Option Value} (X : K.In h) (G : h.Ns mainGlobals mg) (c : He.SaysD fa fn K) : Top K mg := by
  obtain ⟨fd0, F0⟩ := c.def_ 0 (d := d_turned) rfl
  obtain ⟨fd1, F1⟩ := c.def_ 1 (d := d_pairs_up) rfl
  obtain ⟨fd2, F2⟩ := c.def_ 2 (d := d_word_text) rfl
  obtain ⟨fd3, F3⟩ := c.def_ 3 (d := d_law_bag) rfl
  obtain ⟨fd4, F4⟩ := c.def_ 4 (d := d_law_pull) rfl
  obtain ⟨fd5, F5⟩ := c.def_ 5 (d := d_law_like) rfl
  obtain ⟨fd6, F6⟩ := c.def_ 6 (d := d_law_of) rfl
  obtain ⟨fd7, F7⟩ := c.def_ 7 (d := d_law_text) rfl
  obtain ⟨fd8, F8⟩ := c.def_ 8 (d := d_law_turned) rfl
  obtain ⟨fd9, F9⟩ := c.def_ 9 (d := d_law_pairs) rfl
  obtain ⟨fd10, F10⟩ := c.def_ 10 (d := d_law_word_text) rfl
  obtain ⟨fd11, F11⟩ := c.def_ 11 (d := d_law) rfl
  exact ⟨⟨_, fd0, F0, He.glo_ok X G (c.fact 0 (f := .glo "turned") rfl)⟩,
    ⟨_, fd1, F1, He.glo_ok X G (c.fact 1 (f := .glo "pairs_up") rfl)⟩,
    ⟨_, fd2, F2, He.glo_ok X G (c.fact 2 (f := .glo "word_text") rfl)⟩,
    ⟨_, fd3, F3, He.glo_ok X G (c.fact 3 (f := .glo "_law_bag") rfl)⟩,
    ⟨_, fd4, F4, He.glo_ok X G (c.fact 4 (f := .glo "_law_pull") rfl)⟩,
    ⟨_, fd5, F5, He.glo_ok X G (c.fact 5 (f := .glo "_law_like") rfl)⟩,
    ⟨_, fd6, F6, He.glo_ok X G (c.fact 6 (f := .glo "_law_of") rfl)⟩,
    ⟨_, fd7, F7, He.glo_ok X G (c.fact 7 (f := .glo "_law_text") rfl)⟩,
    ⟨_, fd8, F8, He.glo_ok X G (c.fact 8 (f := .glo "_law_turned") rfl)⟩,
    ⟨_, fd9, F9, He.glo_ok X G (c.fact 9 (f := .glo "_law_pairs") rfl)⟩,
    ⟨_, fd10, F10, He.glo_ok X G (c.fact 10 (f := .glo "_law_word_text") rfl)⟩,
    ⟨_, fd11, F11, He.glo_ok X G (c.fact 11 (f := .glo "law") rfl)⟩,
    He.free_ok X G (c.fact 12 (f := .free "all") rfl),
    He.free_ok X G (c.fact 13 (f := .free "bool") rfl),
    He.free_ok X G (c.fact 14 (f := .free "int") rfl),
    He.free_ok X G (c.fact 15 (f := .free "isinstance") rfl),
    He.free_ok X G (c.fact 16 (f := .free "len") rfl),
    He.free_ok X G (c.fact 17 (f := .free "list") rfl),
    He.free_ok X G (c.fact 18 (f := .free "min") rfl),
    He.free_ok X G (c.fact 19 (f := .free "range") rfl),
    He.free_ok X G (c.fact 20 (f := .free "tuple") rfl),
    He.str_ok X G (c.fact 21 (f := .str "FEED" "\n") rfl),
    He.str_ok X G (c.fact 22 (f := .str "TURN" "\\") rfl),
    He.str_ok X G (c.fact 23 (f := .str "TURNED" " \n\\{}\"$[];#") rfl)⟩
end Wr
open PySem PySem.W PySem.Calls PyProof.Rows
set_option maxHeartbeats 0 in
theorem PySem.Challenge.cw_wordrooms_k02_words_written_holds : PySem.Challenge.rw_wordrooms_k02_words_written.Holds := by
  w_on; o_law
  refine HandSHeadRun.head_any (r := Wr.R) (q := view Wr.R.prog [17]) (H := Wr.hk) (ob := Wr.ob) (M := 4000) (loose := Wr.loose) (d := HandSHeadRun.topDef Wr.R.prog 17) (kwd := []) Wr.ob_eq
    (by kernel_rfl) (fun s => by kernel_rfl) Wr.run (by kernel_rfl) (by kernel_rfl) (by kernel_rfl) (by rfl) (by first | assumption | decide +kernel) (by decide +kernel) ⟨rfl, rfl, rfl, rfl, rfl, by decide +kernel⟩ ?hw ?hc
  case hw => w_witness2
  case hc =>
    refine L2.walk_ofE (l := PySem.Challenge.rw_wordrooms_k02_words_written) (n := 63) (k := 5) (x := "_law_script") (CX := L2.CX0) rfl (by decide) (by kernel_rfl) ⟨rfl, by decide, by decide⟩ ?F (fun _ _ _ _ z => z)
    intro w mg fa h Y G hmg0
    obtain ⟨K, KX, c⟩ := Y
    have hmg : mg ("law" : PySem.Str) = some (.ref fa) := by
      have e : (HandSHeadRun.topDef Wr.R.prog 17).name = ("law" : PySem.Str) := by kernel_rfl
      rw [← e]
      exact hmg0
    exact Wr.law_end (P := (PySem.Challenge.rw_wordrooms_k02_words_written).prog) (w := w) (Wr.facts KX G c) KX hmg
