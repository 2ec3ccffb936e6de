import PyProof.Rows.All
import Wide.All
import OpenK.AllK
import Wide.FinOn
import HandS.ForMost
import HandS.IsInst
import HandS.Deep
import HandS.RaiseMore
import HandS.Style
import KE.DatumIndex
import HandS.ForExc
import HandS.ExcIs

import KE.GoesMore
import PySem.Challenge.RW_besidesay_k13_texts_that_are_none
set_option Elab.async false
set_option linter.all false
set_option maxRecDepth 100000
namespace B
open PySem PySem.Spec L2

/-! ### heaps that only grow -/
theorem same_tup {K : PySem.W.Frag} {H H' : Hp} {a : Addr} {xs : List V} (e : Same H H') (h : SqT K H a xs) : SqT K H' a xs := by
  rcases h with (h | ⟨o, h⟩) | h
  · exact .inl (.inl (e _ _ h))
  · exact .inl (.inr ⟨o, e _ _ h⟩)
  · exact .inr h
theorem same_at {H H' : Hp} {a : Addr} {o : HO} (e : Same H H') (h : H a = some o) : H' a = some o := e _ _ h
mutual
theorem same_dp {K : PySem.W.Frag} {H H' : Hp} (e : Same H H') : ∀ {v : V} {d : PyData}, Dp K H v d → Dp K H' v d
  | _, _, .non => .non
  | _, _, .bl b => .bl b
  | _, _, .int i => .int i
  | _, _, .str x => .str x
  | _, _, .lst h t => .lst (e.seq h) (same_dps e t)
  | _, _, .tup h t => .tup (same_tup e h) (same_dps e t)
theorem same_dps {K : PySem.W.Frag} {H H' : Hp} (e : Same H H') : ∀ {vs : List V} {ds : List PyData}, DpAll K H vs ds → DpAll K H' vs ds
  | _, _, .nil => .nil
  | _, _, .cons h t => .cons (same_dp e h) (same_dps e t)
end
theorem same_new {H : Hp} {p : Addr} {o : HO} (h : H p = none) : Same H (upd H p o) := fun b x e => by
  rw [upd_ne (ne_of_none e h)]
  exact e
/-- the heap without what stands at l -/
def hide (l : Addr) (H : Hp) : Hp := fun b => if b = l then none else H b
theorem hide_self (l : Addr) (H : Hp) : hide l H l = none := by unfold hide; rw [if_pos rfl]
theorem hide_ne {l b : Addr} {H : Hp} (h : b ≠ l) : hide l H b = H b := by unfold hide; rw [if_neg h]
theorem same_hide (l : Addr) (H : Hp) : Same (hide l H) H := fun b x e => by
  by_cases h : b = l
  · subst h; rw [hide_self] at e; cases e
  · rw [hide_ne h] at e; exact e
theorem hide_mono {l : Addr} {H H' : Hp} (s : Same H H') : Same (hide l H) (hide l H') := fun b x e => by
  by_cases h : b = l
  · subst h; rw [hide_self] at e; cases e
  · rw [hide_ne h] at e ⊢; exact s _ _ e
theorem hide_upd {l : Addr} {H : Hp} {o : HO} : Same (hide l H) (hide l (upd H l o)) := fun b x e => by
  by_cases h : b = l
  · subst h; rw [hide_self] at e; cases e
  · rw [hide_ne h] at e ⊢; rw [upd_ne h]; exact e
theorem same_to_hide {l : Addr} {H H' : Hp} (n : H l = none) (s : Same H H') : Same H (hide l H') := fun b x e => by
  have h : b ≠ l := ne_of_none e n
  rw [hide_ne h]; exact s _ _ e
theorem hide_none {l b : Addr} {H : Hp} (h : H b = none) : hide l H b = none := by
  unfold hide; split
  · rfl
  · exact h

/-! ### what the top leaves -/
structure Fn (K : PySem.W.Frag) (mg : Str → Option Value) (name : Str) (st : Stmt) (ps : List Str) where
  f : Addr
  fd : FuncData
  F : Fun K name name st f fd
  g : mg name = some (.ref f)
  b : Binds K fd ps []
/-- a whole number or a text of the module -/
structure Cn (mg : Str → Option Value) (name : Str) (v : V) where
  u : Value
  g : mg name = some u
  r : RelV v u
/-- a tuple of the module -/
structure CnT (K : PySem.W.Frag) (mg : Str → Option Value) (name : Str) (xs : List V) where
  a : Addr
  u : Value
  g : mg name = some u
  r : RelV (.ref a) u
  t : ∀ H, SqT K H a xs

theorem hu65_of {A : Around} {k : Nat} (hr : Room k A) : A.units + 65 < cLine := by have := hr.un; omega

/-! ### rules for operations on more than one kind of things -/
section
variable {X : Cx}
def rAddU : R2 := fun x y H Q => rI0 (fun i j => .int (i + j)) x y H Q ∨ (fun x y H Q => ∃ i j, x = .str i ∧ y = .str j ∧ i.length + j.length ≤ sizeLine ∧ Q (.str (i ++ j)) H) x y H Q ∨ rCat x y H Q
theorem uAdd : OpR X (binaryOp .Add) rAddU := op_add.or (op_add_str.or op_cat)
theorem uMul : OpR X (binaryOp .Mult) (rI CMul fun i j => .int (i * j)) := op_mul
def rEqU (K : PySem.W.Frag) : R2 := fun x y H Q => rEq x y H Q ∨ rEqD K x y H Q
def rNeU (K : PySem.W.Frag) : R2 := fun x y H Q => rNe x y H Q ∨ rNeD K x y H Q
theorem uEq (hu : X.A.units + 64 < cLine) : OpR X (compareOp .Eq) (rEqU X.K) := op_eq.or (op_eqD hu)
theorem uNe (hu : X.A.units + 64 < cLine) : OpR X (compareOp .NotEq) (rNeU X.K) := op_ne.or (op_neD hu)
def rInStr : R2 := fun x y H Q => ∃ (c : Nat) (z : Str), x = .str ⟨#[c]⟩ ∧ y = .str z ∧ Q (.bl (decide (c ∈ z.cps.toList))) H
def rNotInStr : R2 := fun x y H Q => ∃ (c : Nat) (z : Str), x = .str ⟨#[c]⟩ ∧ y = .str z ∧ Q (.bl (!decide (c ∈ z.cps.toList))) H
def rInU (K : PySem.W.Frag) : R2 := fun x y H Q => rIn K false x y H Q ∨ rInD K x y H Q ∨ rInStr x y H Q
def rNotInU (K : PySem.W.Frag) : R2 := fun x y H Q => rIn K true x y H Q ∨ rNotInD K x y H Q ∨ rNotInStr x y H Q
theorem uIn (hu : X.A.units + 65 < cLine) : OpR X (compareOp .In) (rInU X.K) := op_in_seq.or ((op_inD hu).or op_in_sign)
theorem uNotIn (hu : X.A.units + 65 < cLine) : OpR X (compareOp .NotIn) (rNotInU X.K) := op_notIn_seq.or ((op_notInD hu).or op_notIn_sign)
def rIsNU : R2 := fun x y H Q => y = .non ∧ Q (.bl (decide (x = .non))) H
theorem uIsN : OpR X (compareOp .Is) rIsNU := op_isN
def rNotNU : R2 := fun x y H Q => y = .non ∧ Q (.bl (!decide (x = .non))) H
theorem uNotN : OpR X (compareOp .IsNot) rNotNU := op_notN
def rSlU (K : PySem.W.Frag) : V → Option Int → Option Int → Hp → VK → Prop := fun x lo hi H Q => rSlL K x lo hi H Q ∨ rSlT K x lo hi H Q ∨ rSlS x lo hi H Q
theorem uSl : SlR X (rSlU X.K) := sl_list.or (sl_tup.or sl_str)
theorem CallR.or {f : Value} {r r' : List V → Hp → VK → Prop} (h : CallR X f r) (h' : CallR X f r') : CallR X f (fun xs H Q => r xs H Q ∨ r' xs H Q) := by
  intro pins s σ H xs us Q I rs q
  rcases q with q | q
  · exact h pins s σ H xs us Q I rs q
  · exact h' pins s σ H xs us Q I rs q
def rStrU : List V → Hp → VK → Prop := fun xs H Q => (∃ i, xs = [.int i] ∧ i.natAbs.log2 < 1920 ∧ Q (.str (toString i)) H) ∨ ∃ a, xs = [.str a] ∧ Q (.str a) H
theorem uStr : CallR X (.type "str") rStrU := CallR.or call_str_int SkE.call_str_str
def rInt1 : List V → Hp → VK → Prop := fun xs H Q => (∃ i, xs = [.int i] ∧ Q (.int i) H) ∨ ∃ k, xs = [.bl k] ∧ Q (.int (if k then 1 else 0)) H
def rIntU : List V → Hp → VK → Prop := fun xs H Q => rInt1 xs H Q ∨ ∃ a n, xs = [.str a] ∧ PySem.intText? a = some n ∧ a.length ≤ 640 ∧ Q (.int n) H
theorem uInt : CallR X (.type "int") rIntU := CallR.or call_int1 call_int_str
def rLenU (K : PySem.W.Frag) : List V → Hp → VK → Prop := fun xs H Q => (∃ x n, xs = [x] ∧ LenV K x H n ∧ Q (.int n) H) ∨ ∃ d kvs, xs = [.ref d] ∧ H d = some (.dK kvs) ∧ Q (.int kvs.length) H
theorem uLen : CallR X (.builtin "len") (rLenU X.K) := by
  refine CallR.or call_len ?_
  intro pins s σ H xs us Q I rs q
  obtain ⟨d, kvs, e, h, q⟩ := q
  exact call_lenD pins s σ H xs us Q I rs ⟨d, kvs, e, h, q⟩
/-- t.index(x) of data at any depth -/
def rIndexTD (K : PySem.W.Frag) : V → List V → Hp → VK → Prop := fun x xs H Q => ∃ (a : Addr) (y : V) (d : PyData) (ds : List PyData), x = V.ref a ∧ xs = [y] ∧ Dp K H (V.ref a) (.tuple ds) ∧ Dp K H y d ∧
  SeqAt.shaped (.tuple ds) = true ∧ SeqAt.shaped d = true ∧ true ∈ ds.map (fun z => PyData.eqv z d) ∧ Q (.int ((ds.map fun z => PyData.eqv z d).idxOf true : Nat)) H
theorem mt_indexTD (hu : X.A.units + 65 < cLine) : MtR X "tuple.index" (rIndexTD X.K) := by
  intro pins s σ H x xs v us Q I rx rxs h
  obtain ⟨a, y, d, ds, rfl, rfl, hl, hy, sl, sd, hm, q⟩ := h
  cases rx
  cases rxs with
  | cons ry rt =>
    rename_i uy ut
    cases rt
    obtain ⟨bs, r1⟩ := Dp.reads I d y uy hy ry
    have hxs : PyData.canLayAll0 ds = true := SeqAt.canLay_of_shaped sl
    have hroom : X.A.units + 1 + min (PyData.depthAll ds) d.depth < cLine := PyProof.Rows.room_in_shaped sd hu
    cases hl with
    | tup hs ha =>
      obtain ⟨its, rv, ht, hlen⟩ := I.tuple hs
      obtain ⟨as, h4⟩ := Dp.readsAll I ds _ its ha rv
      have hn : its.length = ds.length := SeqAt.ReadsAll.length ds its as h4
      have hmap : its.map (SeqAt.readOf s.heap) = ds := SeqAt.readsAll_map ds its as hxs h4
      refine SeqAt.call_tuple_index (k := true) ht ⟨?_, fun j h1 h2 => ?_⟩ hm ⟨.int _, H, I.tok _, ⟨_, rfl⟩, q⟩
      · rw [List.length_map]; exact hn
      · have hq := SeqAt.items_eqAt (vs := its.toArray) (show ReadsAll s.heap its.toArray.toList ds as from h4) r1 hxs (SeqAt.canLay_of_shaped sd) hroom its[j] (by simp)
        have hjd : j < ds.length := by omega
        have e1 : SeqAt.readOf s.heap its[j] = ds[j] := by
          have : (its.map (SeqAt.readOf s.heap))[j]? = ds[j]? := by rw [hmap]
          rw [List.getElem?_map, List.getElem?_eq_getElem h1, List.getElem?_eq_getElem hjd] at this
          exact Option.some.inj this
        rw [e1] at hq
        rw [List.getElem_map]
        have e3 : PyData.eqv ds[j] d = decide (PyData.eqv ds[j] d = true) := by cases PyData.eqv ds[j] d <;> rfl
        exact e3 ▸ hq
end

/-- a new object: o -/
def Al (o : HO) (H : Hp) (Q : VK) : Prop := ∀ p, H p = none → Q (.ref p) (upd H p o)
section
variable {X : Cx}
def rPartU : V → List V → Hp → VK → Prop := fun x xs H Q => ∃ a b, x = .str a ∧ xs = [.str b] ∧ (b.length == 0) = false ∧ a.length ≤ sizeLine ∧ Al (.tup [.str (Txt.partition a b).1, .str (Txt.partition a b).2.1, .str (Txt.partition a b).2.2]) H Q
theorem mt_partU : MtR X "str.partition" rPartU := mt_partition
def rStartsU : V → List V → Hp → VK → Prop := fun x xs H Q => ∃ a b, x = .str a ∧ xs = [.str b] ∧ Q (.bl (Txt.startswith a b)) H
theorem mt_startsU : MtR X "str.startswith" rStartsU := mt_startswith
def rJoinU (K : PySem.W.Frag) : V → List V → Hp → VK → Prop := fun x xs H Q => ∃ a p, ∃ ys : List Str, x = .str a ∧ xs = [.ref p] ∧ (SqL K H p (ys.map V.str) ∨ SqT K H p (ys.map V.str)) ∧ (ys.map (·.length)).sum + ys.length * a.length ≤ 16777216 ∧ Q (.str (Txt.join a ys)) H
theorem mt_joinU : MtR X "str.join" (rJoinU X.K) := mt_join
theorem mt_appendU : MtR X "list.append" rAppend := mt_append
end

/-! ### rules whose reading names the written part by a letter of one's own (within comprehensions too) -/
section
variable {X : Cx} {tg o e e2 l : Expr} {es : List Expr} {te tl to : TE} {ta t : TA} {pos p tpos apos cpos : Pos} (K : PySem.W.Frag) (hK : X.K = K)
include hK
theorem pi_listK (hl : PE X l tl) : PI X tg l (iList K tl) := by subst hK; exact pi_list hl
theorem pi_tupK (hl : PE X l tl) : PI X tg l (iTup K tl) := by subst hK; exact pi_tup hl
theorem pg_tupK {es : List Expr} {k : Nat} {t : TGs} {n : Nat} (hc : X.calm = true) (h : PGs X es t)
    (hn : (assignEach es X.env).length = n := by rfl) (hst : (assignEach es X.env).findIdx? (·.1) = none := by rfl) : PG X (.Tuple es k pos) (gTup K n t) := by
  subst hK; exact pg_tup hc h hn hst
theorem pi_enumK {elts : List Expr} {kk : Nat} (hg : Gl X "enumerate") (hm : X.mg "enumerate" = none) (ha : PA X [e] ta) (hs : starEach [e] X.env = [(false, eval e X.env)] := by rfl) :
    PI X (.Tuple elts kk tpos) (.Call (.Name "enumerate" p) [e] [] pos) (iEnum K ta) := by subst hK; exact pi_enum hg hm ha hs
theorem pi_zipK {elts : List Expr} {kk : Nat} (hg : Gl X "zip") (hm : X.mg "zip" = none) (ha : PA X [e, e2] ta)
    (hs : starEach [e, e2] X.env = (false, eval e X.env) :: starEach [e2] X.env := by rfl) (hpl : (backTo pos (starEach [e2] X.env)).any (·.1) = false := by rfl) :
    PI X (.Tuple elts kk tpos) (.Call (.Name "zip" p) [e, e2] [] pos) (iZip K ta) := by subst hK; exact pi_zip hg hm ha hs hpl
theorem pe_bm0K {name : Str} {T id : String} {r : V → List V → Hp → VK → Prop} (pa : PlainAttrs T) (slot : Slot T name id) (hty : typeOf (.builtin id) = pure (.type "method_descriptor")) (hm : MtR X id r) (ho : PE X o to)
    (hbase : attributeBase o name X.env (eval o X.env) = eval o X.env := by rfl) (hline : (apos.endLine == cpos.line) = true := by rfl) : PE X (.Call (.Attribute o name apos) [] [] cpos) (tBM0 K T r to) := by
  subst hK; exact pe_bm0 pa slot hty hm ho hbase hline
theorem pe_bmK {name : Str} {T id : String} {r : V → List V → Hp → VK → Prop} (pa : PlainAttrs T) (slot : Slot T name id) (hty : typeOf (.builtin id) = pure (.type "method_descriptor")) (hm : MtR X id r) (ho : PE X o to) (ha : PA X (e :: es) t)
    (hbase : attributeBase o name X.env (eval o X.env) = eval o X.env := by rfl)
    (hfew : ((backTo cpos (starEach (e :: es) X.env)).all (fun x => !x.1) && (backToKw cpos (keywordEach [] X.env)).all (fun x => x.1.isSome)
      && decide ((e :: es).length + ([] : List Keyword).length + (if ([] : List Keyword).isEmpty then 0 else 1) < 30)) = true := by rfl)
    (hline : (apos.endLine == cpos.line) = true := by rfl) (hs : starEach (e :: es) X.env = (false, eval e X.env) :: starEach es X.env := by rfl) (hplain : (backTo cpos (starEach es X.env)).any (·.1) = false := by rfl) :
    PE X (.Call (.Attribute o name apos) (e :: es) [] cpos) (tBM K T r to t) := by
  subst hK; exact pe_bm pa slot hty hm ho ha hbase hfew hline hs hplain
theorem pt_truthK {a : Expr} {ta : TE} (ha : PE X a ta) (he : ∀ whole, isTrue a X.env whole = (do let v ← whole; standAt a.pos; holding [v] (truthy v))) : PT X a (fun σ H Q => ta σ H fun x H' => ∃ k, TruV K x H' k ∧ Q k H') := by
  subst hK; exact pt_truth ha he
end

/-! ### the readings, step by step -/
section
variable {σ : St} {H : Hp} {Q : VK} {D : Ends} {K : PySem.W.Frag}
theorem j_al {o : HO} (q : ∀ p H2, H p = none → Same H H2 → H2 p = some o → Q (.ref p) H2) : Al o H Q := fun p n => q p _ n (same_new n) upd_same
theorem j_var {i : Nat} {v : V} (h : σ[i]? = some (some v)) (q : Q v H) : tVar i σ H Q := ⟨v, h, q⟩
theorem j_C {v : V} (q : Q v H) : tC v σ H Q := q
theorem j_op {r : R2} {ta tb : TE} (q : ta σ H fun x H1 => tb σ H1 fun y H2 => r x y H2 Q) : tOp r ta tb σ H Q := q
theorem j_un {r : V → Hp → VK → Prop} {ta : TE} (q : ta σ H fun x H1 => r x H1 Q) : tUn r ta σ H Q := q
theorem j_neg {i : Int} (q : Q (.int (-i)) H) : rU (fun i => .int (-i)) (.int i) H Q := ⟨i, rfl, q⟩
theorem j_test {t : TE} {Q : Bool → Hp → Prop} (q : t σ H fun x H' => ∃ k, x = .bl k ∧ Q k H') : tTest t σ H Q := q
theorem j_tB {t : TE} {Q : Bool → Hp → Prop} (q : t σ H fun x H' => ∃ k, x = .bl k ∧ Q k H') : tB t σ H Q := q
theorem j_bl {k : Bool} {P : Bool → Prop} (q : P k) : ∃ k', V.bl k = .bl k' ∧ P k' := ⟨k, rfl, q⟩
theorem j_and {t u : TT} {Q : Bool → Hp → Prop} (q : t σ H fun c H1 => if c = true then u σ H1 Q else Q false H1) : tAnd t u σ H Q := q
theorem j_or {t u : TT} {Q : Bool → Hp → Prop} (q : t σ H fun c H1 => if c = true then Q true H1 else u σ H1 Q) : tOr t u σ H Q := q
theorem j_not {t : TT} {Q : Bool → Hp → Prop} (q : t σ H fun c H1 => Q (!c) H1) : tNot t σ H Q := q
theorem j_andV {ta tb : TE} (q : ta σ H fun x H1 => ∃ c, x = .bl c ∧ if c = true then tb σ H1 Q else Q (.bl false) H1) : tAndV ta tb σ H Q := q
theorem j_orV {ta tb : TE} (q : ta σ H fun x H1 => ∃ c, x = .bl c ∧ if c = true then Q (.bl true) H1 else tb σ H1 Q) : tOrV ta tb σ H Q := q
theorem j_notV {ta : TE} (q : ta σ H fun x H1 => ∃ c, x = .bl c ∧ Q (.bl (!c)) H1) : tNotV ta σ H Q := q
theorem j_blV {k : Bool} {Q : Bool → Prop} (q : Q k) : ∃ c, V.bl k = .bl c ∧ Q c := ⟨k, rfl, q⟩
theorem j_if {t : TT} {ta tb : TE} (q : t σ H fun c H1 => if c = true then ta σ H1 Q else tb σ H1 Q) : tIf t ta tb σ H Q := q
theorem j_nil {Q : List V → Hp → Prop} (q : Q [] H) : tNil σ H Q := q
theorem j_cons {ta : TE} {tr : TA} {Q : List V → Hp → Prop} (q : ta σ H fun x H1 => tr σ H1 fun xs H2 => Q (x :: xs) H2) : tCons ta tr σ H Q := q
theorem j_tup {t : TA} (q : t σ H fun xs H1 => xs.length ≤ sizeLine ∧ Al (.tup xs) H1 Q) : tTup t σ H Q := q
theorem j_lst {t : TA} (q : t σ H fun xs H1 => xs.length ≤ sizeLine ∧ Al (.lst xs) H1 Q) : tLst t σ H Q := q
theorem j_call {sp : Sp} {dvs : List V} {E : XK} {t : TA} (q : t σ H fun vs H1 => sp (vs ++ dvs) H1 Q E) : tCall sp dvs E t σ H Q := q
theorem j_cb {r : List V → Hp → VK → Prop} {t : TA} (q : t σ H fun vs H1 => r vs H1 Q) : tCB r t σ H Q := q
theorem j_sl {r : V → Option Int → Option Int → Hp → VK → Prop} {te : TE} {tl th : TO} (q : te σ H fun x H1 => tl σ H1 fun l H2 => th σ H2 fun u H3 => r x l u H3 Q) : tSl r te tl th σ H Q := q
theorem j_part {te : TE} {Q : Option Int → Hp → Prop} (q : te σ H fun x H1 => ∃ i, x = .int i ∧ Q (some i) H1) : tPart te σ H Q := q
theorem j_int {i : Int} {P : Int → Prop} (q : P i) : ∃ j, V.int i = .int j ∧ P j := ⟨i, rfl, q⟩
theorem j_nopart {Q : Option Int → Hp → Prop} (q : Q none H) : tNoPart σ H Q := q
theorem j_m1 {r : V → List V → Hp → VK → Prop} {to te : TE} (q : to σ H fun x H1 => (∃ a, x = .str a) ∧ te σ H1 fun y H2 => r x [y] H2 Q) : tM1 r to te σ H Q := q
theorem j_m0 {r : V → List V → Hp → VK → Prop} {to : TE} (q : to σ H fun x H1 => (∃ a, x = .str a) ∧ r x [] H1 Q) : tM0 r to σ H Q := q
theorem j_strv {a : Str} {P : Prop} (q : P) : (∃ b, V.str a = .str b) ∧ P := ⟨⟨a, rfl⟩, q⟩
theorem j_bm {T : String} {r : V → List V → Hp → VK → Prop} {to : TE} {t : TA} (q : to σ H fun x H1 => tyV K T x H1 ∧ t σ H1 fun xs H2 => r x xs H2 Q) : tBM K T r to t σ H Q := q
theorem j_bm0 {T : String} {r : V → List V → Hp → VK → Prop} {to : TE} (q : to σ H fun x H1 => tyV K T x H1 ∧ r x [] H1 Q) : tBM0 K T r to σ H Q := q
theorem j_chain {r r' : R2} {ta tb tc : TE} (q : ta σ H fun x H1 => tb σ H1 fun y H2 => r x y H2 fun z H3 => ∃ k, z = .bl k ∧ (if k = true then tc σ H3 fun w' H4 => r' y w' H4 Q else Q (.bl false) H3)) : tChain r r' ta tb tc σ H Q := q
theorem j_ex1 {a : Str} {P : Str → Prop} (q : P a) : ∃ x, [V.str a] = [V.str x] ∧ P x := ⟨a, rfl, q⟩
theorem j_ex2 {a : Str} {P : Str → Prop} (q : P a) : ∃ x, V.str a = V.str x ∧ P x := ⟨a, rfl, q⟩
theorem j_ex3 {a : Addr} {P : Addr → Prop} (q : P a) : ∃ x, V.ref a = V.ref x ∧ P x := ⟨a, rfl, q⟩
theorem j_partit {a b : Str} (h0 : (b.length == 0) = false) (h : a.length ≤ sizeLine) (q : Al (.tup [.str (Txt.partition a b).1, .str (Txt.partition a b).2.1, .str (Txt.partition a b).2.2]) H Q) : rPartU (.str a) [.str b] H Q := ⟨a, b, rfl, rfl, h0, h, q⟩
theorem j_starts {a b : Str} (q : Q (.bl (Txt.startswith a b)) H) : rStartsU (.str a) [.str b] H Q := ⟨a, b, rfl, rfl, q⟩
theorem j_joinL {a : Str} {p : Addr} {xs : List V} (ys : List Str) (h : SqL K H p xs) (e : xs = ys.map V.str) (hs : (ys.map (·.length)).sum + ys.length * a.length ≤ 16777216) (q : Q (.str (Txt.join a ys)) H) : rJoinU K (.str a) [.ref p] H Q := ⟨a, p, ys, rfl, rfl, .inl (e ▸ h), hs, q⟩
theorem j_ifP {c A B : Prop} [Decidable c] (h : c) (q : A) : if c then A else B := by rw [if_pos h]; exact q
theorem j_ifN {c A B : Prop} [Decidable c] (h : ¬ c) (q : B) : if c then A else B := by rw [if_neg h]; exact q
-- statements
theorem j_seq {t u : TS} (q : t { D with nx := u D } σ H) : tSeq t u D σ H := q
theorem j_asg {te : TE} {g : TG} (q : te σ H fun x H1 => g x σ H1 D.nx) : tAsg te g D σ H := q
theorem j_drop {te : TE} (q : te σ H fun _ H1 => D.nx σ H1) : tDrop te D σ H := q
theorem j_ret {te : TE} (q : te σ H D.rt) : tRet te D σ H := q
theorem j_retN (q : D.rt .non H) : tRetN D σ H := q
theorem j_next (q : D.nx σ H) : tNext D σ H := q
theorem j_brk (q : D.bk σ H) : tBreak D σ H := q
theorem j_cont (q : D.ct σ H) : tCont D σ H := q
theorem j_ifS {c : TT} {t u : TS} (q : c σ H fun b H1 => if b = true then t D σ H1 else u D σ H1) : tIfS c t u D σ H := q
theorem j_gn {i : Nat} {v : V} {Q : St → Hp → Prop} {σ' : St} (e : σ.set i (some v) = σ') (q : Q σ' H) : gName i v σ H Q := by subst e; exact q
theorem j_gt {n : Nat} {t : TGs} {a : Addr} {xs : List V} {Q : St → Hp → Prop} (h : SqT K H a xs) (hl : xs.length = n) (q : t xs σ H Q) : gTup K n t (.ref a) σ H Q := ⟨a, xs, rfl, h, hl, q⟩
theorem j_gc {t : TG} {u : TGs} {v : V} {r : List V} {Q : St → Hp → Prop} (q : t v σ H fun σ' H' => u r σ' H' Q) : gCons t u (v :: r) σ H Q := ⟨v, r, rfl, q⟩
theorem j_g0 {Q : St → Hp → Prop} (q : Q σ H) : gNil [] σ H Q := ⟨rfl, q⟩
theorem j_gsub {to ti : TE} {t : TSet} {v : V} {Q : St → Hp → Prop} (q : to σ H fun o H1 => ti σ H1 fun i H2 => t o i v H2 fun H3 => Q σ H3) : gSub to ti t v σ H Q := q
-- operations by values
theorem j_add {i j : Int} (q : Q (.int (i + j)) H) : rAddU (.int i) (.int j) H Q := .inl ⟨i, j, rfl, rfl, q⟩
theorem j_addS {i j : Str} (h : i.length + j.length ≤ sizeLine) (q : Q (.str (i ++ j)) H) : rAddU (.str i) (.str j) H Q := .inr (.inl ⟨i, j, rfl, rfl, h, q⟩)
theorem j_addL {l b : Addr} {xs zs : List V} (h1 : H l = some (.lst xs)) (h2 : H b = some (.lst zs)) (h : xs.length + zs.length ≤ sizeLine) (q : Al (.lst (xs ++ zs)) H Q) : rAddU (.ref l) (.ref b) H Q := .inr (.inr ⟨l, b, xs, zs, rfl, rfl, h1, h2, h, q⟩)
theorem j_rI0 {g : Int → Int → V} {i j : Int} (q : Q (g i j) H) : rI0 g (.int i) (.int j) H Q := ⟨i, j, rfl, rfl, q⟩
theorem j_rI {C : Int → Int → Prop} {g : Int → Int → V} {i j : Int} (c : C i j) (q : Q (g i j) H) : rI C g (.int i) (.int j) H Q := ⟨i, j, rfl, rfl, c, q⟩
theorem j_mulL {g : Int → Int → V} {i j : Int} (h1 : -(2 ^ 64) < i) (h2 : i < 2 ^ 64) (q : Q (g i j) H) : rI CMul g (.int i) (.int j) H Q := ⟨i, j, rfl, rfl, .inl ⟨h1, h2⟩, q⟩
theorem j_mulR {g : Int → Int → V} {i j : Int} (h1 : -(2 ^ 64) < j) (h2 : j < 2 ^ 64) (q : Q (g i j) H) : rI CMul g (.int i) (.int j) H Q := ⟨i, j, rfl, rfl, .inr ⟨h1, h2⟩, q⟩
theorem j_eq {x y : V} (h : scal x y = true) (q : Q (.bl (decide (x = y))) H) : rEqU K x y H Q := .inl ⟨h, q⟩
theorem j_ne {x y : V} (h : scal x y = true) (q : Q (.bl (!decide (x = y))) H) : rNeU K x y H Q := .inl ⟨h, q⟩
theorem j_eqD {x y : V} {d e : PyData} (h1 : Dp K H x d) (h2 : Dp K H y e) (s1 : SeqAt.shaped d = true) (s2 : SeqAt.shaped e = true) (q : Q (.bl (PyData.eqv d e)) H) : rEqU K x y H Q := .inr ⟨d, e, h1, h2, s1, s2, q⟩
theorem j_neD {x y : V} {d e : PyData} (h1 : Dp K H x d) (h2 : Dp K H y e) (s1 : SeqAt.shaped d = true) (s2 : SeqAt.shaped e = true) (q : Q (.bl (!PyData.eqv d e)) H) : rNeU K x y H Q := .inr ⟨d, e, h1, h2, s1, s2, q⟩
theorem j_isN {x : V} (q : Q (.bl (decide (x = .non))) H) : rIsNU x .non H Q := ⟨rfl, q⟩
theorem j_notN {x : V} (q : Q (.bl (!decide (x = .non))) H) : rNotNU x .non H Q := ⟨rfl, q⟩
theorem j_ixL {p : Addr} {i : Int} {xs : List V} {v : V} (h : SqL K H p xs) (e : atI xs i = some v) (q : Q v H) : rIx K (.ref p) (.int i) H Q := .inl ⟨p, xs, i, v, rfl, rfl, h, e, q⟩
theorem j_ixT {p : Addr} {i : Int} {xs : List V} {v : V} (h : SqT K H p xs) (e : atI xs i = some v) (q : Q v H) : rIx K (.ref p) (.int i) H Q := .inr (.inl ⟨p, xs, i, v, rfl, rfl, h, e, q⟩)
theorem j_ixS {z : Str} {i : Int} {c : Nat} (h : z.length ≤ sizeLine) (e : atI z.cps.toList i = some c) (q : Q (.str ⟨#[c]⟩) H) : rIx K (.str z) (.int i) H Q := .inr (.inr ⟨z, i, c, rfl, rfl, h, e, q⟩)
theorem j_setL {p : Addr} {k : Int} {v : V} {xs : List V} {j : Nat} {Q : Hp → Prop} (h : H p = some (.lst xs)) (e : ixN xs.length k = some j) (q : ∀ H2, Same (hide p H) (hide p H2) → H2 p = some (.lst (xs.set j v)) → Q H2) : rSetL (.ref p) (.int k) v H Q := ⟨p, xs, k, j, rfl, rfl, h, e, q _ hide_upd upd_same⟩
theorem j_app {l : Addr} {xs : List V} {y : V} (h : H l = some (.lst xs)) (hz : xs.length < sizeLine) (q : ∀ H2, Same (hide l H) (hide l H2) → H2 l = some (.lst (xs ++ [y])) → Q .non H2) : rAppend (.ref l) [y] H Q := ⟨l, xs, y, rfl, rfl, h, hz, q _ hide_upd upd_same⟩
theorem j_inT {x : V} {p : Addr} {xs : List V} (h : SqT K H p xs) (fx : flatV x = true) (fs : xs.all flatV = true) (q : Q (.bl (inV x xs)) H) : rInU K x (.ref p) H Q := .inl ⟨p, xs, rfl, .inr h, fx, fs, q⟩
theorem j_inL {x : V} {p : Addr} {xs : List V} (h : SqL K H p xs) (fx : flatV x = true) (fs : xs.all flatV = true) (q : Q (.bl (inV x xs)) H) : rInU K x (.ref p) H Q := .inl ⟨p, xs, rfl, .inl h, fx, fs, q⟩
theorem j_ninT {x : V} {p : Addr} {xs : List V} (h : SqT K H p xs) (fx : flatV x = true) (fs : xs.all flatV = true) (q : Q (.bl (!inV x xs)) H) : rNotInU K x (.ref p) H Q := .inl ⟨p, xs, rfl, .inr h, fx, fs, q⟩
theorem j_ninL {x : V} {p : Addr} {xs : List V} (h : SqL K H p xs) (fx : flatV x = true) (fs : xs.all flatV = true) (q : Q (.bl (!inV x xs)) H) : rNotInU K x (.ref p) H Q := .inl ⟨p, xs, rfl, .inl h, fx, fs, q⟩
theorem j_ninS {c : Nat} {z : Str} (q : Q (.bl (!decide (c ∈ z.cps.toList))) H) : rNotInU K (.str ⟨#[c]⟩) (.str z) H Q := .inr (.inr ⟨c, z, rfl, rfl, q⟩)
theorem j_inS {c : Nat} {z : Str} (q : Q (.bl (decide (c ∈ z.cps.toList))) H) : rInU K (.str ⟨#[c]⟩) (.str z) H Q := .inr (.inr ⟨c, z, rfl, rfl, q⟩)
theorem j_slL {a : Addr} {xs : List V} {lo hi : Option Int} (h : SqL K H a xs) (q : Al (.lst (cutV xs lo hi)) H Q) : rSlU K (.ref a) lo hi H Q := .inl ⟨a, xs, rfl, h, q⟩
theorem j_slT {a : Addr} {xs : List V} {lo hi : Option Int} (h : SqT K H a xs) (hn : ¬ (HT.sIx xs.length 0 lo = 0 ∧ HT.sIx xs.length xs.length hi = xs.length)) (q : Al (.tup (cutV xs lo hi)) H Q) : rSlU K (.ref a) lo hi H Q := .inr (.inl ⟨a, xs, rfl, h, hn, q⟩)
theorem j_slS {z : Str} {lo hi : Option Int} (h : z.length ≤ sizeLine) (q : Q (.str (cutS z lo hi)) H) : rSlU K (.str z) lo hi H Q := .inr (.inr ⟨z, rfl, h, q⟩)
theorem j_strI {i : Int} (h : i.natAbs.log2 < 1920) (q : Q (.str (toString i)) H) : rStrU [.int i] H Q := .inl ⟨i, rfl, h, q⟩
theorem j_strS {a : Str} (q : Q (.str a) H) : rStrU [.str a] H Q := .inr ⟨a, rfl, q⟩
theorem j_intI {i : Int} (q : Q (.int i) H) : rIntU [.int i] H Q := .inl (.inl ⟨i, rfl, q⟩)
theorem j_intB {k : Bool} (q : Q (.int (if k then 1 else 0)) H) : rIntU [.bl k] H Q := .inl (.inr ⟨k, rfl, q⟩)
theorem j_intS {a : Str} {n : Int} (h : PySem.intText? a = some n) (hl : a.length ≤ 640) (q : Q (.int n) H) : rIntU [.str a] H Q := .inr ⟨a, n, rfl, h, hl, q⟩
theorem j_lenL {a : Addr} {xs : List V} (h : SqL K H a xs) (q : Q (.int xs.length) H) : rLenU K [.ref a] H Q := .inl ⟨.ref a, xs.length, rfl, .inl ⟨xs, h, rfl⟩, q⟩
theorem j_lenT {a : Addr} {xs : List V} (h : SqT K H a xs) (q : Q (.int xs.length) H) : rLenU K [.ref a] H Q := .inl ⟨.ref a, xs.length, rfl, .inr ⟨xs, h, rfl⟩, q⟩
theorem j_lenS {z : Str} (h : z.length ≤ sizeLine) (q : Q (.int z.length) H) : rLenU K [.str z] H Q := .inl ⟨.str z, z.length, rfl, ⟨h, rfl⟩, q⟩
theorem j_lenD {d : Addr} {kvs : List (Key × V)} (h : H d = some (.dK kvs)) (q : Q (.int kvs.length) H) : rLenU K [.ref d] H Q := .inr ⟨d, kvs, rfl, h, q⟩
theorem j_isi {x c : V} {t u : Value} {b : Bool} (h1 : ClsV c u) (h2 : TyX K H x t) (h3 : PySem.W.kitOne K t u = some b) (q : Q (.bl b) H) : rIsi K [x, c] H Q := ⟨x, c, t, u, b, rfl, h1, h2, h3, q⟩
end
theorem inV_str (x : Str) : ∀ l : List Str, inV (.str x) (l.map V.str) = decide (x ∈ l)
  | [] => rfl
  | y :: l => by
    have ih := inV_str x l
    unfold inV at ih ⊢
    rw [List.map_cons, List.any_cons, ih]
    show ((y == x) || _) = _
    by_cases h : y = x
    · subst h; simp
    · have h1 : (y == x) = false := beq_eq_false_iff_ne.mpr h
      have h2 : ¬ x = y := fun z => h z.symm
      rw [h1, Bool.false_or]
      simp [h2]
theorem flat_strs : ∀ l : List Str, (l.map V.str).all flatV = true
  | [] => rfl
  | _ :: l => by rw [List.map_cons, List.all_cons, flat_strs l]; rfl
section
variable {H : Hp} {Q : VK} {K : PySem.W.Frag}
theorem j_inTS {x : Str} {p : Addr} {xs : List V} (l : List Str) (h : SqT K H p xs) (e : xs = l.map V.str) (q : Q (.bl (decide (x ∈ l))) H) : rInU K (.str x) (.ref p) H Q := by
  subst e
  rw [← inV_str] at q
  exact j_inT h rfl (flat_strs l) q
theorem j_inLS {x : Str} {p : Addr} {xs : List V} (l : List Str) (h : SqL K H p xs) (e : xs = l.map V.str) (q : Q (.bl (decide (x ∈ l))) H) : rInU K (.str x) (.ref p) H Q := by
  subst e
  rw [← inV_str] at q
  exact j_inL h rfl (flat_strs l) q
theorem j_ninTS {x : Str} {p : Addr} {xs : List V} (l : List Str) (h : SqT K H p xs) (e : xs = l.map V.str) (q : Q (.bl (!decide (x ∈ l))) H) : rNotInU K (.str x) (.ref p) H Q := by
  subst e
  rw [← inV_str] at q
  exact j_ninT h rfl (flat_strs l) q
theorem j_ninLS {x : Str} {p : Addr} {xs : List V} (l : List Str) (h : SqL K H p xs) (e : xs = l.map V.str) (q : Q (.bl (!decide (x ∈ l))) H) : rNotInU K (.str x) (.ref p) H Q := by
  subst e
  rw [← inV_str] at q
  exact j_ninL h rfl (flat_strs l) q
end
end B

namespace B
open PySem PySem.Spec L2
/-! ### for i, c in enumerate(text) -/
section
open PySem PySem.Spec PyProof.Rows
/-- the text's signs, each in a new pair -/
def Ites (x : Str) : It := ⟨fun i _ => i < x.cps.size, fun i H v H' => ∃ T c, v = .ref T ∧ H T = none ∧ H' = upd H T (.tup [.int (i : Nat), .str ⟨#[c]⟩]) ∧ x.cps[i]? = some c, fun i _ => x.cps.size ≤ i⟩
theorem turn_enumS {P : Program} {w : World} {K : PySem.W.Frag} {elts : List Expr} {kk : Nat} {tpos : PySem.Pos} (e it : Addr) (x : Str) (t : Tok) :
    Turn P w K (.Tuple elts kk tpos) (Ites x) [e, it] e (fun i h => (∃ old, IsEnum h e it ((i : Nat) : Int) old) ∧ h.IsStrIter it (PySem.strIterType x) x t i ∧ e ≠ it ∧ i ≤ x.cps.size) where
  mem := by simp
  obj := fun i h st b hb => by
    obtain ⟨⟨old, he⟩, ⟨o, ho, hc, hd⟩, _⟩ := st
    have e' : b = e ∨ b = it := by simpa using hb
    rcases e' with z | z
    · rw [z]; exact ⟨_, he, fun v q => nomatch q⟩
    · rw [z]; exact ⟨o, ho, fun v q => by rw [hd] at q; cases q⟩
  keep := fun i h h' st k => by
    obtain ⟨⟨old, he⟩, ⟨o, ho, hr⟩, hne, hi⟩ := st
    exact ⟨⟨old, k e (by simp) _ he⟩, ⟨o, k it (by simp) o ho, hr⟩, hne, hi⟩
  item := by
    intro X hP hw hK hc i pins s σ H E I hf st hg
    subst hP hw hK
    obtain ⟨⟨old, he⟩, hit, hne, hi⟩ := st
    have hel : e < s.heap.objs.size := Heap.lt_size he
    have hil : it < s.heap.objs.size := by obtain ⟨_, q, _⟩ := hit; exact Heap.lt_size q
    have D := Draws.text (prog := X.prog) (w := X.w) (A := X.A.in1) (I.ok.hd hc) it x t
    refine wpAny_pyNext_enum_itemD D he hit hg hne (by simpa using hne) fun u h' tk hP ho hit' hT hsz hk => ?_
    refine ⟨_, rfl, wpAny_letOwnedTupleGo_enum (s := { s with heap := h', toks := tk + 1 }) ho fun h'' he' sb => ?_⟩
    obtain ⟨c, tc, hcx, rfl⟩ := hP
    have hT2 : h''.get? s.heap.objs.size = some { cls := .type "tuple", data := .seq #[.int i tk, .str ⟨#[c]⟩ tc] } := (sb.2 _ (Nat.ne_of_gt hel)).trans hT
    have new : ObjOk X.prog X.w (upd H s.heap.objs.size (.tup [.int (i : Nat), .str ⟨#[c]⟩])) h'' s.heap.objs.size (.tup [.int (i : Nat), .str ⟨#[c]⟩]) :=
      ⟨by show 2 ≤ sizeLine; decide, [.int i tk, .str ⟨#[c]⟩ tc], .cons ⟨_, rfl⟩ (.cons ⟨_, rfl⟩ .nil), ⟨_, hT2, rfl, _, rfl⟩⟩
    have I1 : Inv X pins σ (upd H s.heap.objs.size (.tup [.int (i : Nat), .str ⟨#[c]⟩])) { s with heap := h'', toks := tk + 1 } :=
      I.turnedNew (ch := [e, it]) (fun b ob hb q => (sb.2 b (fun z => hb (by simp [z]))).trans (hk b ob (fun z => hb (by simp [z])) (fun z => hb (by simp [z])) q)) hf (Nat.le_refl _) new
    refine ⟨.ref s.heap.objs.size, _, I1, rfl, ⟨_, c, rfl, I.hok.fresh (Nat.le_refl _), rfl, hcx⟩, ⟨⟨Value.str ⟨#[c]⟩ tc, ?_⟩, ?_, hne, hg⟩, fun b hb => ?_⟩
    · have e1 : ((i + 1 : Nat) : Int) = (i : Int) + 1 := by omega
      rw [e1]; exact he'
    · obtain ⟨o, ho', hr⟩ := hit'
      exact ⟨o, (sb.2 it (Ne.symm hne)).trans ho', hr⟩
    · have hb' : b < s.heap.objs.size := by
        have e' : b = e ∨ b = it := by simpa using hb
        rcases e' with z | z
        · rw [z]; exact hel
        · rw [z]; exact hil
      rw [upd_ne (Nat.ne_of_lt hb')]
      exact (hf b hb).1
  done := by
    intro X hP hw hK hc i pins s σ H E I hf st hg
    subst hP hw hK
    obtain ⟨⟨old, he⟩, hit, hne, hi⟩ := st
    have ei : i = x.cps.size := Nat.le_antisymm hi hg
    subst ei
    obtain ⟨f0, f1, f2, f3, f4, f5⟩ := hf it (by simp)
    have D := Draws.text (prog := X.prog) (w := X.w) (A := X.A.in1) (I.ok.hd hc) it x t
    exact wpAny_pyNext_enum_endD D he hit fun h' eb => ⟨rfl, I.turned (t' := s.toks) (fun b o hb q => eb b o hb q) f0 f1 f3 f4 f5⟩
  self := fun A i s Q E st h => let ⟨⟨_, he⟩, _⟩ := st; wpAny_pyIter_enum he h
def iEnumS (ta : TA) : TI := fun σ H R => ta σ H fun vs H1 => ∃ x, vs = [.str x] ∧ R (Ites x) H1
theorem pi_enumS {X : Cx} {e : Expr} {ta : TA} {p pos tpos : PySem.Pos} {elts : List Expr} {kk : Nat} (hg : Gl X "enumerate") (hm : X.mg "enumerate" = none) (ha : PA X [e] ta) (hs : starEach [e] X.env = [(false, eval e X.env)] := by rfl) :
    PI X (.Tuple elts kk tpos) (.Call (.Name "enumerate" p) [e] [] pos) (iEnumS ta) := by
  refine ⟨fun pins s σ H R I h => ?_⟩
  refine Call_ (ld_blt I hg hm boot_enumerate (PyProof.Rows.callWith_type1 (thn (ha.run pos pins s σ H _ I h) fun us s1 ⟨vs, H1, I1, r1, q1⟩ => ?_) hs rfl))
  obtain ⟨x, ex, q⟩ := q1
  subst ex
  cases r1 with
  | cons r rr =>
    cases rr
    obtain ⟨t, rfl⟩ := r
    refine call_enumerate_str fun h' he hit hsz hk => wpAny_pyIter_enum he ?_
    have I2 : Inv X pins σ H1 { s1 with heap := h' } := I1.kept (t' := s1.toks) hk
    refine ⟨s1.heap.objs.size + 1, [s1.heap.objs.size + 1, s1.heap.objs.size], _, _, H1, rfl, I2, turn_enumS (s1.heap.objs.size + 1) s1.heap.objs.size x t, ⟨⟨.none, he⟩, hit, Nat.succ_ne_self _, Nat.zero_le _⟩, fun b hb => ?_, q⟩
    have e' : b = s1.heap.objs.size + 1 ∨ b = s1.heap.objs.size := by simpa using hb
    have hle : s1.heap.objs.size ≤ b := by
      rcases e' with z | z
      · rw [z]; exact Nat.le_add_right _ _
      · rw [z]; exact Nat.le_refl _
    exact I1.fpOk hle (I1.hok.fresh hle)
/-- the signs with their places, one by one -/
theorem for_enumS {x : Str} {g : TG} {tb : TS} {D : Ends} {σ : L2.St} {H : Hp} (Pv : Nat → L2.St → Hp → Prop) (h0 : Pv 0 σ H)
    (hs : ∀ i c σ H T H2, x.cps[i]? = some c → Pv i σ H → H T = none → Same H H2 → H2 T = some (.tup [.int (i : Nat), .str ⟨#[c]⟩]) → g (.ref T) σ H2 fun σ2 H2 => tb { D with nx := Pv (i + 1), ct := Pv (i + 1), bk := D.nx } σ2 H2) (hd : ∀ σ H, Pv x.cps.size σ H → D.nx σ H) :
    ∃ W : Nat → Nat → L2.St → Hp → Prop, (∃ m, W 0 m σ H) ∧ ∀ i m σ H, W i m σ H →
      ((Ites x).stop i H ∧ D.nx σ H) ∨ ((Ites x).go i H ∧ ∃ N : L2.St → Hp → Prop, (∀ σ' H', N σ' H' → ∃ m', m' < m ∧ W (i + 1) m' σ' H') ∧ ∀ v H', (Ites x).yld i H v H' → g v σ H' fun σ2 H2 => tb { D with nx := N, ct := N, bk := D.nx } σ2 H2) := by
  refine ⟨fun i m σ H => m = x.cps.size - i ∧ i ≤ x.cps.size ∧ Pv i σ H, ⟨x.cps.size, by simp, Nat.zero_le _, h0⟩, ?_⟩
  rintro i m σ H ⟨rfl, hi, p⟩
  by_cases hlt : i < x.cps.size
  · refine .inr ⟨hlt, Pv (i + 1), fun σ' H' p' => ⟨x.cps.size - (i + 1), by omega, rfl, hlt, p'⟩, fun v H' y => ?_⟩
    obtain ⟨T, c, rfl, hT, rfl, hc⟩ := y
    exact hs i c σ H T _ hc p hT (same_new hT) upd_same
  · have e : i = x.cps.size := by omega
    subst e
    exact .inl ⟨Nat.le_refl _, hd σ H p⟩
end

/-! ### tuples never change -/
/-- all tuples of H stand in H' -/
structure TSm (H H' : Hp) : Prop where
  t : ∀ b xs, H b = some (.tup xs) → H' b = some (.tup xs)
  z : ∀ b o xs, H b = some (.frz o (.tup xs)) → H' b = some (.frz o (.tup xs))
theorem TSm.refl (H : Hp) : TSm H H := ⟨fun _ _ h => h, fun _ _ _ h => h⟩
theorem TSm.trans {H H1 H2 : Hp} (a : TSm H H1) (b : TSm H1 H2) : TSm H H2 := ⟨fun c o h => b.t c o (a.t c o h), fun c o u h => b.z c o u (a.z c o u h)⟩
theorem ts_same {H H' : Hp} (s : Same H H') : TSm H H' := ⟨fun b _ h => s b _ h, fun b _ _ h => s b _ h⟩
theorem ts_hide {l : Addr} {H : Hp} {xs : List V} (h : H l = some (.lst xs)) : TSm H (hide l H) := by
  refine ⟨fun b ys e => ?_, fun b o ys e => ?_⟩
  · have n : b ≠ l := fun z => by subst z; rw [h] at e; cases e
    rw [hide_ne n]; exact e
  · have n : b ≠ l := fun z => by subst z; rw [h] at e; cases e
    rw [hide_ne n]; exact e
theorem ts_mut {l : Addr} {H H2 : Hp} {xs : List V} (h : H l = some (.lst xs)) (s : Same (hide l H) (hide l H2)) : TSm H H2 := (ts_hide h).trans ((ts_same s).trans (ts_same (same_hide l H2)))
/-- a tuple, tracked or of the module -/
def TpK (K : PySem.W.Frag) (H : Hp) (a : Addr) (xs : List V) : Prop :=
  H a = some (.tup xs) ∨ (∃ o, H a = some (.frz o (.tup xs))) ∨ ∃ (o : Obj) (its : Array Value) (n : Nat), K.lookup a = some o ∧ o.cls = .type "tuple" ∧ o.data = .seq its n ∧ its.size ≤ sizeLine ∧ Vals xs its.toList
theorem TpK.sq {K : PySem.W.Frag} {H : Hp} {a : Addr} {xs : List V} (h : TpK K H a xs) : SqT K H a xs := by
  rcases h with h | h | h
  · exact .inl (.inl h)
  · exact .inl (.inr h)
  · exact .inr h
theorem ts_tp {K : PySem.W.Frag} {H H' : Hp} {a : Addr} {xs : List V} (s : TSm H H') (h : TpK K H a xs) : TpK K H' a xs := by
  rcases h with h | ⟨o, h⟩ | h
  · exact .inl (s.t _ _ h)
  · exact .inr (.inl ⟨o, s.z _ _ _ h⟩)
  · exact .inr (.inr h)
mutual
/-- data of tuples and flat things -/
inductive Dt (K : PySem.W.Frag) (H : Hp) : V → PyData → Prop
  | non : Dt K H .non .none
  | bl (b : Bool) : Dt K H (.bl b) (.bool b)
  | int (i : Int) : Dt K H (.int i) (.int i)
  | str (x : Str) : Dt K H (.str x) (.str x)
  | tup {a : Addr} {xs : List V} {ds : List PyData} : TpK K H a xs → DtAll K H xs ds → Dt K H (.ref a) (.tuple ds)
inductive DtAll (K : PySem.W.Frag) (H : Hp) : List V → List PyData → Prop
  | nil : DtAll K H [] []
  | cons {v : V} {vs : List V} {d : PyData} {ds : List PyData} : Dt K H v d → DtAll K H vs ds → DtAll K H (v :: vs) (d :: ds)
end
mutual
theorem ts_dt {K : PySem.W.Frag} {H H' : Hp} (s : TSm H H') : ∀ {v : V} {d : PyData}, Dt K H v d → Dt K H' v d
  | _, _, .non => .non
  | _, _, .bl b => .bl b
  | _, _, .int i => .int i
  | _, _, .str x => .str x
  | _, _, .tup h t => .tup (ts_tp s h) (ts_dts s t)
theorem ts_dts {K : PySem.W.Frag} {H H' : Hp} (s : TSm H H') : ∀ {vs : List V} {ds : List PyData}, DtAll K H vs ds → DtAll K H' vs ds
  | _, _, .nil => .nil
  | _, _, .cons h t => .cons (ts_dt s h) (ts_dts s t)
end
mutual
theorem Dt.dp {K : PySem.W.Frag} {H : Hp} : ∀ {v : V} {d : PyData}, Dt K H v d → Dp K H v d
  | _, _, .non => .non
  | _, _, .bl b => .bl b
  | _, _, .int i => .int i
  | _, _, .str x => .str x
  | _, _, .tup h t => .tup h.sq (DtAll.dp t)
theorem DtAll.dp {K : PySem.W.Frag} {H : Hp} : ∀ {vs : List V} {ds : List PyData}, DtAll K H vs ds → DpAll K H vs ds
  | _, _, .nil => .nil
  | _, _, .cons h t => .cons h.dp (DtAll.dp t)
end

/-! ### loops -/
def Fo (J : It) (g : TG) (tb : TS) (D : Ends) (σ : L2.St) (H1 : Hp) : Prop := ∃ W : Nat → Nat → L2.St → Hp → Prop, (∃ m, W 0 m σ H1) ∧ ∀ i m σ H, W i m σ H →
  (J.stop i H ∧ D.nx σ H) ∨ (J.go i H ∧ ∃ N : L2.St → Hp → Prop, (∀ σ' H', N σ' H' → ∃ m', m' < m ∧ W (i + 1) m' σ' H') ∧ ∀ x H', J.yld i H x H' → g x σ H' fun σ2 H2 => tb { D with nx := N, ct := N, bk := D.nx } σ2 H2)
def Lo (J : It) (g : TG) (tt : TT) (te : TE) (vs : List Nat) (σ : L2.St) (Dl : Addr) (Q : Hp → Prop) (H1 : Hp) : Prop := ∃ W : Nat → Nat → Hp → Prop, (∃ m, W 0 m (upd H1 Dl (.lst []))) ∧ ∀ i m H, W i m H →
  (J.stop i H ∧ Q H) ∨ (J.go i H ∧ ∃ Nx : Hp → Prop, (∀ H', Nx H' → ∃ m', m' < m ∧ W (i + 1) m' H') ∧ ∀ x H', J.yld i H x H' → g x (wipe σ vs) H' fun σ2 H2 => wipe σ2 vs = wipe σ vs ∧ tt σ2 H2 fun b H3 =>
    if b = true then te σ2 H3 fun y H4 => ∃ acc, H4 Dl = some (.lst acc) ∧ acc.length < sizeLine ∧ Nx (upd H4 Dl (.lst (acc ++ [y]))) else Nx H3)
section
variable {σ : L2.St} {H : Hp} {Q : VK} {D : Ends} {K : PySem.W.Frag}
theorem j_for {wi : TI} {g : TG} {tb : TS} (q : wi σ H fun J H1 => Fo J g tb D σ H1) : tFor wi g tb D σ H := q
theorem j_lc {wi : TI} {g : TG} {tt : TT} {te : TE} {vs : List Nat} (q : wi σ H fun J H1 => ∀ Dl, H1 Dl = none → Lo J g tt te vs σ Dl (Q (.ref Dl)) H1) : tLc wi g tt te vs σ H Q := q
theorem j_iList {tl : TE} {R : It → Hp → Prop} (q : tl σ H fun x H1 => ∃ a, x = .ref a ∧ (∃ xs, SqL K H1 a xs) ∧ R (Itl K a) H1) : iList K tl σ H R := q
theorem j_iTup {tl : TE} {R : It → Hp → Prop} (q : tl σ H fun x H1 => ∃ a, x = .ref a ∧ (∃ xs, SqT K H1 a xs) ∧ R (Itt K a) H1) : iTup K tl σ H R := q
theorem j_iEnumS {ta : TA} {R : It → Hp → Prop} (q : ta σ H fun vs H1 => ∃ x, vs = [.str x] ∧ R (Ites x) H1) : iEnumS ta σ H R := q
theorem j_iStr {te : TE} {R : It → Hp → Prop} (q : te σ H fun v H1 => ∃ x, v = .str x ∧ R (Its x) H1) : iStr te σ H R := q
theorem j_iRng1 {ta : TA} {R : It → Hp → Prop} (q : ta σ H fun vs H1 => ∃ j : Int, vs = [.int j] ∧ -(2 ^ 62) ≤ j ∧ j < 2 ^ 62 ∧ R (Itr 0 j.toNat) H1) : iRng1 ta σ H R := q
theorem j_iRng2 {ta : TA} {R : It → Hp → Prop} (q : ta σ H fun vs H1 => ∃ i j : Int, vs = [.int i, .int j] ∧ (-(2 ^ 62) ≤ i ∧ i < 2 ^ 62 ∧ -(2 ^ 62) ≤ j ∧ j < 2 ^ 62) ∧ R (Itr i (j - i).toNat) H1) : iRng2 ta σ H R := q
theorem j_yes {Q : Bool → Hp → Prop} (q : Q true H) : tYes σ H Q := q
/-- a text's signs, one by one -/
theorem for_str {x : Str} {g : TG} {tb : TS} {D : Ends} {σ : L2.St} {H : Hp} (Pv : Nat → L2.St → Hp → Prop) (h0 : Pv 0 σ H)
    (hs : ∀ i c σ H, x.cps[i]? = some c → Pv i σ H → g (.str ⟨#[c]⟩) σ H fun σ2 H2 => tb { D with nx := Pv (i + 1), ct := Pv (i + 1), bk := D.nx } σ2 H2) (hd : ∀ σ H, Pv x.cps.size σ H → D.nx σ H) :
    Fo (Its x) g tb D σ H := by
  refine ⟨fun i m σ H => m = x.cps.size - i ∧ i ≤ x.cps.size ∧ Pv i σ H, ⟨x.cps.size, by simp, Nat.zero_le _, h0⟩, ?_⟩
  rintro i m σ H ⟨rfl, hi, p⟩
  by_cases hlt : i < x.cps.size
  · refine .inr ⟨hlt, Pv (i + 1), fun σ' H' p' => ⟨x.cps.size - (i + 1), by omega, rfl, hlt, p'⟩, fun v H' y => ?_⟩
    obtain ⟨rfl, c, hc, rfl⟩ := y
    exact hs i c σ H' hc p
  · have e : i = x.cps.size := by omega
    subst e
    exact .inl ⟨Nat.le_refl _, hd σ H p⟩
/-- what a comprehension has made: for each kept turn its item -/
def Made (Rel : Nat → V → Hp → Prop) (js : List Nat) (ys : List V) (G : Hp) : Prop := ys.length = js.length ∧ ∀ (k j : Nat) (y : V), js[k]? = some j → ys[k]? = some y → Rel j y G
theorem Made.nil {Rel : Nat → V → Hp → Prop} {G : Hp} : Made Rel [] [] G := ⟨rfl, fun k j y h => by simp at h⟩
theorem Made.snoc {Rel : Nat → V → Hp → Prop} {js : List Nat} {ys : List V} {G : Hp} (m : Made Rel js ys G) {j : Nat} {y : V} (r : Rel j y G) : Made Rel (js ++ [j]) (ys ++ [y]) G := by
  obtain ⟨e, h⟩ := m
  refine ⟨by simp [e], fun k j' y' h1 h2 => ?_⟩
  by_cases hk : k < js.length
  · rw [List.getElem?_append_left hk] at h1
    rw [List.getElem?_append_left (by omega)] at h2
    exact h k j' y' h1 h2
  · have hk' : k = js.length := by
      have := (List.getElem?_eq_some_iff.mp h1).1
      rw [List.length_append, List.length_singleton] at this
      omega
    subst hk'
    have h1' : j = j' := by simpa using h1
    have h2' : y = y' := by rw [← e] at h2; simpa using h2
    subst h1' h2'
    exact r
theorem Made.mono {Rel : Nat → V → Hp → Prop} {js : List Nat} {ys : List V} {G G' : Hp} (m : Made Rel js ys G) (f : ∀ j y, Rel j y G → Rel j y G') : Made Rel js ys G' := ⟨m.1, fun k j y h1 h2 => f j y (m.2 k j y h1 h2)⟩
theorem range_keep (keep : Nat → Bool) (i : Nat) : (List.range (i + 1)).filter keep = (List.range i).filter keep ++ (if keep i = true then [i] else []) := by
  rw [List.range_succ, List.filter_append]
  congr 1
  by_cases h : keep i = true
  · rw [if_pos h, List.filter_cons, if_pos h, List.filter_nil]
  · rw [if_neg h, List.filter_cons, if_neg h, List.filter_nil]
/-- the body of every comprehension rule: one turn -/
structure LcTurn (g : TG) (tt : TT) (te : TE) (vs : List Nat) (σ : L2.St) (Dl : Addr) (H1 : Hp) (Rel : Nat → V → Hp → Prop) (keep : Nat → Bool) (i : Nat) (x : V) : Prop where
  turn : ∀ (H' : Hp) (C : V → Hp → Prop) (N : Hp → Prop), Same H1 (hide Dl H') → (∃ acc, H' Dl = some (.lst acc)) →
    (keep i = true → ∀ y H4, Same H' H4 → Rel i y (hide Dl H4) → C y H4) → (keep i = false → ∀ H3, Same H' H3 → N H3) →
    g x (wipe σ vs) H' fun σ2 H2 => wipe σ2 vs = wipe σ vs ∧ tt σ2 H2 fun b H3 => if b = true then te σ2 H3 C else N H3
def LcInv (Dl : Addr) (H1 : Hp) (Rel : Nat → V → Hp → Prop) (keep : Nat → Bool) (i : Nat) (H' : Hp) : Prop :=
  Same H1 (hide Dl H') ∧ ∃ acc, H' Dl = some (.lst acc) ∧ Made Rel ((List.range i).filter keep) acc (hide Dl H')
theorem LcInv.zero {Dl : Addr} {H1 : Hp} {Rel : Nat → V → Hp → Prop} {keep : Nat → Bool} (hD : H1 Dl = none) : LcInv Dl H1 Rel keep 0 (upd H1 Dl (.lst [])) :=
  ⟨same_to_hide hD (same_new hD), [], upd_same, .nil⟩
theorem filter_range_len (keep : Nat → Bool) (i : Nat) : ((List.range i).filter keep).length ≤ i := by
  have := List.length_filter_le keep (List.range i)
  rwa [List.length_range] at this
theorem LcInv.step {Dl : Addr} {H1 : Hp} {Rel : Nat → V → Hp → Prop} {keep : Nat → Bool} {g : TG} {tt : TT} {te : TE} {vs : List Nat} {σ : L2.St} (mono : ∀ i y G G', Same G G' → Rel i y G → Rel i y G') {n i : Nat} {x : V} (hi : i < n) (hn : n ≤ 100000)
    (t : LcTurn g tt te vs σ Dl H1 Rel keep i x) {H' : Hp} (p : LcInv Dl H1 Rel keep i H') :
    g x (wipe σ vs) H' fun σ2 H2 => wipe σ2 vs = wipe σ vs ∧ tt σ2 H2 fun b H3 => if b = true then te σ2 H3 fun y H4 => ∃ acc, H4 Dl = some (.lst acc) ∧ acc.length < sizeLine ∧ LcInv Dl H1 Rel keep (i + 1) (upd H4 Dl (.lst (acc ++ [y]))) else LcInv Dl H1 Rel keep (i + 1) H3 := by
  obtain ⟨s1, acc, e, m⟩ := p
  have hl : acc.length ≤ i := by rw [m.1]; exact filter_range_len keep i
  refine t.turn H' _ _ s1 ⟨acc, e⟩ (fun hk y H4 s4 r => ⟨acc, s4 _ _ e, ?_, ?_, acc ++ [y], upd_same, ?_⟩) (fun hk H3 s3 => ⟨?_, acc, s3 _ _ e, ?_⟩)
  · rw [sizeLine_eq]; omega
  · exact s1.trans ((hide_mono s4).trans hide_upd)
  · rw [range_keep, if_pos hk]
    have m4 : Made Rel ((List.range i).filter keep) acc (hide Dl H4) := m.mono fun j y r => mono j y _ _ (hide_mono s4) r
    exact (m4.snoc r).mono fun j y r => mono j y _ _ hide_upd r
  · exact s1.trans (hide_mono s3)
  · rw [range_keep, if_neg (by rw [hk]; exact Bool.false_ne_true), List.append_nil]
    exact m.mono fun j y r => mono j y _ _ (hide_mono s3) r
theorem lc_genT {a : Addr} {xs : List V} {g : TG} {tt : TT} {te : TE} {vs : List Nat} {σ : L2.St} {H1 : Hp} {Dl : Addr} {Qd : Hp → Prop} (Rel : Nat → V → Hp → Prop) (keep : Nat → Bool)
    (hD : H1 Dl = none) (hS : SqT K H1 a xs) (hn : xs.length ≤ 100000) (mono : ∀ i y G G', Same G G' → Rel i y G → Rel i y G')
    (hs : ∀ i x, xs[i]? = some x → LcTurn g tt te vs σ Dl H1 Rel keep i x)
    (hd : ∀ H' ys, Same H1 (hide Dl H') → H' Dl = some (.lst ys) → Made Rel ((List.range xs.length).filter keep) ys (hide Dl H') → Qd H') : Lo (Itt K a) g tt te vs σ Dl Qd H1 :=
  lc_tup (K := K) (xs := xs) (LcInv Dl H1 Rel keep) (LcInv.zero hD) (fun i H _ p => same_tup (p.1.trans (same_hide _ _)) hS)
    (fun i x H hx p => LcInv.step mono (List.getElem?_eq_some_iff.mp hx).1 hn (hs i x hx) p) (fun H p => hd H _ p.1 p.2.choose_spec.1 p.2.choose_spec.2)
theorem lc_genL {a : Addr} {xs : List V} {g : TG} {tt : TT} {te : TE} {vs : List Nat} {σ : L2.St} {H1 : Hp} {Dl : Addr} {Qd : Hp → Prop} (Rel : Nat → V → Hp → Prop) (keep : Nat → Bool)
    (hD : H1 Dl = none) (hS : SqL K H1 a xs) (hn : xs.length ≤ 100000) (mono : ∀ i y G G', Same G G' → Rel i y G → Rel i y G')
    (hs : ∀ i x, xs[i]? = some x → LcTurn g tt te vs σ Dl H1 Rel keep i x)
    (hd : ∀ H' ys, Same H1 (hide Dl H') → H' Dl = some (.lst ys) → Made Rel ((List.range xs.length).filter keep) ys (hide Dl H') → Qd H') : Lo (Itl K a) g tt te vs σ Dl Qd H1 :=
  lc_list (K := K) (xs := xs) (LcInv Dl H1 Rel keep) (LcInv.zero hD) (fun i H _ p => (p.1.trans (same_hide _ _)).seq hS)
    (fun i x H hx p => LcInv.step mono (List.getElem?_eq_some_iff.mp hx).1 hn (hs i x hx) p) (fun H p => hd H _ p.1 p.2.choose_spec.1 p.2.choose_spec.2)
theorem lc_genR {lo : Int} {n : Nat} {g : TG} {tt : TT} {te : TE} {vs : List Nat} {σ : L2.St} {H1 : Hp} {Dl : Addr} {Qd : Hp → Prop} (Rel : Nat → V → Hp → Prop) (keep : Nat → Bool)
    (hD : H1 Dl = none) (hn : n ≤ 100000) (mono : ∀ i y G G', Same G G' → Rel i y G → Rel i y G')
    (hs : ∀ i, i < n → LcTurn g tt te vs σ Dl H1 Rel keep i (.int (lo + i)))
    (hd : ∀ H' ys, Same H1 (hide Dl H') → H' Dl = some (.lst ys) → Made Rel ((List.range n).filter keep) ys (hide Dl H') → Qd H') : Lo (Itr lo n) g tt te vs σ Dl Qd H1 :=
  lc_range (LcInv Dl H1 Rel keep) (LcInv.zero hD)
    (fun i H hi p => LcInv.step mono hi hn (hs i hi) p) (fun H p => hd H _ p.1 p.2.choose_spec.1 p.2.choose_spec.2)
theorem keep_all (n : Nat) : (List.range n).filter (fun _ => true) = List.range n := List.filter_eq_self.mpr fun _ _ => rfl
theorem Made.all {Rel : Nat → V → Hp → Prop} {n : Nat} {ys : List V} {G : Hp} (m : Made Rel ((List.range n).filter fun _ => true) ys G) : ys.length = n ∧ ∀ k y, ys[k]? = some y → Rel k y G := by
  rw [keep_all] at m
  refine ⟨m.1.trans List.length_range, fun k y h => ?_⟩
  have hk : k < n := by
    have := (List.getElem?_eq_some_iff.mp h).1
    rw [m.1, List.length_range] at this
    exact this
  exact m.2 k k y (by rw [List.getElem?_range hk]) h
end

/-! ### exceptions that are kept: an except suite with the exception among what is tracked -/
section
open PySem PySem.Spec PyProof.Rows
/-- an exception's object at a: its class, its own dict's address -/
def ExK (cls : Value) (d : Option Addr) (a : Addr) : HO := .ext fun h => ∃ oe : Obj, h.get? a = some oe ∧ Zc cls d oe ∧ ∃ vs, oe.data = .fields vs
theorem exk_ok {P : Program} {w : World} {H : Hp} {h : Heap} {a : Addr} {cls : Value} {d : Option Addr} {oe : Obj} (e : h.get? a = some oe) (z : Zc cls d oe) (f : ∃ vs, oe.data = .fields vs) : ObjOk P w H h a (ExK cls d a) :=
  ⟨⟨oe, e, z, f⟩, ⟨oe, e⟩, fun _ _ ⟨o, q, r⟩ k => ⟨o, k o q, r⟩⟩
section
variable {X : Cx} {pins : List (Addr × Obj)} {σ : L2.St} {H : Hp} {s s4 sI : Shared} {a : Addr} {o : HO}
/-- an object that came behind sI is tracked from now on -/
theorem track (J : Inv X pins σ H sI) (hn : sI.heap.get? a = none) (I : Inv X pins σ H s) (na : H a = none) (new : ObjOk X.prog X.w (upd H a o) s.heap a o) : Inv X pins σ (upd H a o) s := by
  have older : ∀ b u, sI.heap.get? b = some u → b ≠ a := fun b u e z => by rw [z, hn] at e; cases e
  have first : ∀ b u, X.s_0.heap.get? b = some u → b ∉ X.ex → b ≠ a := fun b u e hx => by
    obtain ⟨u', e'⟩ := J.base.there b u e hx
    exact older b u' e'
  have stay : ∀ b u, H b = some u → b ≠ a := fun b u e => ne_of_none e na
  have up : ∀ b u, H b = some u → upd H a o b = some u := fun b u e => by rw [upd_ne (stay b u e)]; exact e
  obtain ⟨mJ, ⟨oL, _, _, hoL, _⟩, _⟩ := id J.loc
  refine ⟨I.ok, I.os, I.bare, ⟨I.base.keep, I.base.slot, fun b u e n hx => ?_, I.base.there, fun b xs e => up _ _ (I.base.tups b xs e), fun b u xs e => up _ _ (I.base.frzs b u xs e), fun b ps e => ?_⟩, I.loc, I.cell, ?_, fun x c e => ?_, fun p hp => ?_, fun b u e => ?_, I.len⟩
  · rw [upd_ne (first b u e hx)]
    exact I.base.free b u e n hx
  · obtain ⟨more, q⟩ := I.base.tbls b ps e
    exact ⟨more, up _ _ q⟩
  · rw [upd_ne (older _ _ hoL)]
    exact I.free
  · obtain ⟨v, oc, hoc, _⟩ := J.cell x c e
    rw [upd_ne (older _ _ hoc)]
    exact I.freeC x c e
  · obtain ⟨e, n, r⟩ := I.pin p hp
    have hq := (J.pin p hp).1
    refine ⟨e, ?_, r⟩
    rw [upd_ne (older _ _ hq)]
    exact n
  · by_cases hb : b = a
    · subst hb
      rw [upd_same] at e
      cases e
      exact new
    · rw [upd_ne hb] at e
      exact (I.hok b u e).stay (fun _ _ _ q => q) (fun c q => up _ _ q) fun c xs q => up _ _ q
theorem into_suite (I : Inv X pins σ H s) (a : Addr) : Inv (X.suite a (X.pn ++ pins)) [] σ H s :=
  ⟨I.ok.suite _ _, I.os, I.bare, I.base, I.loc, I.cell, I.free, I.freeC, fun p hp => I.pin p (by rw [List.append_nil] at hp; exact hp), I.hok, I.len⟩
theorem out_of_suite {pn' : List (Addr × Obj)} (I : Inv (X.suite a (X.pn ++ pins)) pn' σ H s) (ok : X.Ok) : Inv X pins σ H s :=
  ⟨ok, I.os, I.bare, I.base, I.loc, I.cell, I.free, I.freeC, fun p hp => I.pin p (List.mem_append_left _ hp), I.hok, I.len⟩
end
/-- what the clause asks: the suite reads the exception at a, which is tracked; behind it slot i is empty -/
def wKeep (K : PySem.W.Frag) (c : Value) (i : Nat) (ts : TS) (Wout : WX) (D : Ends) : WX := fun cls d σ H =>
  ∃ b, PySem.W.exmOne K cls c = some b ∧ (b = true → ∀ a H2, H a = none → Same H H2 → H2 a = some (ExK cls d a) →
    ts { nx := fun σ' H' => D.nx (σ'.set i none) H', rt := D.rt, bk := fun σ' H' => D.bk (σ'.set i none) H', ct := fun σ' H' => D.ct (σ'.set i none) H' } (σ.set i (some (.ref a))) H2) ∧ (b = false → Wout cls d σ H)
section
variable {X : Cx} {x n : Str} {c : Value} {i : Nat} {body suite : List Stmt} {b₀ : Stmt} {np pos pos' : PySem.Pos} {tb : WX → TS} {ts : TS} {Wout : WX}
theorem ps_try_keep (hs : X.stack = X.env :: X.outer) (hf : X.env.frame = some X.env.locals) (hN : X.N.Nodup) (hi : X.N[i]? = some n) (hln : X.env.kindOf n = some .local) (hc : Names X x c) (tk : Takes X Wout)
    (hb : ∀ (W : WX) (pn : List (Addr × Obj)) (xe : Value → Shared → Prop), Takes (X.tr pn xe) W → PassesOwn (model X.prog X.w) X.A X.env xe → PSs (X.tr pn xe) body (tb W))
    (hsu : ∀ (a : Addr) (pn : List (Addr × Obj)), PSs (X.suite a pn) (b₀ :: suite) ts) :
    PS X (.Try body [.ExceptHandler (some (.Name x np)) (some n) (b₀ :: suite) pos'] [] [] pos) (fun D σ H => tb (wKeep X.K c i ts Wout D) D σ H) := by
  refine ⟨fun pins s σ H D I h => ?_⟩
  have ok := I.ok
  have stk : X.A.frames = some (X.env :: X.outer) := by rw [ok.frames, hs]
  refine wpAny_Try_except ?_
  have run := (hb (wKeep X.K c i ts Wout D) (X.pn ++ pins) (fun e s₁ => wpAny (model X.prog X.w) X.A (noteFrame e X.env) (fun _ s₂ => wpAny (model X.prog X.w) X.A (setFlight e none) (fun _ s₃ =>
    wpAny (model X.prog X.w) X.A (handleBy e X.env [.ExceptHandler (some (.Name x np)) (some n) (b₀ :: suite) pos']) (SP X pins D) X.xe s₃) X.xe s₂) X.xe s₁) ?caught PassesOwn.looking).run [] s σ H D (I.toTry _) h
  case caught =>
    intro u s' air
    obtain ⟨a, B, sI, pinsI, σ', H', cls, d, rfl, JI, ground, upI, sky, na, os, ag, b, hb1, yes, no⟩ := air
    have J : Inv X pins σ' H' sI := JI.ofTry ok
    have sky' : Sky B (X.env :: X.outer) a (Zc cls d) X.env.locals s'.heap := by rw [← hs]; exact sky
    show wpAny (model X.prog X.w) X.A (noteFrame (.ref a) X.env) _ _ _
    refine Sky.land Zc.steady stk hf sky' fun h3 fl3 up3 => ?_
    obtain ⟨o3, vs3, he3, hz3, hd3⟩ := fl3.there
    have offFrames : a ∉ frs (X.env :: X.outer) := fun hm => by
      obtain ⟨_, o', e', plain⟩ := fl3.2.2.1.mem hm
      rw [he3] at e'
      cases e'
      exact plain _ hd3
    have hnew : sI.heap.get? a = none := by
      cases q : sI.heap.get? a with
      | none => rfl
      | some u =>
        have z := ground a u q (by rw [hs]; exact offFrames)
        rw [fl3.2.1] at z
        cases z
    have J3 : Inv X pins σ' H' { s' with heap := h3 } := J.landed ground fl3.1 (upI.trans up3) os ag
    have J3' : Inv X pins σ' _ { s' with heap := h3 } := track J hnew J3 na (exk_ok he3 hz3 ⟨_, hd3⟩)
    refine wpAny_handleBy_cons (codeAny_handlers_test ?_) (by intro q; cases q)
    have look : PySem.W.Looks (model X.prog X.w) h3 (typeOf (.ref a)) cls := fun A Q E s k q => wpAny_typeOf_ref (k _ _ he3) (by rw [hz3.1]; exact q)
    have matches_ := PySem.W.exm_one (M := model X.prog X.w) J3.kIn look hb1
    have named : ∀ {Q : Value → Shared → Prop} {E : Value → Shared → Prop}, Q c { s' with heap := h3 } → wpAny (model X.prog X.w) (X.A.mark (some (.ref a))) (eval (.Name x np) X.env) Q E { s' with heap := h3 } := fun {Q E} q => by
      obtain ⟨hg, hdbg, hm | ⟨hm, hv, hnn⟩⟩ := hc
      · exact ld_glob (X := X.suite a (X.pn ++ pins)) (into_suite J3 a) hg hm q hdbg
      · exact ld_blt (X := X.suite a (X.pn ++ pins)) (into_suite J3 a) hg hm hv q hnn hdbg
    refine named (matches_.here ?_)
    cases b with
    | false =>
      show wpAny _ X.A (handleBy (.ref a) X.env []) _ _ _
      refine wpAny_handleBy_nil ?_
      obtain ⟨k1, k2, k3, oe, vs, T, oT, ts', he, hz, hd, h1, hr⟩ := id fl3
      unfold PySem.passOn
      refine wpAny_bind (wpAny_field he hd h1 ?_)
      rw [if_neg (show ¬ ((Value.ref T == Value.none) = true) from by simp)]
      have on : wpAny (model X.prog X.w) X.A (setFlight (.ref a) X.env.frame) (fun _ s4 => wpAny (model X.prog X.w) X.A (throw (.ref a) : Sem Flow) (SP X pins D) X.xe s4) X.xe { s' with heap := h3 } := by
        rw [hf]
        refine HandSPX.setFlight_upZ fl3 fun h4 held4 up4 => wpAny_throw (tk _ _ ?_)
        exact ⟨a, B, sI, pins, σ', H', cls, d, rfl, J, ground, (upI.trans up3).trans up4, .inr (.inr (by rw [hs]; exact held4)), na, os, ag, no rfl⟩
      first
        | exact wpAny_bind (wpAny_pure (wpAny_bind on))
        | exact wpAny_bind on
    | true =>
      refine codeAny_handlers_suite_as ?_
      refine HandSPX.lands_againZ fl3 fun h4 fl4 up4 => ?_
      obtain ⟨o4, vs4, he4, hz4, hd4⟩ := fl4.there
      have J4 : Inv X pins σ' H' { s' with heap := h4 } := J.landed ground fl4.1 ((upI.trans up3).trans up4) os ag
      have J4' : Inv X pins σ' (upd H' a (ExK cls d a)) { s' with heap := h4 } := track J hnew J4 na (exk_ok he4 hz4 ⟨_, hd4⟩)
      refine store_ok (X := X.suite a (X.pn ++ pins)) (v := .ref a) (into_suite J4' a) hN hi (.inl hln) rfl (fun s5 S5 => ?_) (.inr hln)
      have go := (hsu a (X.pn ++ pins)).run [] s5 _ _ _ S5 (yes rfl a _ na (same_new na) upd_same)
      have leave : ∀ {s6 : Shared} {σ6 : L2.St} {H6 : Hp} {Q : Shared → Prop}, Inv (X.suite a (X.pn ++ pins)) [] σ6 H6 s6 → (∀ s7, Inv X pins (σ6.set i none) H6 s7 → Q s7) →
          wpAny (model X.prog X.w) X.A (do bindName X.env n .none; unbindBehindTheSuite X.env n pos') (fun _ s7 => Q s7) X.xe s6 := fun {s6 σ6 H6 Q} S6 hq => gone_ok (out_of_suite S6 ok) hN hi hln hq
      refine wpAny_mono go (fun f s6 hsp => ?_) (fun _ _ z => False.elim z)
      cases f with
      | next => obtain ⟨σ6, H6, S6, q6⟩ := hsp; exact leave S6 fun s7 J7 => ⟨_, _, J7, q6⟩
      | brk => obtain ⟨σ6, H6, S6, q6⟩ := hsp; exact leave S6 fun s7 J7 => ⟨_, _, J7, q6⟩
      | cont => obtain ⟨σ6, H6, S6, q6⟩ := hsp; exact leave S6 fun s7 J7 => ⟨_, _, J7, q6⟩
      | ret u => obtain ⟨v6, σ6, H6, S6, r6, q6⟩ := hsp; exact leave S6 fun s7 J7 => ⟨_, _, _, J7, r6, q6⟩
  refine wpAny_mono run (fun f s1 hsp => ?_) (fun e s1 he => he)
  cases f with
  | next => obtain ⟨σ', H', J', q⟩ := hsp; exact wpAny_execs_nil ⟨σ', H', J'.ofTry ok, q⟩
  | brk => obtain ⟨σ', H', J', q⟩ := hsp; exact ⟨σ', H', J'.ofTry ok, q⟩
  | cont => obtain ⟨σ', H', J', q⟩ := hsp; exact ⟨σ', H', J'.ofTry ok, q⟩
  | ret u => obtain ⟨v, σ', H', J', r, q⟩ := hsp; exact ⟨v, σ', H', J'.ofTry ok, r, q⟩
end
/-- isinstance of a kept exception -/
def rIsX (K : PySem.W.Frag) : List V → Hp → VK → Prop := fun xs H Q => ∃ (a D : Addr) (c : V) (u : Value) (b : Bool), xs = [.ref a, c] ∧ H a = some (ExK (.ref D) none a) ∧ ExcC K D ∧ ClsV c u ∧ PySem.W.kitOne K (.ref D) u = some b ∧ Q (.bl b) H
def rIsXT (K : PySem.W.Frag) : List V → Hp → VK → Prop := fun xs H Q => ∃ (a D tp : Addr) (cs : List V) (us : List Value) (b : Bool), xs = [.ref a, .ref tp] ∧ H a = some (ExK (.ref D) none a) ∧ ExcC K D ∧ H tp = some (.tup cs) ∧ Paired ClsV cs us ∧ PySem.W.kitAny K (.ref D) us = some b ∧ Q (.bl b) H
section
variable {X : Cx}
theorem exk_inst {pins : List (Addr × Obj)} {σ : L2.St} {H : Hp} {s : Shared} {a D : Addr} (I : Inv X pins σ H s) (h : H a = some (ExK (.ref D) none a)) : ∃ ox, PySem.W.InstAt s.heap a ox D none := by
  obtain ⟨⟨⟨oc, od, oda, osl⟩, e, ⟨z1, z2⟩, vs, hv⟩, _⟩ := I.hok a _ h
  dsimp only at z1 z2 hv
  subst z1 z2 hv
  exact ⟨_, e, rfl, rfl, trivial⟩
theorem call_isX : CallR X (.builtin "isinstance") (rIsX X.K) := by
  intro pins s σ H xs us Q I r h
  obtain ⟨a, D, c, u, b, rfl, ha, C, k, e, q⟩ := h
  obtain ⟨u1, u2, rfl, r1, r2⟩ := vals2 r
  have e2 := k.eq r2
  subst e2
  cases (show u1 = Value.ref a from r1)
  obtain ⟨ox, J⟩ := exk_inst I ha
  exact PySem.W.kia_one (PySem.W.handS_kitx_exc C.hg C.hk C.hs C.hd C.ha C.hn C.ht C.hm) I.kIn J e (fun z => nomatch z) fun tk => ⟨.bl b, H, I.tok tk, rfl, q⟩
theorem call_isXT : CallR X (.builtin "isinstance") (rIsXT X.K) := by
  intro pins s σ H xs us Q I r h
  obtain ⟨a, D, tp, cs, ws, b, rfl, ha, C, hT, k, e, q⟩ := h
  obtain ⟨u1, u2, rfl, r1, r2⟩ := vals2 r
  cases (show u1 = Value.ref a from r1)
  cases (show u2 = Value.ref tp from r2)
  obtain ⟨ox, J⟩ := exk_inst I ha
  obtain ⟨_, its, rv, o, h1, h2, n, h3⟩ := (show ObjOk X.prog X.w H s.heap tp (.tup cs) from I.hok tp _ hT)
  have e3 := ClsV.all k rv
  subst e3
  obtain ⟨oc, od, dt, sl⟩ := o
  simp only at h2 h3
  subst h2 h3
  exact PySem.W.kia_tup (PySem.W.handS_kitx_exc C.hg C.hk C.hs C.hd C.ha C.hn C.ht C.hm) I.kIn J h1 e (fun z => nomatch z) fun tk => ⟨.bl b, H, I.tok tk, rfl, q⟩
def rIsiU (K : PySem.W.Frag) : List V → Hp → VK → Prop := fun xs H Q => rIsi K xs H Q ∨ rIsiT K xs H Q ∨ rIsX K xs H Q ∨ rIsXT K xs H Q
theorem uIsi : CallR X (.builtin "isinstance") (rIsiU X.K) := CallR.or call_isi (CallR.or call_isiT (CallR.or call_isX call_isXT))
end
section
variable {H : Hp} {Q : VK} {K : PySem.W.Frag}
theorem j_isiU {x c : V} {t u : Value} {b : Bool} (h1 : ClsV c u) (h2 : TyX K H x t) (h3 : PySem.W.kitOne K t u = some b) (q : Q (.bl b) H) : rIsiU K [x, c] H Q := .inl ⟨x, c, t, u, b, rfl, h1, h2, h3, q⟩
theorem j_isX {a D : Addr} {c : V} {u : Value} {b : Bool} (ha : H a = some (ExK (.ref D) none a)) (C : ExcC K D) (k : ClsV c u) (e : PySem.W.kitOne K (.ref D) u = some b) (q : Q (.bl b) H) : rIsiU K [.ref a, c] H Q := .inr (.inr (.inl ⟨a, D, c, u, b, rfl, ha, C, k, e, q⟩))
theorem j_isXT {a D tp : Addr} {cs : List V} {us : List Value} {b : Bool} (ha : H a = some (ExK (.ref D) none a)) (C : ExcC K D) (hT : H tp = some (.tup cs)) (k : Paired ClsV cs us) (e : PySem.W.kitAny K (.ref D) us = some b) (q : Q (.bl b) H) : rIsiU K [.ref a, .ref tp] H Q := .inr (.inr (.inr ⟨a, D, tp, cs, us, b, rfl, ha, C, hT, k, e, q⟩))
end
/-- an own exception class without an __init__ -/
structure Xc (K : PySem.W.Frag) (mg : Str → Option Value) (name : Str) where
  C : Addr
  g : mg name = some (.ref C)
  x : PySem.W.excIn K C [.type "ValueError", .type "Exception", .type "BaseException", .type "object"] "ValueError.__new__" = true
  k : PySem.W.keepIn K (.ref C) = true
  b : PySem.W.subIn K (.ref C) (.type "BaseException") = some true
  t : PySem.W.typeIn K (.ref C) = some (.type "type")
  i : PySem.W.isClsIn K C = true
  e : ExcC K C
  v : PySem.W.subIn K (.ref C) (.type "ValueError") = some true
/-- one that is asked for alone -/
structure Xa (K : PySem.W.Frag) (mg : Str → Option Value) (name : Str) where
  C : Addr
  g : mg name = some (.ref C)
  b : PySem.W.subIn K (.ref C) (.type "BaseException") = some true
  t : PySem.W.typeIn K (.ref C) = some (.type "type")
  i : PySem.W.isClsIn K C = true
theorem kit_ref {K : PySem.W.Frag} {D C : Addr} {b : Bool} (t : PySem.W.typeIn K (.ref C) = some (.type "type")) (i : PySem.W.isClsIn K C = true) (s : PySem.W.subIn K (.ref D) (.ref C) = some b) (self : D = C → b = true) : PySem.W.kitOne K (.ref D) (.ref C) = some b := by
  unfold PySem.W.kitOne
  by_cases h : D = C
  · subst h
    rw [if_pos (by simp), self rfl]
  · rw [if_neg (by simpa using h)]
    show (if ((PySem.W.clsIn K C).isSome && PySem.W.typeIn K (.ref C) == some (.type "type")) = true then PySem.W.subIn K (.ref D) (.ref C) else none) = some b
    have hi : (PySem.W.clsIn K C).isSome = true := i
    rw [hi, t]
    exact (if_pos rfl).trans s
theorem kit_ve {K : PySem.W.Frag} {D : Addr} {b : Bool} (s : PySem.W.subIn K (.ref D) (.type "ValueError") = some b) : PySem.W.kitOne K (.ref D) (.type "ValueError") = some b := by
  unfold PySem.W.kitOne
  rw [if_neg (by simp)]
  show (if PySem.W.kitMeta "ValueError" = true then PySem.W.subIn K (.ref D) (.type "ValueError") else none) = some b
  rw [if_pos (by decide +kernel)]
  exact s
theorem exm_by {K : PySem.W.Frag} {C D : Addr} {b : Bool} (hb : PySem.W.subIn K (.ref C) (.type "BaseException") = some true) (t : PySem.W.typeIn K (.ref C) = some (.type "type")) (i : PySem.W.isClsIn K C = true) (s : PySem.W.subIn K (.ref D) (.ref C) = some b) : PySem.W.exmOne K (.ref D) (.ref C) = some b := by
  unfold PySem.W.exmOne
  rw [hb, if_pos (by rfl)]
  show (if ((PySem.W.clsIn K C).isSome && PySem.W.typeIn K (.ref C) == some (.type "type")) = true then PySem.W.subIn K (.ref D) (.ref C) else none) = some b
  have hi : (PySem.W.clsIn K C).isSome = true := i
  rw [hi, t]
  exact (if_pos rfl).trans s
end
section
theorem j_callS {sp : Sp} {E : L2.St → XK} {t : TA} {σ : L2.St} {H : Hp} {Q : VK} (q : t σ H fun vs H1 => sp vs H1 Q (E σ)) : tCallS sp E t σ H Q := q
theorem j_keep {K : PySem.W.Frag} {cls c : Value} {i : Nat} {ts : TS} {Wout : WX} {D : Ends} {d : Option Addr} {σ : L2.St} {H : Hp} (hb : PySem.W.exmOne K cls c = some true)
    (q : ∀ a H2, H a = none → Same H H2 → H2 a = some (ExK cls d a) → ts { nx := fun σ' H' => D.nx (σ'.set i none) H', rt := D.rt, bk := fun σ' H' => D.bk (σ'.set i none) H', ct := fun σ' H' => D.ct (σ'.set i none) H' } (σ.set i (some (.ref a))) H2) :
    wKeep K c i ts Wout D cls d σ H := ⟨true, hb, fun _ => q, fun z => nomatch z⟩
end

/-! ### text * int, text.count, comprehensions over a text -/
section
variable {X : Cx}
def rMulS : R2 := fun x y H Q => ∃ (a : Str) (n : Int), x = .str a ∧ y = .int n ∧ -(2 ^ 62) < n ∧ n < 2 ^ 62 ∧ a.length * n.toNat ≤ 16777216 ∧ ∀ z : Str, TL.tl z = (List.replicate n.toNat (TL.tl a)).flatten → Q (.str z) H
theorem op_mul_str : OpR X (binaryOp .Mult) rMulS := by
  intro pins s σ H x y v u Q I rx ry h
  obtain ⟨a, n, rfl, rfl, h1, h2, h3, q⟩ := h
  obtain ⟨t, rfl⟩ := rx
  obtain ⟨t', rfl⟩ := ry
  have hrep : ∀ (k : Nat) (acc : Array Nat), ((List.replicate k a.cps).foldl (· ++ ·) acc).toList = acc.toList ++ (List.replicate k (TL.tl a)).flatten := by
    intro k
    induction k with
    | zero => intro acc; simp
    | succ k ih =>
      intro acc
      rw [List.replicate_succ, List.foldl_cons, ih, List.replicate_succ, List.flatten_cons, Array.toList_append, List.append_assoc]
  have hl : ¬ n < 1 → (n == 1 || a.length == 0) = false → Builtin.Str.tooLong (a.length * n.toNat) = false := fun _ _ => by
    unfold Builtin.Str.tooLong
    rw [sizeLine_eq]
    exact decide_eq_false (by omega)
  refine PySem.P.mul_str (by
      have e1 : ¬ n < -(2 ^ 63 : Int) := by omega
      have e2 : ¬ n ≥ 2 ^ 63 := by omega
      rw [decide_eq_false e1, decide_eq_false e2]; rfl) (fun hn _ => ?_) hl ?_
  · have hn1 : 1 ≤ n := by omega
    have h4 : ((a.length : Int)) * n ≤ 16777216 := by
      have e : ((n.toNat : Nat) : Int) = n := by omega
      rw [← e]
      exact Int.le_trans (Int.le_of_eq (Int.natCast_mul _ _).symm) (Int.ofNat_le.mpr h3)
    have h5 : (a.length : Int) ≤ (2 ^ 63 - 1) / n := Int.le_ediv_of_mul_le (by omega) (by omega)
    omega
  · have fin : ∀ z : Str, TL.tl z = (List.replicate n.toNat (TL.tl a)).flatten → ∀ (tk : Tok) (s1 : Shared), (∀ k : Nat, s1 = { s with toks := k } → EP X pins σ Q (.str z tk) s1) := fun z hz tk s1 k e => by
      subst e
      exact ⟨.str z, H, I.tok _, ⟨_, rfl⟩, q z hz⟩
    by_cases c1 : n < 1
    · rw [if_pos c1]
      have e0 : n.toNat = 0 := by omega
      exact ⟨by decide, fin _ (by rw [e0]; rfl) _ _ _ rfl⟩
    · rw [if_neg c1]
      by_cases c2 : (n == 1 || a.length == 0) = true
      · rw [if_pos c2]
        refine fin a ?_ _ _ _ rfl
        rw [Bool.or_eq_true, beq_iff_eq, beq_iff_eq] at c2
        rcases c2 with c2 | c2
        · subst c2
          exact (List.append_nil (TL.tl a)).symm
        · have e0 : TL.tl a = [] := List.eq_nil_of_length_eq_zero c2
          rw [e0]
          generalize n.toNat = k
          induction k with
          | zero => rfl
          | succ k ih => rw [List.replicate_succ, List.flatten_cons, ← ih]; rfl
      · rw [if_neg c2]
        refine ⟨?_, fin _ ?_ _ _ _ rfl⟩
        · have e : (⟨(List.replicate n.toNat a.cps).foldl (· ++ ·) #[]⟩ : Str).length = a.length * n.toNat := by
            show (((List.replicate n.toNat a.cps).foldl (· ++ ·) #[])).size = _
            rw [← Array.length_toList, hrep]
            show (List.flatten (List.replicate n.toNat (TL.tl a))).length = _
            rw [List.length_flatten, List.map_replicate, List.sum_replicate_nat, TL.len_tl, Nat.mul_comm]
          rw [e, sizeLine_eq]
          omega
        · exact hrep _ _
def rMulU : R2 := fun x y H Q => rI CMul (fun i j => .int (i * j)) x y H Q ∨ rMulS x y H Q
theorem uMulU : OpR X (binaryOp .Mult) rMulU := op_mul.or op_mul_str
def rCount : V → List V → Hp → VK → Prop := fun x xs H Q => ∃ a b, x = .str a ∧ xs = [.str b] ∧ Q (.int (Txt.count a b)) H
theorem mt_countU : MtR X "str.count" rCount := mt_count
end
section
variable {H : Hp} {Q : VK} {K : PySem.W.Frag}
theorem j_mulS {a : Str} {n : Int} (h1 : -(2 ^ 62) < n) (h2 : n < 2 ^ 62) (h3 : a.length * n.toNat ≤ 16777216) (q : ∀ z : Str, TL.tl z = (List.replicate n.toNat (TL.tl a)).flatten → Q (.str z) H) : rMulU (.str a) (.int n) H Q := .inr ⟨a, n, rfl, rfl, h1, h2, h3, q⟩
theorem j_count {a b : Str} (q : Q (.int (Txt.count a b)) H) : rCount (.str a) [.str b] H Q := ⟨a, b, rfl, rfl, q⟩
theorem lc_genS {x : Str} {g : TG} {tt : TT} {te : TE} {vs : List Nat} {σ : L2.St} {H1 : Hp} {Dl : Addr} {Qd : Hp → Prop} (Rel : Nat → V → Hp → Prop) (keep : Nat → Bool)
    (hD : H1 Dl = none) (hn : x.cps.size ≤ 100000) (mono : ∀ i y G G', Same G G' → Rel i y G → Rel i y G')
    (hs : ∀ i c, x.cps[i]? = some c → LcTurn g tt te vs σ Dl H1 Rel keep i (.str ⟨#[c]⟩))
    (hd : ∀ H' ys, Same H1 (hide Dl H') → H' Dl = some (.lst ys) → Made Rel ((List.range x.cps.size).filter keep) ys (hide Dl H') → Qd H') : Lo (Its x) g tt te vs σ Dl Qd H1 := by
  refine ⟨fun i m H => m = x.cps.size - i ∧ i ≤ x.cps.size ∧ LcInv Dl H1 Rel keep i H, ⟨x.cps.size, by simp, Nat.zero_le _, LcInv.zero hD⟩, ?_⟩
  rintro i m H ⟨rfl, hi, p⟩
  by_cases hlt : i < x.cps.size
  · refine .inr ⟨hlt, LcInv Dl H1 Rel keep (i + 1), fun H' p' => ⟨x.cps.size - (i + 1), by omega, rfl, hlt, p'⟩, fun v H' y => ?_⟩
    obtain ⟨rfl, c, hc, rfl⟩ := y
    exact LcInv.step mono hlt hn (hs i c hc) p
  · have e : i = x.cps.size := by omega
    subst e
    exact .inl ⟨Nat.le_refl _, hd H _ p.1 p.2.choose_spec.1 p.2.choose_spec.2⟩
end

/-! ### sayings, their texts, the reader: no program here -/
section
open TL
inductive Say where
  | pl (w : Str) | many (n : Nat) | jn (w : Str) (a b : Say)
def plainL : List Str := ["tree", "near", "bare", "sides", "odd", "pairing", "cheapest", "round", "ball"]
def joinedL : List Str := ["both", "either"]
def Say.Ok : Nat → Say → Prop
  | _, .pl w => w ∈ plainL
  | _, .many n => 1 ≤ n ∧ n ≤ 4095
  | 0, .jn _ _ _ => False
  | d + 1, .jn w a b => w ∈ joinedL ∧ a.Ok d ∧ b.Ok d
def Say.toD : Say → PyData
  | .pl w => .tuple [.str w]
  | .many n => .tuple [.str "many", .int n]
  | .jn w a b => .tuple [.str w, a.toD, b.toD]
def manyC : List Nat := [109, 97, 110, 121, 32]
def Say.txt : Say → List Nat
  | .pl w => tl w
  | .many n => manyC ++ numL n
  | .jn w a b => tl w ++ [40] ++ a.txt ++ [44, 32] ++ b.txt ++ [41]
/-- a text of signs -/
def mk (l : List Nat) : Str := ⟨l.toArray⟩
theorem tl_mk' (l : List Nat) : tl (mk l) = l := rfl
theorem mk_tl' (x : Str) : mk (tl x) = x := mk_tl x
/-- the comma that parts -/
def splitL : Int → Nat → List Nat → Option Nat
  | _, _, [] => none
  | d, i, c :: r => if c = 40 then splitL (d + 1) (i + 1) r else if c = 41 then splitL (d - 1) (i + 1) r else if c = 44 ∧ d = 0 then some i else splitL d (i + 1) r
def isDig (c : Nat) : Bool := decide (48 ≤ c ∧ c ≤ 57)
def manyL (w : List Nat) : Option Nat :=
  if w.length < 1 ∨ 4 < w.length ∨ w.head? = some 48 then none
  else if w.all isDig = true then (if 4095 < NumText.digitsVal w then none else some (NumText.digitsVal w)) else none
mutual
def readL : Nat → List Nat → Option Say
  | 0, t => if mk t ∈ plainL then some (.pl (mk t)) else if manyC <+: t then (manyL (t.drop 5)).map .many else none
  | d + 1, t => if mk t ∈ plainL then some (.pl (mk t)) else if manyC <+: t then (manyL (t.drop 5)).map .many else
    match par [40] [] t with
    | none => none
    | some (w, rest) =>
      if mk w ∉ joinedL ∨ rest.getLast? ≠ some 41 then none else
      match splitL 0 0 rest.dropLast with
      | none => none
      | some i => if ((rest.dropLast).drop i).take 2 ≠ [44, 32] then none else
        match readL d ((rest.dropLast).take i), readL d ((rest.dropLast).drop (i + 2)) with
        | some a, some b => some (.jn (mk w) a b)
        | _, _ => none
end

theorem plain_codes : ∀ w ∈ plainL, (∀ c ∈ tl w, 97 ≤ c ∧ c ≤ 122) ∧ tl w ≠ [] ∧ (tl w).length ≤ 8 ∧ (tl w).head? ≠ some 109 := by
  have h : plainL.all (fun w => (tl w).all (fun c => decide (97 ≤ c ∧ c ≤ 122)) && !(tl w).isEmpty && decide ((tl w).length ≤ 8) && !((tl w).head? == some 109)) = true := by decide +kernel
  intro w hw
  have := List.all_eq_true.mp h w hw
  simp only [Bool.and_eq_true, List.all_eq_true, decide_eq_true_eq, Bool.not_eq_true', List.isEmpty_eq_false_iff, beq_eq_false_iff_ne, ne_eq] at this
  obtain ⟨⟨⟨h1, h2⟩, h3⟩, h4⟩ := this
  exact ⟨h1, h2, h3, h4⟩
theorem joined_codes : ∀ w ∈ joinedL, (∀ c ∈ tl w, 97 ≤ c ∧ c ≤ 122) ∧ (tl w).length ≤ 6 ∧ (tl w).head? ≠ some 109 ∧ tl w ≠ [] := by
  have h : joinedL.all (fun w => (tl w).all (fun c => decide (97 ≤ c ∧ c ≤ 122)) && decide ((tl w).length ≤ 6) && !((tl w).head? == some 109) && !(tl w).isEmpty) = true := by decide +kernel
  intro w hw
  have := List.all_eq_true.mp h w hw
  simp only [Bool.and_eq_true, List.all_eq_true, decide_eq_true_eq, Bool.not_eq_true', List.isEmpty_eq_false_iff, beq_eq_false_iff_ne, ne_eq] at this
  obtain ⟨⟨⟨h1, h2⟩, h3⟩, h4⟩ := this
  exact ⟨h1, h2, h3, h4⟩
theorem numL_dig (n : Nat) : ∀ c ∈ numL n, 48 ≤ c ∧ c ≤ 57 := fun c hc => by
  by_cases h : c < 48 ∨ 57 < c
  · exact absurd hc (numL_free h)
  · omega
theorem numL_head : ∀ n : Nat, 1 ≤ n → (numL n).head? ≠ some 48 := by
  intro n
  induction n using Nat.strongRecOn with
  | _ n ih =>
    intro h1
    by_cases h : n < 10
    · rw [numL_lt h]
      simp; omega
    · rw [numL_step (by omega)]
      have h2 := ih (n / 10) (by omega) (by omega)
      cases e : numL (n / 10) with
      | nil => exact absurd e (numL_ne _)
      | cons a r => rw [e] at h2; simpa using h2
/-- the signs of a saying's text -/
theorem txt_len : ∀ (d : Nat) (s : Say), s.Ok d → 1 ≤ s.txt.length ∧ s.txt.length + 10 ≤ 19 * 2 ^ d
  | d, .pl w, h => by
    have hw : w ∈ plainL := by cases d <;> exact h
    obtain ⟨_, h2, h3, _⟩ := plain_codes w hw
    have h4 : 0 < (tl w).length := List.length_pos_iff.mpr h2
    have h5 := Nat.one_le_two_pow (n := d)
    show 1 ≤ (tl w).length ∧ (tl w).length + 10 ≤ _
    omega
  | d, .many n, h => by
    have hn : 1 ≤ n ∧ n ≤ 4095 := by cases d <;> exact h
    have h3 : (numL n).length ≤ 4 := numL_len (by decide) (by omega)
    have h5 := Nat.one_le_two_pow (n := d)
    have e : (Say.many n).txt.length = 5 + (numL n).length := by
      show (manyC ++ numL n).length = _
      rw [List.length_append]; rfl
    rw [e]
    omega
  | d + 1, .jn w a b, h => by
    obtain ⟨hw, ha, hb⟩ := h
    obtain ⟨a1, a2⟩ := txt_len d a ha
    obtain ⟨b1, b2⟩ := txt_len d b hb
    obtain ⟨_, h3, _⟩ := joined_codes w hw
    have e : (Say.jn w a b).txt.length = (tl w).length + 1 + a.txt.length + 2 + b.txt.length + 1 := by
      show (tl w ++ [40] ++ a.txt ++ [44, 32] ++ b.txt ++ [41]).length = _
      simp only [List.length_append, List.length_cons, List.length_nil]
    rw [e, Nat.pow_succ]
    omega
/-- signs that are none of ( ) , are passed over -/
theorem split_pass : ∀ (l : List Nat) (d : Int) (i : Nat) (r : List Nat), (∀ c ∈ l, c ≠ 40 ∧ c ≠ 41 ∧ c ≠ 44) → splitL d i (l ++ r) = splitL d (i + l.length) r
  | [], _, _, _, _ => rfl
  | c :: l, d, i, r, h => by
    obtain ⟨h1, h2, h3⟩ := h c List.mem_cons_self
    have ih := split_pass l d (i + 1) r fun c hc => h c (List.mem_cons_of_mem _ hc)
    show splitL d i (c :: (l ++ r)) = _
    conv => lhs; unfold splitL
    rw [if_neg h1, if_neg h2, if_neg (fun z => h3 z.1), ih, List.length_cons]
    congr 1
    omega
theorem split_txt : ∀ (e : Nat) (s : Say), s.Ok e → ∀ (d : Int) (i : Nat) (r : List Nat), 0 ≤ d → splitL d i (s.txt ++ r) = splitL d (i + s.txt.length) r
  | e, .pl w, h, d, i, r, _ => by
    have hw : w ∈ plainL := by cases e <;> exact h
    obtain ⟨h1, _⟩ := plain_codes w hw
    exact split_pass (tl w) d i r fun c hc => by have := h1 c hc; omega
  | e, .many n, h, d, i, r, _ => by
    refine split_pass _ d i r fun c hc => ?_
    rcases List.mem_append.mp hc with hc | hc
    · have : c = 109 ∨ c = 97 ∨ c = 110 ∨ c = 121 ∨ c = 32 := by simpa [manyC] using hc
      omega
    · have := numL_dig n c hc
      omega
  | e + 1, .jn w a b, h, d, i, r, hd => by
    obtain ⟨hw, ha, hb⟩ := h
    obtain ⟨h1, _⟩ := joined_codes w hw
    have e1 : (Say.jn w a b).txt ++ r = tl w ++ (40 :: (a.txt ++ (44 :: 32 :: (b.txt ++ (41 :: r))))) := by
      show (tl w ++ [40] ++ a.txt ++ [44, 32] ++ b.txt ++ [41]) ++ r = _
      simp only [List.append_assoc, List.cons_append, List.nil_append]
    have e2 : (Say.jn w a b).txt.length = (tl w).length + 1 + a.txt.length + 2 + b.txt.length + 1 := by
      show (tl w ++ [40] ++ a.txt ++ [44, 32] ++ b.txt ++ [41]).length = _
      simp only [List.length_append, List.length_cons, List.length_nil]
    rw [e1, split_pass _ d i _ (fun c hc => by have := h1 c hc; omega)]
    have s1 : ∀ j q, splitL d j (40 :: q) = splitL (d + 1) (j + 1) q := fun j q => by
      conv => lhs; unfold splitL
      rw [if_pos rfl]
    rw [s1, split_txt e a ha (d + 1) _ _ (by omega)]
    have s2 : ∀ j q, splitL (d + 1) j (44 :: 32 :: q) = splitL (d + 1) (j + 2) q := fun j q => by
      conv => lhs; unfold splitL
      rw [if_neg (by decide), if_neg (by decide), if_neg (fun z => by omega)]
      conv => lhs; unfold splitL
      rw [if_neg (by decide), if_neg (by decide), if_neg (fun z => absurd z.1 (by decide))]
    rw [s2, split_txt e b hb (d + 1) _ _ (by omega)]
    have s3 : ∀ j q, splitL (d + 1) j (41 :: q) = splitL d (j + 1) q := fun j q => by
      conv => lhs; unfold splitL
      rw [if_neg (by decide), if_pos rfl]
      congr 1
      omega
    rw [s3, e2]
    congr 1
    omega
theorem not_plain_of {t : List Nat} (h : t.head? = some 109 ∨ 40 ∈ t) : mk t ∉ plainL := fun hm => by
  obtain ⟨h1, _, _, h4⟩ := plain_codes _ hm
  rw [tl_mk'] at h1 h4
  rcases h with h | h
  · exact h4 h
  · have := h1 40 h
    omega
theorem manyL_num {n : Nat} (h1 : 1 ≤ n) (h2 : n ≤ 4095) : manyL (numL n) = some n := by
  have h3 : (numL n).length ≤ 4 := numL_len (by decide) (by omega)
  have h4 : 0 < (numL n).length := List.length_pos_iff.mpr (numL_ne n)
  have h5 := numL_head n h1
  unfold manyL
  rw [if_neg (by rintro (h | h | h) <;> first | omega | exact h5 h)]
  rw [if_pos (show (numL n).all isDig = true from List.all_eq_true.mpr fun c hc => decide_eq_true (numL_dig n c hc)), numL_val, if_neg (by omega)]
theorem read_txt : ∀ (d : Nat) (s : Say), s.Ok d → readL d s.txt = some s
  | d, .pl w, h => by
    have hw : w ∈ plainL := by cases d <;> exact h
    have e : mk (Say.pl w).txt = w := mk_tl' w
    cases d with
    | zero => unfold readL; rw [e, if_pos hw]
    | succ d => unfold readL; rw [e, if_pos hw]
  | d, .many n, h => by
    have hn : 1 ≤ n ∧ n ≤ 4095 := by cases d <;> exact h
    have h1 : mk (Say.many n).txt ∉ plainL := not_plain_of (.inl rfl)
    have h2 : manyC <+: (Say.many n).txt := ⟨numL n, rfl⟩
    have h3 : (Say.many n).txt.drop 5 = numL n := rfl
    cases d with
    | zero => unfold readL; rw [if_neg h1, if_pos h2, h3, manyL_num hn.1 hn.2]; rfl
    | succ d => unfold readL; rw [if_neg h1, if_pos h2, h3, manyL_num hn.1 hn.2]; rfl
  | d + 1, .jn w a b, h => by
    obtain ⟨hw, ha, hb⟩ := h
    obtain ⟨c1, c2, c3, c4⟩ := joined_codes w hw
    have e1 : (Say.jn w a b).txt = tl w ++ ([40] ++ (a.txt ++ ([44, 32] ++ b.txt) ++ [41])) := by
      show (tl w ++ [40] ++ a.txt ++ [44, 32] ++ b.txt ++ [41]) = _
      simp only [List.append_assoc, List.cons_append, List.nil_append]
    have h1 : mk (Say.jn w a b).txt ∉ plainL := not_plain_of (.inr (by rw [e1]; simp))
    have h2 : ¬ manyC <+: (Say.jn w a b).txt := fun ⟨r, e⟩ => by
      rw [e1] at e
      cases hq : tl w with
      | nil => exact c4 hq
      | cons z q =>
        rw [hq] at e c3
        have : (109 : Nat) = z := by simpa [manyC] using congrArg List.head? e
        subst this
        exact c3 rfl
    have h40 : 40 ∉ tl w := fun hm => by have := c1 40 hm; omega
    have h3 : par [40] [] (Say.jn w a b).txt = some (tl w, a.txt ++ ([44, 32] ++ b.txt) ++ [41]) := by
      rw [e1]
      exact par_part1 (acc := []) h40
    have h4 : (a.txt ++ ([44, 32] ++ b.txt) ++ [41]).getLast? = some 41 := List.getLast?_concat
    have h5 : (a.txt ++ ([44, 32] ++ b.txt) ++ [41]).dropLast = a.txt ++ ([44, 32] ++ b.txt) := List.dropLast_concat
    have h6 : splitL 0 0 (a.txt ++ ([44, 32] ++ b.txt)) = some a.txt.length := by
      rw [split_txt d a ha 0 0 _ (by decide), Nat.zero_add]
      show splitL 0 a.txt.length (44 :: _) = _
      unfold splitL
      rw [if_neg (by decide), if_neg (by decide), if_pos ⟨rfl, rfl⟩]
    unfold readL
    rw [if_neg h1, if_neg h2, h3]
    dsimp only
    rw [mk_tl', if_neg (by rintro (z | z); exact z hw; exact z h4), h5, h6]
    dsimp only
    rw [List.drop_left, List.take_left, if_neg (by simp)]
    have e7 : (a.txt ++ ([44, 32] ++ b.txt)).drop (a.txt.length + 2) = b.txt := by
      rw [← List.append_assoc]
      exact List.drop_left' (by simp)
    rw [e7, read_txt d a ha, read_txt d b hb]
theorem txt_inj {d : Nat} {a b : Say} (ha : a.Ok d) (hb : b.Ok d) (e : a.txt = b.txt) : a = b := by
  have h1 := read_txt d a ha
  rw [e, read_txt d b hb] at h1
  exact (Option.some.inj h1).symm
end

/-! ### what the reader reads is a saying's text -/
section
open TL
theorem snoc_of {l : List Nat} (h : l ≠ []) : ∃ r a, l = r ++ [a] := ⟨l.dropLast, l.getLast h, (List.dropLast_concat_getLast h).symm⟩
theorem numL_of {l : List Nat} (hd : ∀ c ∈ l, 48 ≤ c ∧ c ≤ 57) (hh : l.head? ≠ some 48) (hne : l ≠ []) : ∀ n, NumText.digitsVal l = n → numL n = l ∧ 1 ≤ n := by
  generalize hm : l.length = m
  induction m generalizing l with
  | zero => exact absurd (List.eq_nil_of_length_eq_zero hm) hne
  | succ m ih =>
    obtain ⟨r, c, rfl⟩ := snoc_of hne
    revert hd hh hne hm
    revert r
    intro l hd hh hne hm
    have hm : l.length = m := by simpa using hm
    intro n hn
    have hc := hd c (by simp)
    rw [NumText.digitsVal_snoc] at hn
    by_cases h0 : l = []
    · subst h0
      have hc0 : c ≠ 48 := fun z => hh (by simp [z])
      have hz : NumText.digitsVal [] = 0 := rfl
      rw [hz] at hn
      rw [numL_lt (by omega)]
      exact ⟨by simp; omega, by omega⟩
    · have hh' : l.head? ≠ some 48 := by
        cases l with
        | nil => exact absurd rfl h0
        | cons a r => simpa using hh
      obtain ⟨e, h1⟩ := ih (fun x hx => hd x (List.mem_append_left _ hx)) hh' h0 hm _ rfl
      have hq : n / 10 = NumText.digitsVal l := by omega
      have hr : n % 10 = c - 48 := by omega
      rw [numL_step (by omega), hq, hr, e]
      exact ⟨by congr 2; omega, by omega⟩
theorem manyL_some {l : List Nat} {n : Nat} (h : manyL l = some n) : l = numL n ∧ 1 ≤ n ∧ n ≤ 4095 := by
  unfold manyL at h
  by_cases h1 : l.length < 1 ∨ 4 < l.length ∨ l.head? = some 48
  · rw [if_pos h1] at h; cases h
  rw [if_neg h1] at h
  by_cases h2 : l.all isDig = true
  · rw [if_pos h2] at h
    by_cases h3 : 4095 < NumText.digitsVal l
    · rw [if_pos h3] at h; cases h
    rw [if_neg h3] at h
    have e := Option.some.inj h
    have hne : l ≠ [] := fun z => h1 (.inl (by rw [z]; decide))
    obtain ⟨a, b⟩ := numL_of (fun c hc => of_decide_eq_true (List.all_eq_true.mp h2 c hc)) (fun z => h1 (.inr (.inr z))) hne n e
    exact ⟨a.symm, b, by omega⟩
  · rw [if_neg h2] at h; cases h
theorem par_some : ∀ (l acc a b : List Nat), par [40] acc l = some (a, b) → acc ++ l = a ++ [40] ++ b
  | [], acc, a, b, h => by cases h
  | c :: r, acc, a, b, h => by
    cases hp : pre [40] (c :: r) with
    | true =>
      rw [par_hit hp] at h
      have hc : c = 40 := by
        have : ((c :: r).take 1 == [40]) = true := hp
        simpa using this
      cases h
      subst hc
      simp
    | false =>
      rw [par_miss hp] at h
      have := par_some r _ a b h
      rw [← this]
      simp
theorem drop_take_two {l : List Nat} {i : Nat} (h : (l.drop i).take 2 = [44, 32]) : l = l.take i ++ [44, 32] ++ l.drop (i + 2) := by
  have h1 := List.take_append_drop i l
  have h2 := List.take_append_drop 2 (l.drop i)
  rw [h, List.drop_drop] at h2
  conv => lhs; rw [← h1, ← h2]
  simp
theorem last_drop {l : List Nat} {c : Nat} (h : l.getLast? = some c) : l = l.dropLast ++ [c] := by
  by_cases hn : l = []
  · subst hn; cases h
  obtain ⟨r, a, rfl⟩ := snoc_of hn
  rw [List.getLast?_concat] at h
  cases h
  simp
theorem read_some : ∀ (d : Nat) (t : List Nat) (s : Say), readL d t = some s → t = s.txt ∧ s.Ok d := by
  intro d
  have base : ∀ (d : Nat) (t : List Nat) (s : Say), mk t ∈ plainL → some (Say.pl (mk t)) = some s → t = s.txt ∧ s.Ok d := fun d t s hm h => by
    cases h
    exact ⟨(tl_mk' t).symm, by cases d <;> exact hm⟩
  have many : ∀ (d : Nat) (t : List Nat) (s : Say), manyC <+: t → (manyL (t.drop 5)).map Say.many = some s → t = s.txt ∧ s.Ok d := fun d t s hm h => by
    cases e : manyL (t.drop 5) with
    | none => rw [e] at h; cases h
    | some n =>
      rw [e] at h
      cases h
      obtain ⟨h1, h2, h3⟩ := manyL_some e
      obtain ⟨r, rfl⟩ := hm
      have : (manyC ++ r).drop 5 = r := rfl
      rw [this] at h1
      exact ⟨by rw [h1]; rfl, by cases d <;> exact ⟨h2, h3⟩⟩
  induction d with
  | zero =>
    intro t s h
    unfold readL at h
    by_cases h1 : mk t ∈ plainL
    · rw [if_pos h1] at h; exact base 0 t s h1 h
    rw [if_neg h1] at h
    by_cases h2 : manyC <+: t
    · rw [if_pos h2] at h; exact many 0 t s h2 h
    rw [if_neg h2] at h; cases h
  | succ d ih =>
    intro t s h
    unfold readL at h
    by_cases h1 : mk t ∈ plainL
    · rw [if_pos h1] at h; exact base _ t s h1 h
    rw [if_neg h1] at h
    by_cases h2 : manyC <+: t
    · rw [if_pos h2] at h; exact many _ t s h2 h
    rw [if_neg h2] at h
    cases hp : par [40] [] t with
    | none => rw [hp] at h; cases h
    | some wr =>
      obtain ⟨w, rest⟩ := wr
      rw [hp] at h
      dsimp only at h
      have et := par_some _ _ _ _ hp
      by_cases h3 : mk w ∉ joinedL ∨ rest.getLast? ≠ some 41
      · rw [if_pos h3] at h; cases h
      rw [if_neg h3] at h
      have h3a : mk w ∈ joinedL := Classical.byContradiction fun z => h3 (.inl z)
      have h3b : rest.getLast? = some 41 := Classical.byContradiction fun z => h3 (.inr z)
      have er := last_drop h3b
      cases hs : splitL 0 0 rest.dropLast with
      | none => rw [hs] at h; cases h
      | some i =>
        rw [hs] at h
        dsimp only at h
        by_cases h4 : ((rest.dropLast).drop i).take 2 ≠ [44, 32]
        · rw [if_pos h4] at h; cases h
        rw [if_neg h4] at h
        have e2 := drop_take_two (Classical.byContradiction h4)
        cases ha : readL d ((rest.dropLast).take i) with
        | none => rw [ha] at h; cases h
        | some a =>
          cases hb : readL d ((rest.dropLast).drop (i + 2)) with
          | none => rw [ha, hb] at h; cases h
          | some b =>
            rw [ha, hb] at h
            cases h
            obtain ⟨ea, oa⟩ := ih _ _ ha
            obtain ⟨eb, ob⟩ := ih _ _ hb
            refine ⟨?_, h3a, oa, ob⟩
            show t = tl (mk w) ++ [40] ++ a.txt ++ [44, 32] ++ b.txt ++ [41]
            rw [tl_mk', ← ea, ← eb]
            rw [List.nil_append] at et
            rw [et]
            conv => lhs; rw [er, e2]
            simp only [List.append_assoc]
theorem read_iff {d : Nat} {t : List Nat} {s : Say} : readL d t = some s ↔ t = s.txt ∧ s.Ok d :=
  ⟨read_some d t s, fun ⟨h1, h2⟩ => by rw [h1]; exact read_txt d s h2⟩
theorem read_long {d : Nat} {t : List Nat} (hd : d ≤ 3) (h : 142 < t.length) : readL d t = none := by
  cases e : readL d t with
  | none => rfl
  | some s =>
    obtain ⟨h1, h2⟩ := read_some d t s e
    have h3 := (txt_len d s h2).2
    have h4 : 2 ^ d ≤ 2 ^ 3 := Nat.pow_le_pow_right (by decide) hd
    rw [h1] at h
    omega
theorem count_plain {l : List Nat} (h : ∀ c ∈ l, c ≠ 40 ∧ c ≠ 41) : l.count 40 = l.count 41 := by
  rw [List.count_eq_zero.mpr fun z => (h 40 z).1 rfl, List.count_eq_zero.mpr fun z => (h 41 z).2 rfl]
/-- as many opened as closed -/
theorem txt_bal : ∀ (d : Nat) (s : Say), s.Ok d → s.txt.count 40 = s.txt.count 41
  | d, .pl w, h => by
    have hw : w ∈ plainL := by cases d <;> exact h
    exact count_plain fun c hc => by have := (plain_codes w hw).1 c hc; omega
  | d, .many n, h => by
    refine count_plain fun c hc => ?_
    rcases List.mem_append.mp hc with hc | hc
    · have : c = 109 ∨ c = 97 ∨ c = 110 ∨ c = 121 ∨ c = 32 := by simpa [manyC] using hc
      omega
    · have := numL_dig n c hc
      omega
  | d + 1, .jn w a b, h => by
    obtain ⟨hw, ha, hb⟩ := h
    have h1 := count_plain (l := tl w) fun c hc => by have := (joined_codes w hw).1 c hc; omega
    have h2 := txt_bal d a ha
    have h3 := txt_bal d b hb
    show (tl w ++ [40] ++ a.txt ++ [44, 32] ++ b.txt ++ [41]).count 40 = (tl w ++ [40] ++ a.txt ++ [44, 32] ++ b.txt ++ [41]).count 41
    simp only [List.count_append, h1, h2, h3]
    have c1 : ([40] : List Nat).count 40 = 1 := by decide
    have c2 : ([40] : List Nat).count 41 = 0 := by decide
    have c3 : ([44, 32] : List Nat).count 40 = 0 := by decide
    have c4 : ([44, 32] : List Nat).count 41 = 0 := by decide
    have c5 : ([41] : List Nat).count 40 = 0 := by decide
    have c6 : ([41] : List Nat).count 41 = 1 := by decide
    omega
/-- signs counted -/
theorem cnt_go (s : Str) (c : Nat) : ∀ (m lo : Nat) (st : Array Nat × Nat), lo + m = s.length + 1 → st.1.size ≤ lo → st.2 ≤ lo →
    (forIn (m := Id) (List.range' lo m) st (StrLaws.occBody s ⟨#[c]⟩ s.length (s.length + 1))).run.fst.size = st.1.size + ((tl s).drop lo).count c
  | 0, lo, st, h, _, _ => by
    have hl : (tl s).length = s.length := rfl
    rw [List.drop_eq_nil_of_le (by omega)]
    rfl
  | m + 1, lo, st, h, h1, h2 => by
    have hl : (tl s).length = s.length := rfl
    rw [List.range'_succ, List.forIn_cons]
    unfold StrLaws.occBody
    have hk := StrLaws.subAt_one s c lo
    by_cases hc : s.cps.toList[lo]? = some c
    · obtain ⟨k1, k2⟩ := hk.mpr hc
      rw [if_pos ⟨⟨⟨by omega, h2⟩, k1⟩, k2⟩]
      have hlt : lo < (tl s).length := (List.getElem?_eq_some_iff.mp hc).1
      have e : (tl s).drop lo = c :: (tl s).drop (lo + 1) := by
        rw [List.drop_eq_getElem_cons hlt]
        congr 1
        exact (List.getElem?_eq_some_iff.mp hc).2
      have := cnt_go s c m (lo + 1) (st.1.push lo, lo + (⟨#[c]⟩ : Str).length) (by omega) (by rw [Array.size_push]; omega) (Nat.le_refl _)
      rw [e, List.count_cons_self]
      refine Eq.trans this ?_
      rw [Array.size_push]
      omega
    · have hc' : ¬ (((st.fst.size < s.length + 1 ∧ st.snd ≤ lo) ∧ lo + (⟨#[c]⟩ : Str).length ≤ s.length) ∧ Builtin.Str.subAt s ⟨#[c]⟩ lo = true) := fun z => hc (hk.mp ⟨z.1.2, z.2⟩)
      rw [if_neg hc']
      have := cnt_go s c m (lo + 1) (st.1, st.2) (by omega) (by dsimp only; omega) (by dsimp only; omega)
      refine Eq.trans this ?_
      by_cases hlt : lo < (tl s).length
      · rw [List.drop_eq_getElem_cons hlt, List.count_cons_of_ne]
        intro z
        exact hc (List.getElem?_eq_some_iff.mpr ⟨hlt, z⟩)
      · rw [List.drop_eq_nil_of_le (by omega), List.drop_eq_nil_of_le (by omega)]
theorem txt_count (s : Str) (c : Nat) : Txt.count s ⟨#[c]⟩ = (((tl s).count c : Nat) : Int) := by
  unfold Txt.count
  rw [StrLaws.occ_eq]
  have := cnt_go s c (s.length + 1) 0 (#[], 0) (by omega) (Nat.le_refl _) (Nat.le_refl _)
  rw [List.drop_zero] at this
  rw [Array.length_toList]
  have e : s.length + 1 - 0 = s.length + 1 := rfl
  rw [e, this]
  simp
end

/-! ### tuples whose object is known: their methods -/
section
open PySem PySem.Spec PyProof.Rows
variable {X : Cx} {e o : Expr} {es : List Expr} {te to : TE} {t : TA} {pos : PySem.Pos}
/-- a new tuple, its object known to have no dict -/
def AlZ (xs : List V) (H : Hp) (Q : VK) : Prop := ∀ p ob, ob.dict = none → H p = none → Q (.ref p) (upd H p (.frz ob (.tup xs)))
def tTupZ (t : TA) : TE := fun σ H Q => t σ H fun xs H1 => xs.length ≤ sizeLine ∧ AlZ xs H1 Q
theorem pe_tupZ {x1} (h : PA X es t) : PE X (.Tuple es x1 pos) (tTupZ t) := by
  refine ⟨fun pins s σ H Q I hq => ?_⟩
  refine wpAny_Tuple_spliced (thn (h.run pos pins s σ H _ I hq) fun us s1 ⟨xs, H1, I1, r, z, q⟩ => ⟨by rw [← r.length]; exact z, ?_⟩)
  have hf : H1 s1.heap.objs.size = none := I1.hok.fresh (Nat.le_refl _)
  have hg := Heap.get?_push_size s1.heap (o := { cls := .type "tuple", data := .seq us.toArray }) rfl
  refine ⟨.ref s1.heap.objs.size, _, I1.laid (t' := s1.toks) (fun b u e => Heap.get?_push_of_some _ e) (Nat.le_refl _) ?_, rfl, q _ { cls := .type "tuple", data := .seq us.toArray } rfl hf⟩
  exact ⟨hg, z, us, r, ⟨_, hg, rfl, _, rfl⟩⟩
theorem j_tupZ {σ : L2.St} {H : Hp} {Q : VK} {t : TA} (q : t σ H fun xs H1 => xs.length ≤ sizeLine ∧ AlZ xs H1 Q) : tTupZ t σ H Q := q
theorem j_alZ {H : Hp} {Q : VK} {xs : List V} (q : ∀ p H2 ob, H p = none → Same H H2 → ob.dict = none → H2 p = some (.frz ob (.tup xs)) → Q (.ref p) H2) : AlZ xs H Q := fun p ob hd n => q p _ ob n (same_new n) hd upd_same
theorem j_szAlZ {xs : List V} {H : Hp} {Q : VK} (h : Nat.ble xs.length 1000 = true) (q : AlZ xs H Q) : xs.length ≤ sizeLine ∧ AlZ xs H Q := ⟨Nat.le_of_lt (small1000 (Nat.le_of_ble_eq_true h)), q⟩
/-- o.m(e) of such a tuple -/
def tTM (r : V → List V → Hp → VK → Prop) (to : TE) (t : TA) : TE := fun σ H Q => to σ H fun x H1 => (∃ p ob xs, x = .ref p ∧ H1 p = some (.frz ob (.tup xs)) ∧ ob.dict = none) ∧ t σ H1 fun xs H2 => r x xs H2 Q
theorem pe_tm {name : Str} {id : String} {apos cpos : PySem.Pos} {r : V → List V → Hp → VK → Prop} (pa : PlainAttrs "tuple") (slot : Slot "tuple" name id) (hty : typeOf (.builtin id) = pure (.type "method_descriptor")) (hm : MtR X id r) (ho : PE X o to) (ha : PA X (e :: es) t)
    (hbase : attributeBase o name X.env (eval o X.env) = eval o X.env := by rfl)
    (hfew : ((backTo cpos (starEach (e :: es) X.env)).all (fun x => !x.1) && (backToKw cpos (keywordEach [] X.env)).all (fun x => x.1.isSome)
      && decide ((e :: es).length + ([] : List Keyword).length + (if ([] : List Keyword).isEmpty then 0 else 1) < 30)) = true := by rfl)
    (hline : (apos.endLine == cpos.line) = true := by rfl) (hs : starEach (e :: es) X.env = (false, eval e X.env) :: starEach es X.env := by rfl) (hplain : (backTo cpos (starEach es X.env)).any (·.1) = false := by rfl) :
    PE X (.Call (.Attribute o name apos) (e :: es) [] cpos) (tTM r to t) := by
  refine ⟨fun pins s σ H Q I h => ?_⟩
  refine wpAny_Call_method_late hbase hfew hline rfl (thn (ho.run pins s σ H _ I h) fun v s1 ⟨x, H1, I1, r1, ⟨p, ob, xs, ex, hz, hd⟩, q1⟩ => ?_)
  subst ex
  cases r1
  obtain ⟨hg, _, its, rv, hT⟩ := I1.hok p _ hz
  obtain ⟨o', ho', hc', n, hdt⟩ := hT
  rw [hg] at ho'
  cases ho'
  refine ⟨"tuple", id, pa, slot, hty, ⟨ob, hg, hc'⟩, fun a e => by cases e; exact ⟨ob, hg, hd⟩, ?_⟩
  have hA := ha.run cpos pins s1 σ H1 _ I1 q1
  rw [hs] at hA ⊢
  refine Calls.callWith_builtin (by show (false || (backTo cpos (starEach es X.env)).any (·.1)) = false; rw [hplain] <;> rfl) (Calls.evalArgs_plain ?_)
  exact thn hA fun us s2 ⟨vs, H2, I2, r2, q2⟩ => hm pins s2 σ H2 (.ref p) vs _ us Q I2 rfl r2 q2
theorem j_tm {σ : L2.St} {H : Hp} {Q : VK} {r : V → List V → Hp → VK → Prop} {to : TE} {t : TA} (q : to σ H fun x H1 => (∃ p ob xs, x = .ref p ∧ H1 p = some (.frz ob (.tup xs)) ∧ ob.dict = none) ∧ t σ H1 fun xs H2 => r x xs H2 Q) : tTM r to t σ H Q := q
end


theorem j_szAl {xs : List V} {o : HO} {H : Hp} {Q : VK} (h : Nat.ble xs.length 1000 = true) (q : Al o H Q) : xs.length ≤ sizeLine ∧ Al o H Q := ⟨Nat.le_of_lt (small1000 (Nat.le_of_ble_eq_true h)), q⟩
local macro_rules | `(tactic| walk_at "s") => `(tactic| first
  | with_reducible refine j_seq ?_
  | with_reducible refine j_asg ?_
  | ((with_reducible refine' j_gn ?e ?q); (case e => exact rfl))
  | with_reducible refine j_op ?_
  | ((with_reducible refine' j_var ?e ?q); (case e => exact rfl))
  | with_reducible refine j_C ?_
  | with_reducible refine j_cons ?_
  | with_reducible refine j_nil ?_
  | with_reducible refine j_call ?_
  | with_reducible refine j_cb ?_
  | with_reducible refine j_ret ?_
  | with_reducible refine j_ifS ?_
  | with_reducible refine j_test ?_
  | with_reducible refine j_bl ?_
  | with_reducible refine j_tB ?_
  | with_reducible refine j_and ?_
  | with_reducible refine j_or ?_
  | with_reducible refine j_not ?_
  | with_reducible refine iteT ?_
  | with_reducible refine iteF ?_
  | with_reducible refine j_add ?_
  | with_reducible refine j_rI0 ?_
  | ((with_reducible refine j_eq ?e ?q); (case e => exact rfl))
  | ((with_reducible refine j_ne ?e ?q); (case e => exact rfl))
  | with_reducible refine j_tup ?_
  | with_reducible refine j_lst ?_
  | ((with_reducible refine j_szAl ?e ?q); (case e => exact rfl))
  | with_reducible refine j_drop ?_
  | with_reducible refine j_retN ?_
  | with_reducible refine j_next ?_
  | with_reducible refine j_cont ?_
  | with_reducible refine j_brk ?_
  | with_reducible refine j_un ?_
  | with_reducible refine j_neg ?_
  | with_reducible refine j_andV ?_
  | with_reducible refine j_orV ?_
  | with_reducible refine j_notV ?_
  | with_reducible refine j_blV ?_
  | with_reducible refine j_if ?_
  | with_reducible refine j_sl ?_
  | with_reducible refine j_part ?_
  | with_reducible refine j_int ?_
  | with_reducible refine j_nopart ?_
  | with_reducible refine j_m1 ?_
  | with_reducible refine j_m0 ?_
  | with_reducible refine j_strv ?_
  | with_reducible refine j_bm ?_
  | with_reducible refine j_bm0 ?_
  | with_reducible refine j_gc ?_
  | with_reducible refine j_g0 ?_
  | with_reducible refine j_gsub ?_
  | with_reducible refine j_strS ?_
  | with_reducible refine j_intI ?_
  | with_reducible refine j_intB ?_
  | with_reducible refine j_chain ?_
  | with_reducible refine j_for ?_
  | with_reducible refine j_lc ?_
  | with_reducible refine j_iList ?_
  | with_reducible refine j_iTup ?_
  | with_reducible refine j_iEnumS ?_
  | with_reducible refine j_iStr ?_
  | with_reducible refine j_iRng1 ?_
  | with_reducible refine j_iRng2 ?_
  | with_reducible refine j_yes ?_
  | with_reducible refine j_ex1 ?_
  | with_reducible refine j_ex2 ?_
  | with_reducible refine j_ex3 ?_
  | with_reducible refine j_starts ?_
  | with_reducible refine j_isN ?_
  | with_reducible refine j_notN ?_
  | ((with_reducible refine j_ifP ?h ?q); (case h => decide +kernel))
  | ((with_reducible refine j_ifN ?h ?q); (case h => first | decide +kernel | (intro z; have z2 := of_decide_eq_true z; cases z2; done))))
local macro_rules | `(tactic| walk_at "go") => `(tactic| repeat (walk_at "s"))

local macro_rules | `(tactic| walk_at "s") => `(tactic| first | with_reducible refine j_callS ?_ | with_reducible refine j_count ?_)

def topS (i : Nat) : Stmt := PySem.Challenge.pw_besidesay_k13_texts_that_are_none.main.body.getD i (.Pass ⟨0, 0, 0, 0⟩)
abbrev s_show_saying : Stmt := topS 13
abbrev names_show_saying : List Str := ["saying"]
abbrev ps_show_saying : List Str := ["saying"]
theorem sc_show_saying : FnScope names_show_saying ps_show_saying (defScope s_show_saying) := ⟨rfl, rfl, rfl, by decide +kernel, rfl, by decide +kernel, by decide +kernel⟩
abbrev s_split_place : Stmt := topS 14
abbrev names_split_place : List Str := ["text", "depth", "at", "sign"]
abbrev ps_split_place : List Str := ["text"]
theorem sc_split_place : FnScope names_split_place ps_split_place (defScope s_split_place) := ⟨rfl, rfl, rfl, by decide +kernel, rfl, by decide +kernel, by decide +kernel⟩
abbrev s_many_in : Stmt := topS 15
abbrev names_many_in : List Str := ["word", "sign"]
abbrev ps_many_in : List Str := ["word"]
theorem sc_many_in : FnScope names_many_in ps_many_in (defScope s_many_in) := ⟨rfl, rfl, rfl, by decide +kernel, rfl, by decide +kernel, by decide +kernel⟩
abbrev s_joined_in : Stmt := topS 16
abbrev names_joined_in : List Str := ["text", "depth", "word", "bracket", "rest", "at", "one", "other"]
abbrev ps_joined_in : List Str := ["text", "depth"]
theorem sc_joined_in : FnScope names_joined_in ps_joined_in (defScope s_joined_in) := ⟨rfl, rfl, rfl, by decide +kernel, rfl, by decide +kernel, by decide +kernel⟩
abbrev s_saying_in : Stmt := topS 17
abbrev names_saying_in : List Str := ["text", "depth"]
abbrev ps_saying_in : List Str := ["text", "depth"]
theorem sc_saying_in : FnScope names_saying_in ps_saying_in (defScope s_saying_in) := ⟨rfl, rfl, rfl, by decide +kernel, rfl, by decide +kernel, by decide +kernel⟩
abbrev s_read_saying : Stmt := topS 18
abbrev names_read_saying : List Str := ["text", "found"]
abbrev ps_read_saying : List Str := ["text"]
theorem sc_read_saying : FnScope names_read_saying ps_read_saying (defScope s_read_saying) := ⟨rfl, rfl, rfl, by decide +kernel, rfl, by decide +kernel, by decide +kernel⟩
abbrev s__law_cell_at : Stmt := topS 20
abbrev names__law_cell_at : List Str := ["_law_script", "_law_k"]
abbrev ps__law_cell_at : List Str := ["_law_script", "_law_k"]
theorem sc__law_cell_at : FnScope names__law_cell_at ps__law_cell_at (defScope s__law_cell_at) := ⟨rfl, rfl, rfl, by decide +kernel, rfl, by decide +kernel, by decide +kernel⟩
abbrev s__law_pool : Stmt := topS 21
abbrev names__law_pool : List Str := ["_law_script", "_law_k", "_law_cell", "_law_seed"]
abbrev ps__law_pool : List Str := ["_law_script", "_law_k"]
theorem sc__law_pool : FnScope names__law_pool ps__law_pool (defScope s__law_pool) := ⟨rfl, rfl, rfl, by decide +kernel, rfl, by decide +kernel, by decide +kernel⟩
abbrev s__law_take : Stmt := topS 22
abbrev names__law_take : List Str := ["_law_pool_here", "_law_many", "_law_found"]
abbrev ps__law_take : List Str := ["_law_pool_here", "_law_many"]
theorem sc__law_take : FnScope names__law_take ps__law_take (defScope s__law_take) := ⟨rfl, rfl, rfl, by decide +kernel, rfl, by decide +kernel, by decide +kernel⟩
abbrev s__law_plain : Stmt := topS 23
abbrev names__law_plain : List Str := ["_law_pool_here", "_law_some", "_law_word"]
abbrev ps__law_plain : List Str := ["_law_pool_here"]
theorem sc__law_plain : FnScope names__law_plain ps__law_plain (defScope s__law_plain) := ⟨rfl, rfl, rfl, by decide +kernel, rfl, by decide +kernel, by decide +kernel⟩
abbrev s__law_saying : Stmt := topS 24
abbrev names__law_saying : List Str := ["_law_pool_here", "_law_depth", "_law_word", "_law_one"]
abbrev ps__law_saying : List Str := ["_law_pool_here", "_law_depth"]
theorem sc__law_saying : FnScope names__law_saying ps__law_saying (defScope s__law_saying) := ⟨rfl, rfl, rfl, by decide +kernel, rfl, by decide +kernel, by decide +kernel⟩
abbrev s__law_sign : Stmt := topS 25
abbrev names__law_sign : List Str := ["_law_pool_here", "_law_some"]
abbrev ps__law_sign : List Str := ["_law_pool_here"]
theorem sc__law_sign : FnScope names__law_sign ps__law_sign (defScope s__law_sign) := ⟨rfl, rfl, rfl, by decide +kernel, rfl, by decide +kernel, by decide +kernel⟩
abbrev s__law_other : Stmt := topS 26
abbrev names__law_other : List Str := ["_law_text", "_law_pool_here", "_law_at", "_law_way", "_law_sign_here"]
abbrev ps__law_other : List Str := ["_law_text", "_law_pool_here"]
theorem sc__law_other : FnScope names__law_other ps__law_other (defScope s__law_other) := ⟨rfl, rfl, rfl, by decide +kernel, rfl, by decide +kernel, by decide +kernel⟩
abbrev s__law_number : Stmt := topS 27
abbrev names__law_number : List Str := ["_law_word", "_law_sign_here"]
abbrev ps__law_number : List Str := ["_law_word"]
theorem sc__law_number : FnScope names__law_number ps__law_number (defScope s__law_number) := ⟨rfl, rfl, rfl, by decide +kernel, rfl, by decide +kernel, by decide +kernel⟩
abbrev s__law_read : Stmt := topS 28
abbrev names__law_read : List Str := ["_law_text", "_law_depth", "_law_word", "_law_begun", "_law_inner", "_law_at", "_law_one", "_law_other_here"]
abbrev ps__law_read : List Str := ["_law_text", "_law_depth"]
theorem sc__law_read : FnScope names__law_read ps__law_read (defScope s__law_read) := ⟨rfl, rfl, rfl, by decide +kernel, rfl, by decide +kernel, by decide +kernel⟩
abbrev s__law_told : Stmt := topS 29
abbrev names__law_told : List Str := ["_law_text", "_law_kept", "_law_found", "e"]
abbrev ps__law_told : List Str := ["_law_text"]
theorem sc__law_told : FnScope names__law_told ps__law_told (defScope s__law_told) := ⟨rfl, rfl, rfl, by decide +kernel, rfl, by decide +kernel, by decide +kernel⟩
abbrev s_law : Stmt := topS 30
abbrev names_law : List Str := ["_law_script", "_law_k", "_law_pool_here", "_law_saying_here", "_law_text", "_law_other_here", "_law_texts", "_law_thing", "_law_due"]
abbrev ps_law : List Str := ["_law_script"]
theorem sc_law : FnScope names_law ps_law (defScope s_law) := ⟨rfl, rfl, rfl, by decide +kernel, rfl, by decide +kernel, by decide +kernel⟩
/-- what the top leaves -/
structure Txt (K : PySem.W.Frag) (mg : Str → Option Value) where
  show_saying : Fn K mg "show_saying" s_show_saying ps_show_saying
  split_place : Fn K mg "split_place" s_split_place ps_split_place
  many_in : Fn K mg "many_in" s_many_in ps_many_in
  joined_in : Fn K mg "joined_in" s_joined_in ps_joined_in
  saying_in : Fn K mg "saying_in" s_saying_in ps_saying_in
  read_saying : Fn K mg "read_saying" s_read_saying ps_read_saying
  _law_cell_at : Fn K mg "_law_cell_at" s__law_cell_at ps__law_cell_at
  _law_pool : Fn K mg "_law_pool" s__law_pool ps__law_pool
  _law_take : Fn K mg "_law_take" s__law_take ps__law_take
  _law_plain : Fn K mg "_law_plain" s__law_plain ps__law_plain
  _law_saying : Fn K mg "_law_saying" s__law_saying ps__law_saying
  _law_sign : Fn K mg "_law_sign" s__law_sign ps__law_sign
  _law_other : Fn K mg "_law_other" s__law_other ps__law_other
  _law_number : Fn K mg "_law_number" s__law_number ps__law_number
  _law_read : Fn K mg "_law_read" s__law_read ps__law_read
  _law_told : Fn K mg "_law_told" s__law_told ps__law_told
  law : Fn K mg "law" s_law ps_law
  g_PLAIN : CnT K mg "PLAIN" [V.str "tree", V.str "near", V.str "bare", V.str "sides", V.str "odd", V.str "pairing", V.str "cheapest", V.str "round", V.str "ball"]
  g_JOINED : CnT K mg "JOINED" [V.str "both", V.str "either"]
  g_DEEPEST : Cn mg "DEEPEST" (V.int 3)
  g_MOST_MANY : Cn mg "MOST_MANY" (V.int 4095)
  g_FIGURES : Cn mg "FIGURES" (V.str "0123456789")
  g_LONGEST_NUMBER : Cn mg "LONGEST_NUMBER" (V.int 4)
  n_ValueError : mg "ValueError" = none
  n_enumerate : mg "enumerate" = none
  n_int : mg "int" = none
  n_isinstance : mg "isinstance" = none
  n_len : mg "len" = none
  n_max : mg "max" = none
  n_min : mg "min" = none
  n_range : mg "range" = none
  n_str : mg "str" = none
  BesideError : Xa K mg "BesideError"
  NoWeb : Xa K mg "NoWeb"
  NoSaying : Xa K mg "NoSaying"
  NoText : Xc K mg "NoText"
  NoMarks : Xa K mg "NoMarks"
  sub_NoText_BesideError : PySem.W.subIn K (.ref NoText.C) (.ref BesideError.C) = some true
  sub_NoText_NoWeb : PySem.W.subIn K (.ref NoText.C) (.ref NoWeb.C) = some false
  sub_NoText_NoSaying : PySem.W.subIn K (.ref NoText.C) (.ref NoSaying.C) = some false
  sub_NoText_NoText : PySem.W.subIn K (.ref NoText.C) (.ref NoText.C) = some true
  sub_NoText_NoMarks : PySem.W.subIn K (.ref NoText.C) (.ref NoMarks.C) = some false
/-! ### the program's defs about sayings and their texts -/
theorem say_inv {K : PySem.W.Frag} {H : Hp} {v : V} : ∀ {s : Say}, Dt K H v s.toD → ∃ p, v = .ref p ∧ match s with
    | .pl w => TpK K H p [.str w]
    | .many n => TpK K H p [.str "many", .int n]
    | .jn w a b => ∃ va vb, TpK K H p [.str w, va, vb] ∧ Dt K H va a.toD ∧ Dt K H vb b.toD
  | .pl w, h => by
    cases h with
    | tup h t =>
      cases t with
      | cons h1 t =>
        cases t
        cases h1
        exact ⟨_, rfl, h⟩
  | .many n, h => by
    cases h with
    | tup h t =>
      cases t with
      | cons h1 t =>
        cases t with
        | cons h2 t =>
          cases t
          cases h1
          cases h2
          exact ⟨_, rfl, h⟩
  | .jn w a b, h => by
    cases h with
    | tup h t =>
      cases t with
      | cons h1 t =>
        cases t with
        | cons h2 t =>
          cases t with
          | cons h3 t =>
            cases t
            cases h1
            exact ⟨_, rfl, _, _, h, h2, h3⟩
/-- the first word of a saying -/
def Say.word : Say → Str
  | .pl w => w
  | .many _ => "many"
  | .jn w _ _ => w
theorem say_word {K : PySem.W.Frag} {H : Hp} {v : V} {s : Say} (h : Dt K H v s.toD) : ∃ p xs, v = .ref p ∧ TpK K H p xs ∧ atI xs 0 = some (.str s.word) := by
  obtain ⟨p, e, h'⟩ := say_inv h
  cases s with
  | pl w => exact ⟨p, _, e, h', rfl⟩
  | many n => exact ⟨p, _, e, h', rfl⟩
  | jn w a b => obtain ⟨va, vb, h', _⟩ := h'; exact ⟨p, _, e, h', rfl⟩
theorem word_joined {s : Say} {d : Nat} (h : s.Ok d) : s.word ∈ joinedL ↔ ∃ w a b, s = .jn w a b := by
  cases s with
  | pl w =>
    have hw : w ∈ plainL := by cases d <;> exact h
    have : ∀ w ∈ plainL, w ∉ joinedL := by decide +kernel
    exact ⟨fun z => absurd z (this w hw), fun ⟨_, _, _, z⟩ => nomatch z⟩
  | many n =>
    have : ("many" : Str) ∉ joinedL := by decide +kernel
    exact ⟨fun z => absurd z this, fun ⟨_, _, _, z⟩ => nomatch z⟩
  | jn w a b =>
    cases d with
    | zero => exact h.elim
    | succ d => exact ⟨fun _ => ⟨w, a, b, rfl⟩, fun _ => h.1⟩
theorem word_many {s : Say} {d : Nat} (h : s.Ok d) : s.word = "many" ↔ ∃ n, s = .many n := by
  cases s with
  | pl w =>
    have hw : w ∈ plainL := by cases d <;> exact h
    have : ∀ w ∈ plainL, w ≠ "many" := by decide +kernel
    exact ⟨fun z => absurd z (this w hw), fun ⟨_, z⟩ => nomatch z⟩
  | many n => exact ⟨fun _ => ⟨n, rfl⟩, fun _ => rfl⟩
  | jn w a b =>
    cases d with
    | zero => exact h.elim
    | succ d =>
      have : ∀ w ∈ joinedL, w ≠ "many" := by decide +kernel
      exact ⟨fun z => absurd z (this w h.1), fun ⟨_, z⟩ => nomatch z⟩
theorem len_tl_ {x : Str} {l : List Nat} (h : TL.tl x = l) : x.length = l.length := by rw [TL.len_tl, h]
theorem say_small {d : Nat} (hd : d ≤ 3) {s : Say} (h : s.Ok d) : s.txt.length ≤ 142 := by
  obtain ⟨_, h2⟩ := txt_len d s h
  have : (2 : Nat) ^ d ≤ 2 ^ 3 := Nat.pow_le_pow_right (by decide) hd
  omega
theorem small_log {n : Nat} (h : n ≤ 4096) : ((n : Int).natAbs).log2 < 1920 := by
  have h1 : ((n : Int).natAbs) = n := Int.natAbs_natCast n
  rw [h1]
  by_cases h0 : n = 0
  · subst h0; decide
  rw [Nat.log2_lt h0]
  have : (2 : Nat) ^ 13 ≤ 2 ^ 1920 := Nat.pow_le_pow_right (by decide) (by decide)
  omega
theorem same_dt_ {K : PySem.W.Frag} {H H' : Hp} (s : Same H H') {v : V} {d : PyData} (h : Dt K H v d) : Dt K H' v d := ts_dt (ts_same s) h
theorem str_mk {x : Str} {l : List Nat} (h : TL.tl x = l) : x = mk l := by rw [← h, mk_tl']

def spShow (K : PySem.W.Frag) : Nat → Sp
  | 0 => fun _ _ _ _ => False
  | d + 1 => fun vs H Q _ => ∃ (v : V) (s : Say), vs = [v] ∧ Dt K H v s.toD ∧ s.Ok d ∧ d ≤ 3 ∧ Q (.str (mk s.txt)) H
def spSplit : Sp := fun vs H Q _ => ∃ x : Str, vs = [.str x] ∧ x.length ≤ 100000 ∧ ∀ H2, Same H H2 → Q (match splitL 0 0 (TL.tl x) with | none => .non | some i => .int i) H2
section
variable {P : Program} {w : World} {K : PySem.W.Frag} {mg : Str → Option Value} {base : Heap}
theorem fn_none {f : Addr} {fd : FuncData} {ps : List Str} {sp : Sp} (h : ∀ vs H Q E, ¬ sp vs H Q E) : FnOk P w K mg base CX0 0 f fd ps sp :=
  ⟨fun vs H Q E z => absurd z (h vs H Q E), fun A outer s H args us vs Q E _ _ _ _ z => absurd z (h vs H Q E)⟩
theorem ok_show_saying (T : Txt K mg) : ∀ d, FnOk P w K mg base CX0 d T.show_saying.f T.show_saying.fd ps_show_saying (spShow K d)
  | 0 => fn_none fun _ _ _ _ z => z
  | d + 1 => by
    have G_show_saying := ok_show_saying T d
    refine T.show_saying.F.ok sc_show_saying (fun vs H Q E h => ?_) (fun cdv A outer s H vs Q E hr h => ?_)
    · obtain ⟨v, s, rfl, _⟩ := h
      rfl
    obtain ⟨v, s, rfl, hv, hs, hd, q⟩ := h
    have hu := hu_of hr
    have hu4 := hr.units
    have hu65 := hu65_of hr
    refine ⟨_, (pss_cons (ps_if (pt_cmpR (r := rInU K) (uIn hu65) (pe_ix (r := rIx K) ix_seq (pv 0) pe_int (fun _ _ => rfl)) (pe_glob (by rfl) T.g_JOINED.g T.g_JOINED.r) (by rfl)) (pss_one (ps_ret (pe_op uAdd (pe_op uAdd (pe_op uAdd (pe_op uAdd (pe_op uAdd (pe_ix (r := rIx K) ix_seq (pv 0) pe_int (fun _ _ => rfl)) pe_str) (pe_call G_show_saying (hr.mono (by omega)) (by rfl) T.show_saying.g T.show_saying.F.kp T.show_saying.b .nil pass0 (pa_cons (pe_ix (r := rIx K) ix_seq (pv 0) pe_int (fun _ _ => rfl)) pa_nil))) pe_str) (pe_call G_show_saying (hr.mono (by omega)) (by rfl) T.show_saying.g T.show_saying.F.kp T.show_saying.b .nil pass0 (pa_cons (pe_ix (r := rIx K) ix_seq (pv 0) pe_int (fun _ _ => rfl)) pa_nil))) pe_str))) pss_nil)
  (pss_cons (ps_if (pt_cmpR (r := rEqU K) (uEq hu4) (pe_ix (r := rIx K) ix_seq (pv 0) pe_int (fun _ _ => rfl)) pe_str (nomark _)) (pss_one (ps_ret (pe_op uAdd pe_str (pe_callTy uStr (by rfl) T.n_str (by decide +kernel) (pa_cons (pe_ix (r := rIx K) ix_seq (pv 0) pe_int (fun _ _ => rfl)) pa_nil))))) pss_nil)
  (pss_one (ps_ret (pe_ix (r := rIx K) ix_seq (pv 0) pe_int (fun _ _ => rfl)))))), ?_⟩
    obtain ⟨p, xs, rfl, hp, e0⟩ := say_word hv
    walk_at "go"
    refine j_ixT hp.sq e0 ?_
    walk_at "go"
    refine j_inTS joinedL (T.g_JOINED.t _) rfl ?_
    walk_at "go"
    refine ite2 (fun c => ?_) (fun c => ?_)
    · have c' : s.word ∈ joinedL := of_decide_eq_true c
      obtain ⟨wd, a, b, rfl⟩ := (word_joined hs).mp c'
      obtain ⟨p', e', va, vb, hp', ha, hb⟩ := say_inv hv
      cases e'
      cases d with
      | zero => exact hs.elim
      | succ d =>
      obtain ⟨hw, oa, ob⟩ := hs
      have la := say_small (by omega) oa
      have lb := say_small (by omega) ob
      obtain ⟨_, lw, _⟩ := joined_codes wd hw
      have lw' : wd.length ≤ 6 := by rw [TL.len_tl]; exact lw
      have l1 : (mk a.txt).length = a.txt.length := by rw [TL.len_tl, tl_mk']
      have l2 : (mk b.txt).length = b.txt.length := by rw [TL.len_tl, tl_mk']
      have small : ∀ {n : Nat}, n ≤ 1000 → n ≤ sizeLine := fun h => Nat.le_of_lt (small1000 h)
      walk_at "go"
      refine j_ixT hp'.sq rfl ?_
      walk_at "go"
      refine j_addS (small (by show wd.length + 1 ≤ 1000; omega)) ?_
      walk_at "go"
      refine j_ixT hp'.sq rfl ?_
      walk_at "go"
      refine ⟨va, a, rfl, ha, oa, by omega, ?_⟩
      have k1 : ∀ x y : Str, (x ++ y).length = x.length + y.length := fun x y => by rw [TL.len_tl, TL.tl_append, List.length_append, ← TL.len_tl, ← TL.len_tl]
      have c1 : ("(" : Str).length = 1 := rfl
      have c2 : (", " : Str).length = 2 := rfl
      have c3 : (")" : Str).length = 1 := rfl
      refine j_addS (small (by simp only [k1, c1, l1]; omega)) ?_
      walk_at "go"
      refine j_addS (small (by simp only [k1, c1, c2, l1]; omega)) ?_
      walk_at "go"
      refine j_ixT hp'.sq rfl ?_
      walk_at "go"
      refine ⟨vb, b, rfl, hb, ob, by omega, ?_⟩
      refine j_addS (small (by simp only [k1, c1, c2, l1, l2]; omega)) ?_
      walk_at "go"
      refine j_addS (small (by simp only [k1, c1, c2, c3, l1, l2]; omega)) ?_
      refine cast ?_ q
      congr 2
      refine (str_mk ?_).symm
      simp only [TL.tl_append, tl_mk']
      rfl
    · have c' : s.word ∉ joinedL := fun z => c (decide_eq_true z)
      walk_at "go"
      refine j_ixT hp.sq e0 ?_
      walk_at "go"
      refine ite2 (fun cm => ?_) (fun cm => ?_)
      · have cm' : s.word = "many" := V.str.inj (of_decide_eq_true cm)
        obtain ⟨n, rfl⟩ := (word_many hs).mp cm'
        obtain ⟨p', e', hp'⟩ := say_inv hv
        cases e'
        have hn : 1 ≤ n ∧ n ≤ 4095 := by cases d <;> exact hs
        walk_at "go"
        refine j_ixT hp'.sq rfl ?_
        walk_at "go"
        have hl : ((n : Int).natAbs).log2 < 1920 := small_log (by omega)
        refine j_strI hl ?_
        have e1 : TL.tl (Str.ofString (toString ((n : Nat) : Int))) = TL.numL n := TL.tl_num n
        have e2 : (toString (n : Int) : Str) = Str.ofString (toString ((n : Nat) : Int)) := rfl
        have ln : (TL.numL n).length ≤ 4 := TL.numL_len (by decide) (by omega)
        refine j_addS (Nat.le_of_lt (small1000 ?_)) ?_
        · have : (Str.ofString (toString ((n : Nat) : Int))).length = (TL.numL n).length := len_tl_ e1
          show 5 + (Str.ofString (toString ((n : Nat) : Int))).length ≤ 1000
          omega
        · refine cast ?_ q
          congr 2
          refine (str_mk ?_).symm
          rw [TL.tl_append]
          exact congrArg (manyC ++ ·) e1
      · walk_at "go"
        refine j_ixT hp.sq e0 ?_
        cases s with
        | pl wd =>
          refine cast ?_ q
          show Q (.str (mk (TL.tl wd))) H = Q (.str wd) H
          rw [mk_tl']
        | many n => exact absurd (decide_eq_true rfl) cm
        | jn wd a b =>
          cases d with
          | zero => exact hs.elim
          | succ d => exact absurd hs.1 c'
end

/-! ### cutting texts -/
theorem tl_cut (z : Str) (lo hi : Option Int) : TL.tl (cutS z lo hi) = ((TL.tl z).drop (HT.sIx z.length 0 lo)).take (HT.sIx z.length z.length hi - HT.sIx z.length 0 lo) := rfl
theorem cut_last (z : Str) : TL.tl (cutS z (some (-1)) none) = (TL.tl z).drop ((TL.tl z).length - 1) := by
  rw [tl_cut, ← TL.len_tl]
  have e : HT.sIx z.length 0 (some (-1)) = z.length - 1 := by
    show (if (-1 : Int) < 0 then ((-1 : Int) + (z.length : Int)).toNat else min (-1 : Int).toNat z.length) = _
    rw [if_pos (by decide)]
    omega
  rw [e, HT.sIx_none]
  exact List.take_of_length_le (by rw [List.length_drop, ← TL.len_tl]; omega)
theorem cut_butlast (z : Str) : TL.tl (cutS z none (some (-1))) = (TL.tl z).dropLast := by
  rw [tl_cut]
  have e : HT.sIx z.length z.length (some (-1)) = z.length - 1 := by
    show (if (-1 : Int) < 0 then ((-1 : Int) + (z.length : Int)).toNat else min (-1 : Int).toNat z.length) = _
    rw [if_pos (by decide)]
    omega
  rw [e, HT.sIx_none, List.drop_zero, List.dropLast_eq_take, ← TL.len_tl, Nat.sub_zero]
theorem cut_to (z : Str) (i : Nat) : TL.tl (cutS z none (some (i : Int))) = (TL.tl z).take i := by
  rw [tl_cut, HT.sIx_nat, HT.sIx_none, List.drop_zero, Nat.sub_zero, TL.len_tl]
  by_cases h : i ≤ (TL.tl z).length
  · rw [Nat.min_eq_left h]
  · rw [Nat.min_eq_right (by omega), List.take_of_length_le (Nat.le_refl _), List.take_of_length_le (by omega)]
theorem cut_from (z : Str) (i : Nat) : TL.tl (cutS z (some (i : Int)) none) = (TL.tl z).drop i := by
  rw [tl_cut, HT.sIx_nat, HT.sIx_none, TL.len_tl]
  by_cases h : i ≤ (TL.tl z).length
  · rw [Nat.min_eq_left h, List.take_of_length_le (by rw [List.length_drop]; omega)]
  · rw [Nat.min_eq_right (by omega), Nat.sub_self, List.take_zero, List.drop_eq_nil_of_le (by omega)]
theorem cut_two (z : Str) (i : Nat) : TL.tl (cutS z (some (i : Int)) (some ((i : Int) + 2))) = ((TL.tl z).drop i).take 2 := by
  have e2 : ((i : Int) + 2) = ((i + 2 : Nat) : Int) := by omega
  rw [tl_cut, e2, HT.sIx_nat, HT.sIx_nat, TL.len_tl]
  by_cases h : i ≤ (TL.tl z).length
  · rw [Nat.min_eq_left h]
    by_cases h2 : i + 2 ≤ (TL.tl z).length
    · rw [Nat.min_eq_left h2]
      congr 1
      omega
    · rw [Nat.min_eq_right (by omega)]
      rw [List.take_of_length_le (by rw [List.length_drop]; omega), List.take_of_length_le (by rw [List.length_drop]; omega)]
  · rw [Nat.min_eq_right (by omega), Nat.min_eq_right (by omega), Nat.sub_self, List.take_zero, List.drop_eq_nil_of_le (by omega), List.take_nil]
theorem cut_len (z : Str) (lo hi : Option Int) : (cutS z lo hi).length ≤ z.length := cutS_length z lo hi
theorem str_eq_iff (x y : Str) : x = y ↔ TL.tl x = TL.tl y := ⟨fun h => by rw [h], TL.ext_tl⟩
theorem dec_str_tl (x y : Str) : decide (V.str x = V.str y) = decide (TL.tl x = TL.tl y) := by
  by_cases h : TL.tl x = TL.tl y
  · rw [decide_eq_true h, TL.ext_tl h]; exact decide_eq_true rfl
  · rw [decide_eq_false h]; exact decide_eq_false fun z => h (by rw [V.str.inj z])
theorem last_sign (l : List Nat) : l.drop (l.length - 1) = [41] ↔ l.getLast? = some 41 := by
  cases l with
  | nil => simp
  | cons a r =>
    rw [List.getLast?_eq_getElem?, show (a :: r).length - 1 = r.length from rfl]
    have h : r.length < (a :: r).length := by rw [List.length_cons]; omega
    rw [List.drop_eq_getElem_cons h, List.getElem?_eq_getElem h, List.drop_eq_nil_of_le (by rw [List.length_cons]; omega)]
    simp
theorem starts_iff (x y : Str) : Txt.startswith x y = decide (TL.tl y <+: TL.tl x) := by
  have e : Builtin.Str.subAt x y 0 = ((TL.tl x).take (TL.tl y).length == TL.tl y) := by
    have := PySem.StrLaws.subAt_eq x y 0
    rw [List.drop_zero] at this
    rw [this, TL.len_tl]
  unfold Txt.startswith
  rw [e, TL.len_tl, TL.len_tl, Nat.zero_add, Bool.eq_iff_iff, decide_eq_true_iff, Bool.and_eq_true, decide_eq_true_iff, beq_iff_eq]
  constructor
  · rintro ⟨_, h⟩
    have h2 := List.take_append_drop (TL.tl y).length (TL.tl x)
    rw [h] at h2
    exact ⟨_, h2⟩
  · rintro ⟨r, h⟩
    rw [← h]
    exact ⟨by rw [List.length_append]; omega, List.take_left⟩
theorem dig_iff (c : Nat) : decide (c ∈ ("0123456789" : Str).cps.toList) = isDig c := by
  have e : ("0123456789" : Str).cps.toList = [48, 49, 50, 51, 52, 53, 54, 55, 56, 57] := by decide +kernel
  rw [e]
  unfold isDig
  by_cases h : 48 ≤ c ∧ c ≤ 57
  · rw [decide_eq_true h, decide_eq_true_iff]
    have : c = 48 ∨ c = 49 ∨ c = 50 ∨ c = 51 ∨ c = 52 ∨ c = 53 ∨ c = 54 ∨ c = 55 ∨ c = 56 ∨ c = 57 := by omega
    simpa using this
  · rw [decide_eq_false h, decide_eq_false_iff_not]
    intro hm
    have : c = 48 ∨ c = 49 ∨ c = 50 ∨ c = 51 ∨ c = 52 ∨ c = 53 ∨ c = 54 ∨ c = 55 ∨ c = 56 ∨ c = 57 := by simpa using hm
    omega

def spMany (K : PySem.W.Frag) : Sp := fun vs H Q _ => ∃ x : Str, vs = [.str x] ∧ x.length ≤ 100000 ∧ ∀ v H2, Same H H2 → (match manyL (TL.tl x) with | none => v = .non | some n => Dt K H2 v (Say.many n).toD) → Q v H2
def spJoin (K : PySem.W.Frag) (d : Nat) : Sp := fun vs H Q _ => ∃ x : Str, vs = [.str x, .int d] ∧ x.length ≤ 100000 ∧ mk (TL.tl x) ∉ plainL ∧ ¬ manyC <+: TL.tl x ∧ ∀ v H2, Same H H2 → (match readL d (TL.tl x) with | none => v = .non | some s => Dt K H2 v s.toD) → Q v H2
def spRead (K : PySem.W.Frag) : Nat → Sp
  | 0 => fun _ _ _ _ => False
  | d + 1 => fun vs H Q _ => ∃ x : Str, vs = [.str x, .int d] ∧ x.length ≤ 100000 ∧ ∀ v H2, Same H H2 → (match readL d (TL.tl x) with | none => v = .non | some s => Dt K H2 v s.toD) → Q v H2
theorem Say.two {K : PySem.W.Frag} {H : Hp} {p : Addr} {n : Nat} (h : H p = some (.tup [.str "many", .int n])) : Dt K H (.ref p) (Say.many n).toD :=
  .tup (.inl h) (.cons (.str _) (.cons (.int _) .nil))
theorem Say.one {K : PySem.W.Frag} {H : Hp} {p : Addr} {x : Str} (h : H p = some (.tup [.str x])) : Dt K H (.ref p) (Say.pl x).toD :=
  .tup (.inl h) (.cons (.str _) .nil)
theorem Say.three {K : PySem.W.Frag} {H : Hp} {p : Addr} {x : Str} {va vb : V} {a b : Say} (h : H p = some (.tup [.str x, va, vb])) (ha : Dt K H va a.toD) (hb : Dt K H vb b.toD) : Dt K H (.ref p) (Say.jn x a b).toD :=
  .tup (.inl h) (.cons (.str _) (.cons ha (.cons hb .nil)))
theorem not_t {b : Bool} (h : (!b) = true) : b = false := by cases b; rfl; exact absurd h Bool.false_ne_true
theorem not_f {b : Bool} (h : ¬ (!b) = true) : b = true := by cases b; exact absurd rfl h; rfl
theorem line_big {n : Nat} (h : n ≤ 100000) : n ≤ sizeLine := by rw [sizeLine_eq]; omega
section
variable {P : Program} {w : World} {K : PySem.W.Frag} {mg : Str → Option Value} {base : Heap}
theorem ok_split_place (T : Txt K mg) : FnOk P w K mg base CX0 1 T.split_place.f T.split_place.fd ps_split_place spSplit := by
  refine T.split_place.F.ok sc_split_place (fun vs H Q E h => ?_) (fun cdv A outer s H vs Q E hr h => ?_)
  · obtain ⟨x, rfl, _⟩ := h
    rfl
  obtain ⟨x, rfl, hx, q⟩ := h
  have hu := hu_of hr
  have hu4 := hr.units
  have hu65 := hu65_of hr
  refine ⟨_, (pss_cons (ps_set (i := 1) sc_split_place.nd rfl (Or.inl rfl) pe_int)
  (pss_cons (ps_for PassesOwn.never rfl (pi_enumS (by rfl) T.n_enumerate (pa_cons (pv 0) pa_nil)) (pg_tupK K rfl (by rfl) (pgs_cons (pg_name (i := 2) sc_split_place.nd rfl (Or.inl rfl)) (pgs_cons (pg_name (i := 3) sc_split_place.nd rfl (Or.inl rfl)) pgs_nil)))
  (pss_one (ps_if (pt_cmpR (r := rEqU K) (uEq hu4) (pv 3) pe_str (nomark _)) (pss_one (ps_set (i := 1) sc_split_place.nd rfl (Or.inl rfl) (pe_op uAdd (pv 1) pe_int))) (pss_one (ps_if (pt_cmpR (r := rEqU K) (uEq hu4) (pv 3) pe_str (nomark _)) (pss_one (ps_set (i := 1) sc_split_place.nd rfl (Or.inl rfl) (pe_op op_sub (pv 1) pe_int))) (pss_one (ps_if (PW.pt (pw_and (pt_cmpR (r := rEqU K) (uEq hu4) (pv 3) pe_str (nomark _)) (pw_and1 (pt_cmpR (r := rEqU K) (uEq hu4) (pv 1) pe_int (nomark _))))) (pss_one (ps_ret (pv 2))) pss_nil)))))))
  (pss_one (ps_ret pe_non)))), ?_⟩
  generalize ez : splitL 0 0 (TL.tl x) = z at q
  walk_at "go"
  refine for_enumS (fun i σ H' => ∃ (dep : Int) (y2 y3 : Option V), σ = [some (.str x), some (.int dep), y2, y3] ∧ Same H H' ∧ z = splitL dep i ((TL.tl x).drop i)) ?_ ?_ ?_
  · exact ⟨0, none, none, rfl, Same.refl _, ez.symm⟩
  · rintro i c σ H1 p H2 hc ⟨dep, y2, y3, rfl, s1, e⟩ np s2 e2
    have hl : i < (TL.tl x).length := by
      have := (Array.getElem?_eq_some_iff.mp hc).1
      rw [← TL.len_tl]; exact this
    have hcx : (TL.tl x).drop i = c :: (TL.tl x).drop (i + 1) := by
      rw [List.drop_eq_getElem_cons hl]
      congr 1
      have := (Array.getElem?_eq_some_iff.mp hc).2
      rw [← this]; rfl
    rw [hcx] at e
    unfold splitL at e
    refine j_gt (.of e2) rfl ?_
    walk_at "go"
    have dc : ∀ k : Nat, decide (V.str ⟨#[c]⟩ = V.str ⟨#[k]⟩) = decide (c = k) := fun k => by
      rw [dec_str_tl]
      by_cases h : c = k
      · subst h; simp
      · rw [decide_eq_false h]; exact decide_eq_false fun z => h (by simpa using z)
    refine ite2 (fun h40 => ?_) (fun h40 => ?_)
    · have h40' : c = 40 := of_decide_eq_true ((dc 40).symm.trans h40)
      rw [if_pos h40'] at e
      walk_at "go"
      exact ⟨dep + 1, _, _, rfl, s1.trans s2, e⟩
    · have h40' : ¬ c = 40 := fun z => h40 ((dc 40).trans (decide_eq_true z))
      rw [if_neg h40'] at e
      walk_at "go"
      refine ite2 (fun h41 => ?_) (fun h41 => ?_)
      · have h41' : c = 41 := of_decide_eq_true ((dc 41).symm.trans h41)
        rw [if_pos h41'] at e
        walk_at "go"
        exact ⟨dep - 1, _, _, rfl, s1.trans s2, e⟩
      · have h41' : ¬ c = 41 := fun z => h41 ((dc 41).trans (decide_eq_true z))
        rw [if_neg h41'] at e
        walk_at "go"
        refine ite2 (fun h44 => ?_) (fun h44 => ?_)
        · have h44' : c = 44 := of_decide_eq_true ((dc 44).symm.trans h44)
          walk_at "go"
          refine ite2 (fun h0 => ?_) (fun h0 => ?_)
          · have h0' : dep = 0 := V.int.inj (of_decide_eq_true h0)
            rw [if_pos ⟨h44', h0'⟩] at e
            walk_at "go"
            have := q H2 (s1.trans s2)
            rw [e] at this
            exact this
          · have h0' : ¬ dep = 0 := fun z => h0 (decide_eq_true (by rw [z]))
            rw [if_neg (fun z => h0' z.2)] at e
            walk_at "go"
            exact ⟨dep, _, _, rfl, s1.trans s2, e⟩
        · have h44' : ¬ c = 44 := fun z => h44 ((dc 44).trans (decide_eq_true z))
          rw [if_neg (fun z => h44' z.1)] at e
          walk_at "go"
          exact ⟨dep, _, _, rfl, s1.trans s2, e⟩
  · rintro σ H1 ⟨dep, y2, y3, rfl, s1, e⟩
    have hd : (TL.tl x).drop x.cps.size = [] := List.drop_eq_nil_of_le (by show (TL.tl x).length ≤ _; rw [← TL.len_tl]; exact Nat.le_refl _)
    rw [hd] at e
    walk_at "go"
    have := q H1 s1
    rw [e] at this
    exact this
theorem ok_many_in (T : Txt K mg) : FnOk P w K mg base CX0 1 T.many_in.f T.many_in.fd ps_many_in (spMany K) := by
  refine T.many_in.F.ok sc_many_in (fun vs H Q E h => ?_) (fun cdv A outer s H vs Q E hr h => ?_)
  · obtain ⟨x, rfl, _⟩ := h
    rfl
  obtain ⟨x, rfl, hx, q⟩ := h
  have hu := hu_of hr
  have hu4 := hr.units
  have hu65 := hu65_of hr
  have lx := TL.len_tl x
  have no : manyL (TL.tl x) = none → Q .non H := fun e => q .non H (Same.refl _) (by rw [e])
  refine ⟨_, (pss_cons (ps_if (PW.pt (pw_or (pt_not (pt_chain op_le op_le pe_int (pe_callB (r := rLenU K) uLen (by rfl) T.n_len (by decide +kernel) (pa_cons (pv 0) pa_nil)) (pe_glob (by rfl) T.g_LONGEST_NUMBER.g T.g_LONGEST_NUMBER.r))) (pw_or1 (pt_cmpR (r := rEqU K) (uEq hu4) (pe_ix (r := rIx K) ix_seq (pv 0) pe_int (fun _ _ => rfl)) pe_str (nomark _))))) (pss_one (ps_ret pe_non)) pss_nil)
  (pss_cons (ps_for PassesOwn.never rfl (pi_str (pv 0)) (pg_name (i := 1) sc_many_in.nd rfl (Or.inl rfl))
  (pss_one (ps_if (pt_cmpR (r := rNotInU K) (uNotIn hu65) (pv 1) (pe_glob (by rfl) T.g_FIGURES.g T.g_FIGURES.r) (by rfl)) (pss_one (ps_ret pe_non)) pss_nil)))
  (pss_cons (ps_if (pt_cmpR op_gt (pe_callTy uInt (by rfl) T.n_int (by decide +kernel) (pa_cons (pv 0) pa_nil)) (pe_glob (by rfl) T.g_MOST_MANY.g T.g_MOST_MANY.r) (nomark _)) (pss_one (ps_ret pe_non)) pss_nil)
  (pss_one (ps_ret (pe_tup (pa_cons pe_str (pa_cons (pe_callTy uInt (by rfl) T.n_int (by decide +kernel) (pa_cons (pv 0) pa_nil)) pa_nil)))))))), ?_⟩
  have two : (x.length < 1 ∨ 4 < x.length) ∨ (1 ≤ x.length ∧ x.length ≤ 4) := by omega
  walk_at "go"
  refine j_lenS (line_big hx) ?_
  walk_at "go"
  refine ite2 (fun h1 => ?_) (fun h1 => ?_)
  · have h1' : 1 ≤ x.length := by have := of_decide_eq_true h1; omega
    walk_at "go"
    refine ite2 (fun h2 => ?_) (fun h2 => ?_)
    · have h2' : ¬ x.length ≤ 4 := by
        have h2 := not_t h2
        have := of_decide_eq_false h2
        omega
      walk_at "go"
      exact no (by unfold manyL; rw [if_pos (by omega)])
    · have h2' : x.length ≤ 4 := by
        have h2 : decide (((x.length : Nat) : Int) ≤ 4) = true := by
          cases e : decide (((x.length : Nat) : Int) ≤ 4) with
          | true => rfl
          | false => rw [e] at h2; exact absurd rfl h2
        have := of_decide_eq_true h2
        omega
      obtain ⟨c0, r0, ex⟩ : ∃ c0 r0, TL.tl x = c0 :: r0 := by
        cases e : TL.tl x with
        | nil => rw [e] at lx; simp at lx; omega
        | cons a r => exact ⟨a, r, rfl⟩
      have ex' : x.cps.toList = c0 :: r0 := ex
      walk_at "go"
      refine j_ixS (c := c0) (line_big hx) (by rw [ex']; exact atI_nat (j := 0) rfl) ?_
      walk_at "go"
      have dc : decide (V.str ⟨#[c0]⟩ = V.str ("0" : Str)) = decide (c0 = 48) := by
        rw [dec_str_tl]
        by_cases h : c0 = 48
        · subst h; rfl
        · rw [decide_eq_false h]; exact decide_eq_false fun z => h (by
            have : TL.tl ("0" : Str) = [48] := rfl
            rw [this] at z
            exact (List.cons.inj (show [c0] = [48] from z)).1)
      rw [dc]
      refine ite2 (fun h3 => ?_) (fun h3 => ?_)
      · have h3' : c0 = 48 := of_decide_eq_true h3
        walk_at "go"
        refine no ?_
        unfold manyL
        rw [if_pos (.inr (.inr (by rw [ex, h3']; rfl)))]
      · have h3' : ¬ c0 = 48 := fun z => h3 (decide_eq_true z)
        have em : manyL (TL.tl x) = if (TL.tl x).all isDig = true then (if 4095 < NumText.digitsVal (TL.tl x) then none else some (NumText.digitsVal (TL.tl x))) else none := by
          unfold manyL
          rw [if_neg]
          rintro (h | h | h)
          · omega
          · omega
          · rw [ex] at h; exact h3' (Option.some.inj h)
        walk_at "go"
        refine for_str (fun i σ H' => ∃ y, σ = [some (.str x), y] ∧ H' = H ∧ ((TL.tl x).take i).all isDig = true) ⟨none, rfl, rfl, rfl⟩ ?_ ?_
        · rintro i c σ H1 hc ⟨y, rfl, rfl, ha⟩
          have hcx : (TL.tl x)[i]? = some c := by
            have := hc
            rw [← Array.getElem?_toList] at this
            exact this
          walk_at "go"
          refine j_ninS ?_
          rw [dig_iff]
          walk_at "go"
          refine ite2 (fun h4 => ?_) (fun h4 => ?_)
          · have h4' : isDig c = false := not_t h4
            walk_at "go"
            refine no ?_
            rw [em, if_neg]
            intro hall
            have := List.all_eq_true.mp hall c (List.mem_of_getElem? hcx)
            rw [h4'] at this
            exact Bool.false_ne_true this
          · have h4' : isDig c = true := by
              cases e : isDig c with
              | true => rfl
              | false => rw [e] at h4; exact absurd rfl h4
            walk_at "go"
            refine ⟨_, rfl, rfl, ?_⟩
            rw [List.take_add_one, hcx, List.all_append, ha]
            simpa using h4'
        · rintro σ H1 ⟨y, rfl, rfl, ha⟩
          have hall : (TL.tl x).all isDig = true := by
            rw [List.take_of_length_le (by rw [← TL.len_tl]; exact Nat.le_refl _)] at ha
            exact ha
          rw [if_pos hall] at em
          have hdig : NumText.AllDigits x.cps.toList := fun c hc => of_decide_eq_true (List.all_eq_true.mp hall c hc)
          have hne : x.cps.toList ≠ [] := by rw [ex']; exact List.cons_ne_nil _ _
          have hi := PySem.intText_digits hdig hne (by omega)
          walk_at "go"
          refine j_intS hi (by omega) ?_
          walk_at "go"
          refine ite2 (fun h5 => ?_) (fun h5 => ?_)
          · have h5' := of_decide_eq_true h5
            walk_at "go"
            refine no ?_
            rw [em, if_pos (by show 4095 < NumText.digitsVal x.cps.toList; omega)]
          · have h5' : ¬ (4095 : Int) < (NumText.digitsVal x.cps.toList : Nat) := fun z => h5 (decide_eq_true z)
            rw [if_neg (by show ¬ 4095 < NumText.digitsVal x.cps.toList; omega)] at em
            walk_at "go"
            refine j_intS hi (by omega) ?_
            walk_at "go"
            refine j_al fun p H2 np s2 e2 => ?_
            refine q _ H2 s2 ?_
            rw [em]
            exact Say.two e2
  · have h1' : ¬ 1 ≤ x.length := fun z => h1 (decide_eq_true (by omega))
    walk_at "go"
    exact no (by unfold manyL; rw [if_pos (by omega)])
end

theorem par_len {S : List Nat} : ∀ (l acc a b : List Nat), TL.par S acc l = some (a, b) → b.length ≤ l.length
  | [], acc, a, b, h => by cases h
  | c :: r, acc, a, b, h => by
    cases hp : TL.pre S (c :: r) with
    | true =>
      rw [TL.par_hit hp] at h
      cases h
      rw [List.length_drop]
      omega
    | false =>
      rw [TL.par_miss hp] at h
      have := par_len r _ a b h
      rw [List.length_cons]
      omega
section
variable {P : Program} {w : World} {K : PySem.W.Frag} {mg : Str → Option Value} {base : Heap}
theorem ok_joined_in (T : Txt K mg) (d : Nat) (G_saying_in : FnOk P w K mg base CX0 (2 * d + 1) T.saying_in.f T.saying_in.fd ps_saying_in (spRead K d)) :
    FnOk P w K mg base CX0 (2 * d + 2) T.joined_in.f T.joined_in.fd ps_joined_in (spJoin K d) := by
  have G_split_place := ok_split_place (P := P) (w := w) (base := base) T
  refine T.joined_in.F.ok sc_joined_in (fun vs H Q E h => ?_) (fun cdv A outer s H vs Q E hr h => ?_)
  · obtain ⟨x, rfl, _⟩ := h
    rfl
  obtain ⟨x, rfl, hx, np, nm, q⟩ := h
  have hu := hu_of hr
  have hu4 := hr.units
  have hu65 := hu65_of hr
  rw [show mk (TL.tl x) = mk (TL.tl x) from rfl] at np
  refine ⟨_, (pss_cons (ps_asg (pe_m1 PySem.F.slot_str_partition PySem.F.type_str_partition mt_partU (pv 0) pe_str) (pg_tupK K rfl (by rfl) (pgs_cons (pg_name (i := 2) sc_joined_in.nd rfl (Or.inl rfl)) (pgs_cons (pg_name (i := 3) sc_joined_in.nd rfl (Or.inl rfl)) (pgs_cons (pg_name (i := 4) sc_joined_in.nd rfl (Or.inl rfl)) pgs_nil)))))
  (pss_cons (ps_if (PW.pt (pw_or (pt_cmpR (r := rEqU K) (uEq hu4) (pv 3) pe_str (nomark _)) (pw_or (pt_cmpR (r := rNotInU K) (uNotIn hu65) (pv 2) (pe_glob (by rfl) T.g_JOINED.g T.g_JOINED.r) (by rfl)) (pw_or (pt_cmpR (r := rEqU K) (uEq hu4) (pv 1) pe_int (nomark _)) (pw_or1 (pt_cmpR (r := rNeU K) (uNe hu4) (pe_slice (r := rSlU K) uSl (pv 4) (po_some (pe_un un_neg pe_int)) po_none) pe_str (nomark _))))))) (pss_one (ps_ret pe_non)) pss_nil)
  (pss_cons (ps_set (i := 4) sc_joined_in.nd rfl (Or.inl rfl) (pe_slice (r := rSlU K) uSl (pv 4) po_none (po_some (pe_un un_neg pe_int))))
  (pss_cons (ps_set (i := 5) sc_joined_in.nd rfl (Or.inl rfl) (pe_call G_split_place (hr.mono (by omega)) (by rfl) T.split_place.g T.split_place.F.kp T.split_place.b .nil pass0 (pa_cons (pv 4) pa_nil)))
  (pss_cons (ps_if (PW.pt (pw_or (pt_cmpR uIsN (pv 5) pe_non (nomark _)) (pw_or1 (pt_cmpR (r := rNeU K) (uNe hu4) (pe_slice (r := rSlU K) uSl (pv 4) (po_some (pv 5)) (po_some (pe_op uAdd (pv 5) pe_int))) pe_str (nomark _))))) (pss_one (ps_ret pe_non)) pss_nil)
  (pss_cons (ps_set (i := 6) sc_joined_in.nd rfl (Or.inl rfl) (pe_call G_saying_in (hr.mono (by omega)) (by rfl) T.saying_in.g T.saying_in.F.kp T.saying_in.b .nil pass0 (pa_cons (pe_slice (r := rSlU K) uSl (pv 4) po_none (po_some (pv 5))) (pa_cons (pe_op op_sub (pv 1) pe_int) pa_nil))))
  (pss_cons (ps_set (i := 7) sc_joined_in.nd rfl (Or.inl rfl) (pe_call G_saying_in (hr.mono (by omega)) (by rfl) T.saying_in.g T.saying_in.F.kp T.saying_in.b .nil pass0 (pa_cons (pe_slice (r := rSlU K) uSl (pv 4) (po_some (pe_op uAdd (pv 5) pe_int)) po_none) (pa_cons (pe_op op_sub (pv 1) pe_int) pa_nil))))
  (pss_cons (ps_if (PW.pt (pw_or (pt_cmpR uIsN (pv 6) pe_non (nomark _)) (pw_or1 (pt_cmpR uIsN (pv 7) pe_non (nomark _))))) (pss_one (ps_ret pe_non)) pss_nil)
  (pss_one (ps_ret (pe_tup (pa_cons (pv 2) (pa_cons (pv 6) (pa_cons (pv 7) pa_nil)))))))))))))), ?_⟩
  walk_at "go"
  refine j_partit rfl (line_big hx) ?_
  refine j_al fun p H1 n1 s1 e1 => ?_
  rw [TL.partition_par x "(" (by decide +kernel)] at e1
  have c40 : TL.tl ("(" : Str) = [40] := rfl
  rw [c40] at e1
  have no : ∀ H2, Same H H2 → readL d (TL.tl x) = none → Q .non H2 := fun H2 s2 e => q .non H2 s2 (by rw [e])
  have e0 : ∀ e, d = e + 1 → readL d (TL.tl x) = (match TL.par [40] [] (TL.tl x) with
    | none => none
    | some (w, rest) =>
      if mk w ∉ joinedL ∨ rest.getLast? ≠ some 41 then none else
      match splitL 0 0 rest.dropLast with
      | none => none
      | some i => if ((rest.dropLast).drop i).take 2 ≠ [44, 32] then none else
        match readL e ((rest.dropLast).take i), readL e ((rest.dropLast).drop (i + 2)) with
        | some a, some b => some (.jn (mk w) a b)
        | _, _ => none) := fun e he => by
    subst he
    conv => lhs; unfold readL
    rw [if_neg np, if_neg nm] <;> rfl
  have z0 : d = 0 → readL d (TL.tl x) = none := fun he => by
    subst he
    unfold readL
    rw [if_neg np, if_neg nm]
  cases hpar : TL.par [40] [] (TL.tl x) with
  | none =>
    rw [hpar] at e1
    dsimp only at e1
    refine j_gt (.of e1) rfl ?_
    walk_at "go"
    refine no H1 s1 ?_
    cases d with
    | zero => exact z0 rfl
    | succ e => rw [e0 e rfl, hpar]
  | some wr =>
    obtain ⟨wd, rest⟩ := wr
    rw [hpar] at e1
    dsimp only at e1
    have e1 : H1 p = some (.tup [.str (mk wd), .str ("(" : Str), .str (mk rest)]) := e1
    -- lengths
    have hrl : rest.length ≤ 100000 := by
      have := TL.len_tl x
      have := par_len _ _ _ _ hpar
      omega
    refine j_gt (.of e1) rfl ?_
    walk_at "go"
    refine j_ninTS joinedL (T.g_JOINED.t _) rfl ?_
    walk_at "go"
    refine ite2 (fun hw => ?_) (fun hw => ?_)
    · have hw' : mk wd ∉ joinedL := of_decide_eq_false (not_t hw)
      walk_at "go"
      refine no H1 s1 ?_
      cases d with
      | zero => exact z0 rfl
      | succ e => rw [e0 e rfl, hpar]; exact if_pos (.inl hw')
    have hw' : mk wd ∈ joinedL := of_decide_eq_true (not_f hw)
    walk_at "go"
    refine ite2 (fun hd => ?_) (fun hd => ?_)
    · have hd' : d = 0 := by have := V.int.inj (of_decide_eq_true hd); omega
      walk_at "go"
      exact no H1 s1 (z0 hd')
    have hd' : d ≠ 0 := fun z => hd (decide_eq_true (by rw [z]; rfl))
    obtain ⟨e, rfl⟩ : ∃ e, d = e + 1 := ⟨d - 1, by omega⟩
    have e0 := e0 e rfl
    rw [hpar] at e0
    have e0 : readL (e + 1) (TL.tl x) = (if mk wd ∉ joinedL ∨ rest.getLast? ≠ some 41 then none else
      match splitL 0 0 rest.dropLast with
      | none => none
      | some i => if ((rest.dropLast).drop i).take 2 ≠ [44, 32] then none else
        match readL e ((rest.dropLast).take i), readL e ((rest.dropLast).drop (i + 2)) with
        | some a, some b => some (.jn (mk wd) a b)
        | _, _ => none) := e0
    have lr : (mk rest).length = rest.length := by rw [TL.len_tl]; rfl
    walk_at "go"
    refine j_slS (line_big (by omega)) ?_
    walk_at "go"
    have dl : decide (V.str (cutS (mk rest) (some (-1)) none) = V.str (")" : Str)) = decide (rest.getLast? = some 41) := by
      rw [dec_str_tl, cut_last]
      have c41 : TL.tl (")" : Str) = [41] := rfl
      rw [c41, Bool.eq_iff_iff, decide_eq_true_iff, decide_eq_true_iff]
      exact last_sign rest
    rw [show ((-1 : Int)) = -(1 : Int) from rfl] at dl
    rw [dl]
    refine ite2 (fun hz => ?_) (fun hz => ?_)
    · have hz' := of_decide_eq_false (not_t hz)
      walk_at "go"
      refine no H1 s1 ?_
      rw [e0]; exact if_pos (.inr hz')
    have hz' := of_decide_eq_true (not_f hz)
    rw [if_neg (by rintro (h | h); exact h hw'; exact h hz')] at e0
    walk_at "go"
    refine j_slS (line_big (by omega)) ?_
    walk_at "go"
    have eb : TL.tl (cutS (mk rest) none (some (-1))) = rest.dropLast := cut_butlast (mk rest)
    rw [show ((-1 : Int)) = -(1 : Int) from rfl] at eb
    have lb : (cutS (mk rest) none (some (-1))).length ≤ 100000 := by
      have := cut_len (mk rest) none (some (-1))
      omega
    rw [show ((-1 : Int)) = -(1 : Int) from rfl] at lb
    generalize cutS (mk rest) none (some (-(1 : Int))) = r2 at eb lb
    refine ⟨r2, rfl, lb, fun H2 s2 => ?_⟩
    rw [eb]
    cases hsp : splitL 0 0 rest.dropLast with
    | none =>
      rw [hsp] at e0
      walk_at "go"
      exact no H2 (s1.trans s2) e0
    | some i =>
      rw [hsp] at e0
      dsimp only at e0
      walk_at "go"
      refine j_slS (line_big lb) ?_
      walk_at "go"
      have d2 : decide (V.str (cutS r2 (some (i : Int)) (some ((i : Int) + 2))) = V.str (", " : Str)) = decide (((rest.dropLast).drop i).take 2 = [44, 32]) := by
        rw [dec_str_tl, cut_two, eb]
        rfl
      rw [d2]
      refine ite2 (fun h2 => ?_) (fun h2 => ?_)
      · have h2' := of_decide_eq_false (not_t h2)
        rw [if_pos h2'] at e0
        walk_at "go"
        exact no H2 (s1.trans s2) e0
      have h2' := of_decide_eq_true (not_f h2)
      rw [if_neg (fun z => z h2')] at e0
      walk_at "go"
      refine j_slS (line_big lb) ?_
      walk_at "go"
      have ed : ((e + 1 : Nat) : Int) - 1 = ((e : Nat) : Int) := by omega
      refine ⟨cutS r2 none (some (i : Int)), by rw [ed]; rfl, Nat.le_trans (cut_len _ _ _) lb, fun v1 H3 s3 r1 => ?_⟩
      rw [cut_to, eb] at r1
      walk_at "go"
      refine j_slS (line_big lb) ?_
      walk_at "go"
      have ei : ((i : Int) + 2) = ((i + 2 : Nat) : Int) := by omega
      refine ⟨cutS r2 (some ((i : Int) + 2)) none, by rw [ed]; rfl, Nat.le_trans (cut_len _ _ _) lb, fun v2 H4 s4 r2' => ?_⟩
      rw [ei, cut_from, eb] at r2'
      have sx : Same H H4 := s1.trans (s2.trans (s3.trans s4))
      walk_at "go"
      cases h5 : readL e ((rest.dropLast).take i) with
      | none =>
        rw [h5] at r1 e0
        have r1 : v1 = .non := r1
        subst r1
        walk_at "go"
        exact no H4 sx e0
      | some a =>
        rw [h5] at r1 e0
        have r1 : Dt K H3 v1 a.toD := r1
        obtain ⟨p1, hp1, _⟩ := say_inv r1
        subst hp1
        walk_at "go"
        cases h6 : readL e ((rest.dropLast).drop (i + 2)) with
        | none =>
          rw [h6] at r2' e0
          have r2' : v2 = .non := r2'
          subst r2'
          walk_at "go"
          exact no H4 sx e0
        | some b =>
          rw [h6] at r2' e0
          have r2' : Dt K H4 v2 b.toD := r2'
          obtain ⟨p2, hp2, _⟩ := say_inv r2'
          subst hp2
          walk_at "go"
          refine j_al fun p5 H5 n5 s5 e5 => ?_
          refine q _ H5 (sx.trans s5) ?_
          rw [e0]
          exact Say.three e5 (ts_dt (ts_same (s4.trans s5)) r1) (ts_dt (ts_same s5) r2')
end

section
variable {P : Program} {w : World} {K : PySem.W.Frag} {mg : Str → Option Value} {base : Heap}
theorem plain_read {d : Nat} {x : Str} (h : x ∈ plainL) : readL d (TL.tl x) = some (.pl x) := by
  cases d <;> (unfold readL; rw [mk_tl', if_pos h])
theorem many_read {d : Nat} {x : Str} (h : x ∉ plainL) (hm : manyC <+: TL.tl x) : readL d (TL.tl x) = (manyL ((TL.tl x).drop 5)).map .many := by
  cases d <;> (unfold readL; rw [mk_tl', if_neg h, if_pos hm])
theorem ok_saying_in_step (T : Txt K mg) (d : Nat) (G_joined_in : FnOk P w K mg base CX0 (2 * d + 2) T.joined_in.f T.joined_in.fd ps_joined_in (spJoin K d)) :
    FnOk P w K mg base CX0 (2 * (d + 1) + 1) T.saying_in.f T.saying_in.fd ps_saying_in (spRead K (d + 1)) := by
  have G_many_in := ok_many_in (P := P) (w := w) (base := base) T
  refine T.saying_in.F.ok sc_saying_in (fun vs H Q E h => ?_) (fun cdv A outer s H vs Q E hr h => ?_)
  · obtain ⟨x, rfl, _⟩ := h
    rfl
  obtain ⟨x, rfl, hx, q⟩ := h
  have hu := hu_of hr
  have hu4 := hr.units
  have hu65 := hu65_of hr
  refine ⟨_, (pss_cons (ps_if (pt_cmpR (r := rInU K) (uIn hu65) (pv 0) (pe_glob (by rfl) T.g_PLAIN.g T.g_PLAIN.r) (by rfl)) (pss_one (ps_ret (pe_tup (pa_cons (pv 0) pa_nil)))) pss_nil)
  (pss_cons (ps_if (pt_val (pe_m1 PySem.F.slot_str_startswith PySem.F.type_str_startswith mt_startsU (pv 0) pe_str)) (pss_one (ps_ret (pe_call G_many_in (hr.mono (by omega)) (by rfl) T.many_in.g T.many_in.F.kp T.many_in.b .nil pass0 (pa_cons (pe_slice (r := rSlU K) uSl (pv 0) (po_some pe_int) po_none) pa_nil)))) pss_nil)
  (pss_one (ps_ret (pe_call G_joined_in (hr.mono (by omega)) (by rfl) T.joined_in.g T.joined_in.F.kp T.joined_in.b .nil pass0 (pa_cons (pv 0) (pa_cons (pv 1) pa_nil))))))), ?_⟩
  walk_at "go"
  refine j_inTS plainL (T.g_PLAIN.t _) rfl ?_
  walk_at "go"
  refine ite2 (fun hp => ?_) (fun hp => ?_)
  · have hp' : x ∈ plainL := of_decide_eq_true hp
    walk_at "go"
    refine j_al fun p H1 n1 s1 e1 => ?_
    refine q _ H1 s1 ?_
    rw [plain_read hp']
    exact Say.one e1
  have hp' : x ∉ plainL := fun z => hp (decide_eq_true z)
  walk_at "go"
  have em : TL.tl ("many " : Str) = manyC := rfl
  rw [starts_iff, em]
  refine ite2 (fun hm => ?_) (fun hm => ?_)
  · have hm' : manyC <+: TL.tl x := of_decide_eq_true hm
    walk_at "go"
    refine j_slS (line_big hx) ?_
    refine ⟨cutS x (some ((5 : Nat) : Int)) none, rfl, Nat.le_trans (cut_len _ _ _) hx, fun v H2 s2 r => ?_⟩
    refine q v H2 s2 ?_
    rw [cut_from] at r
    rw [many_read hp' hm']
    cases hml : manyL ((TL.tl x).drop 5) with
    | none => rw [hml] at r; exact r
    | some n => rw [hml] at r; exact r
  · have hm' : ¬ manyC <+: TL.tl x := fun z => hm (decide_eq_true z)
    walk_at "go"
    exact ⟨x, rfl, hx, by rw [mk_tl']; exact hp', hm', q⟩
theorem ok_saying_in (T : Txt K mg) : ∀ d, FnOk P w K mg base CX0 (2 * d + 1) T.saying_in.f T.saying_in.fd ps_saying_in (spRead K d)
  | 0 => (fn_none fun _ _ _ _ z => z).mono (by omega)
  | d + 1 => ok_saying_in_step T d (ok_joined_in T d (ok_saying_in T d))
end

/-! ### the law's draws: any numbers, for all that is asked -/
/-- a pool stands at l: two whole numbers, neither below 0, the other below 2^31 -/
def PoolAt (H : Hp) (l : Addr) : Prop := ∃ c s : Int, H l = some (.lst [.int c, .int s]) ∧ 0 ≤ c ∧ 0 ≤ s ∧ s < 2147483647
def spCell (K : PySem.W.Frag) : Sp := fun vs H Q _ => ∃ (a : Addr) (ns : List Int) (k : Int), vs = [.ref a, .int k] ∧ SqL K H a (ns.map V.int) ∧ 0 ≤ k ∧ ∀ v : Int, Q (.int v) H
def spPool (K : PySem.W.Frag) : Sp := fun vs H Q _ => ∃ (a : Addr) (ns : List Int) (k : Int), vs = [.ref a, .int k] ∧ SqL K H a (ns.map V.int) ∧ 0 ≤ k ∧ k < 1000 ∧ ∀ l H2, H l = none → Same H H2 → PoolAt H2 l → Q (.ref l) H2
def spTake : Sp := fun vs H Q _ => ∃ (l : Addr) (n : Int), vs = [.ref l, .int n] ∧ PoolAt H l ∧ 0 < n ∧ n < 1073741824 ∧ ∀ (r : Int) (H2 : Hp), 0 ≤ r → r < n → PoolAt H2 l → Same (hide l H) (hide l H2) → Q (.int r) H2
section
variable {P : Program} {w : World} {K : PySem.W.Frag} {mg : Str → Option Value} {base : Heap}
theorem atI_map {ns : List Int} {k : Int} (h0 : 0 ≤ k) (h1 : k < ns.length) : ∃ v : Int, atI (ns.map V.int) k = some (.int v) := by
  obtain ⟨j, rfl⟩ := Int.eq_ofNat_of_zero_le h0
  have hj : j < ns.length := by omega
  refine ⟨ns[j], atI_nat ?_⟩
  rw [List.getElem?_map, List.getElem?_eq_getElem hj]
  rfl
theorem ok__law_cell_at (T : Txt K mg) : FnOk P w K mg base CX0 1 T._law_cell_at.f T._law_cell_at.fd ps__law_cell_at (spCell K) := by
  refine T._law_cell_at.F.ok sc__law_cell_at (fun vs H Q E h => ?_) (fun cdv A outer s H vs Q E hr h => ?_)
  · obtain ⟨a, ns, k, rfl, _⟩ := h
    rfl
  · obtain ⟨a, ns, k, rfl, hS, h0, q⟩ := h
    have hu := hu_of hr
    have hu4 := hr.units
    refine ⟨_, (pss_cons (ps_if (pt_cmpR op_lt (pv 1) (pe_callB (r := rLenU K) uLen (by rfl) T.n_len (by decide +kernel) (pa_cons (pv 0) pa_nil)) (nomark _)) (pss_one (ps_ret (pe_ix (r := rIx K) ix_seq (pv 0) (pv 1) (fun _ _ => rfl)))) pss_nil)
  (pss_one (ps_ret pe_int))), ?_⟩
    walk_at "go"
    refine j_lenL hS ?_
    walk_at "go"
    refine ite2 (fun c => ?_) (fun c => ?_)
    · walk_at "go"
      have c' : k < ns.length := by simpa using c
      obtain ⟨v, e⟩ := atI_map h0 c'
      exact j_ixL hS e (q v)
    · walk_at "go"
      exact q 0
theorem ok__law_pool (T : Txt K mg) : FnOk P w K mg base CX0 2 T._law_pool.f T._law_pool.fd ps__law_pool (spPool K) := by
  have G__law_cell_at := ok__law_cell_at (P := P) (w := w) (base := base) T
  refine T._law_pool.F.ok sc__law_pool (fun vs H Q E h => ?_) (fun cdv A outer s H vs Q E hr h => ?_)
  · obtain ⟨a, ns, k, rfl, _⟩ := h
    rfl
  · obtain ⟨a, ns, k, rfl, hS, h0, h1, q⟩ := h
    have hu := hu_of hr
    have hu4 := hr.units
    refine ⟨_, (pss_cons (ps_set (i := 2) sc__law_pool.nd rfl (Or.inl rfl) (pe_call G__law_cell_at (hr.mono (by omega)) (by rfl) T._law_cell_at.g T._law_cell_at.F.kp T._law_cell_at.b .nil pass0 (pa_cons (pv 0) (pa_cons (pv 1) pa_nil))))
  (pss_cons (ps_set (i := 3) sc__law_pool.nd rfl (Or.inl rfl) (pe_op op_modN (pe_op uMul (pe_op uAdd (pe_op uAdd (pe_op op_modN (pv 2) pe_int) (pe_op uMul (pe_op uMul pe_int (pv 1)) (pv 1))) pe_int) pe_int) pe_int))
  (pss_cons (ps_if (pt_cmpR op_lt (pv 2) (pe_op op_pow pe_int pe_int) (nomark _)) (pss_one (ps_set (i := 2) sc__law_pool.nd rfl (Or.inl rfl) pe_int)) pss_nil)
  (pss_one (ps_ret (pe_lst (pa_cons (pv 2) (pa_cons (pe_op op_modN (pe_op uMul (pv 3) (pv 3)) pe_int) pa_nil)))))))), ?_⟩
    walk_at "go"
    refine ⟨a, ns, k, rfl, hS, h0, fun v => ?_⟩
    walk_at "go"
    refine j_rI (by decide) ?_
    walk_at "go"
    refine j_mulL (by decide) (by decide) ?_
    walk_at "go"
    refine j_mulR (by omega) (by omega) ?_
    walk_at "go"
    refine j_mulR (by decide) (by decide) ?_
    walk_at "go"
    refine j_rI (by decide) ?_
    walk_at "go"
    refine j_rI ⟨by decide, by decide, by decide⟩ ?_
    walk_at "go"
    have f1 : ∀ (m : Int) (v : Int), 0 < m → 0 ≤ v.fmod m ∧ v.fmod m < m := fun m v hm => ⟨Int.fmod_nonneg_of_pos _ hm, Int.fmod_lt_of_pos _ hm⟩
    generalize (v.fmod 2147483629 + 7919 * k * k + 1) * 48271 = z
    obtain ⟨z0, z1⟩ := f1 2147483647 z (by decide)
    generalize z.fmod 2147483647 = y at z0 z1
    have fin : ∀ c : Int, 0 ≤ c → Al (.lst [.int c, .int ((y * y).fmod 2147483629)]) H Q := fun c hc => by
      obtain ⟨y0, y1⟩ := f1 2147483629 (y * y) (by decide)
      exact j_al fun l H2 n s2 e => q l H2 n s2 ⟨c, _, e, hc, y0, by omega⟩
    refine ite2 (fun c => ?_) (fun c => ?_)
    · walk_at "go"
      refine j_mulL (by omega) (by omega) ?_
      walk_at "go"
      refine j_rI (by decide) ?_
      walk_at "go"
      exact fin 0 (by decide)
    · walk_at "go"
      refine j_mulL (by omega) (by omega) ?_
      walk_at "go"
      refine j_rI (by decide) ?_
      walk_at "go"
      have c' : ¬ v < 10 ^ 18 := by simpa using c
      exact fin v (by omega)
theorem ok__law_take (T : Txt K mg) : FnOk P w K mg base CX0 1 T._law_take.f T._law_take.fd ps__law_take spTake := by
  refine T._law_take.F.ok sc__law_take (fun vs H Q E h => ?_) (fun cdv A outer s H vs Q E hr h => ?_)
  · obtain ⟨l, n, rfl, _⟩ := h
    rfl
  · obtain ⟨l, n, rfl, ⟨c, z, hl, c0, z0, z1⟩, n0, n1, q⟩ := h
    have hu := hu_of hr
    have hu4 := hr.units
    have f1 : ∀ (m : Int) (v : Int), 0 < m → 0 ≤ v.fmod m ∧ v.fmod m < m := fun m v hm => ⟨Int.fmod_nonneg_of_pos _ hm, Int.fmod_lt_of_pos _ hm⟩
    refine ⟨_, (pss_cons (ps_if (pt_cmpR op_gt (pe_ix (r := rIx K) ix_seq (pv 0) pe_int (fun _ _ => rfl)) pe_int (nomark _)) (pss_cons (ps_set (i := 2) sc__law_take.nd rfl (Or.inl rfl) (pe_op op_modN (pe_ix (r := rIx K) ix_seq (pv 0) pe_int (fun _ _ => rfl)) (pv 1)))
  (pss_cons (ps_asg (pe_op op_fdivN (pe_ix (r := rIx K) ix_seq (pv 0) pe_int (fun _ _ => rfl)) (pv 1)) (pg_sub (pv 0) pe_int set_list))
  (pss_one (ps_ret (pv 2))))) pss_nil)
  (pss_cons (ps_asg (pe_op op_modN (pe_op uAdd (pe_op uMul (pe_ix (r := rIx K) ix_seq (pv 0) pe_int (fun _ _ => rfl)) pe_int) pe_int) pe_int) (pg_sub (pv 0) pe_int set_list))
  (pss_one (ps_ret (pe_op op_modN (pe_op op_fdivN (pe_op op_modN (pe_op uMul (pe_ix (r := rIx K) ix_seq (pv 0) pe_int (fun _ _ => rfl)) (pe_ix (r := rIx K) ix_seq (pv 0) pe_int (fun _ _ => rfl))) pe_int) pe_int) (pv 1)))))), ?_⟩
    walk_at "go"
    refine j_ixL (.of hl) rfl ?_
    walk_at "go"
    refine ite2 (fun hc => ?_) (fun hc => ?_)
    · walk_at "go"
      refine j_ixL (.of hl) rfl ?_
      walk_at "go"
      refine j_rI (by omega) ?_
      walk_at "go"
      refine j_ixL (.of hl) rfl ?_
      walk_at "go"
      refine j_rI ⟨by omega, by omega⟩ ?_
      walk_at "go"
      refine j_setL hl rfl fun H2 s2 e2 => ?_
      walk_at "go"
      obtain ⟨r0, r1⟩ := f1 n c n0
      refine q _ H2 r0 r1 ⟨_, _, e2, ?_, z0, z1⟩ s2
      rw [Int.fdiv_eq_ediv_of_nonneg _ (by omega)]
      exact Int.ediv_nonneg c0 (by omega)
    · walk_at "go"
      refine j_ixL (.of hl) rfl ?_
      walk_at "go"
      refine j_mulR (by decide) (by decide) ?_
      walk_at "go"
      refine j_rI (by decide) ?_
      walk_at "go"
      refine j_setL hl rfl fun H2 s2 e2 => ?_
      walk_at "go"
      obtain ⟨y0, y1⟩ := f1 2147483647 (z * 48271 + 11) (by decide)
      refine j_ixL (.of e2) rfl ?_
      walk_at "go"
      refine j_ixL (.of e2) rfl ?_
      walk_at "go"
      refine j_mulL (by omega) (by omega) ?_
      walk_at "go"
      refine j_rI (by decide) ?_
      walk_at "go"
      refine j_rI ⟨by decide, by decide⟩ ?_
      walk_at "go"
      refine j_rI (by omega) ?_
      obtain ⟨r0, r1⟩ := f1 n _ n0
      exact q _ H2 r0 r1 ⟨_, _, e2, c0, y0, y1⟩ s2
end

/-- of any thing -/
def spReadX (K : PySem.W.Frag) (C : Addr) : Sp := fun vs H Q E =>
  (∃ x : Str, vs = [.str x] ∧ x.length ≤ 100000 ∧ (∀ s, readL 3 (TL.tl x) = some s → ∀ v H2, Same H H2 → Dt K H2 v s.toD → Q v H2) ∧ (readL 3 (TL.tl x) = none → ∀ H2, Same H H2 → E (.ref C) none H2)) ∨
  (∃ v t, vs = [v] ∧ TyX K H v t ∧ PySem.W.kitOne K t (.type "str") = some false ∧ E (.ref C) none H)
def spTold (K : PySem.W.Frag) : Sp := fun vs H Q _ =>
  (∃ x : Str, vs = [.str x] ∧ x.length ≤ 100000 ∧ ∀ v H2, Same H H2 → (match readL 3 (TL.tl x) with | none => v = .non | some s => Dt K H2 v s.toD) → Q v H2) ∨
  (∃ v t, vs = [v] ∧ TyX K H v t ∧ PySem.W.kitOne K t (.type "str") = some false ∧ ∀ H2, Same H H2 → Q .non H2)
section
variable {P : Program} {w : World} {K : PySem.W.Frag} {mg : Str → Option Value} {base : Heap}
theorem ok_read_saying (T : Txt K mg) : FnOk P w K mg base (L2.CX P w) 10 T.read_saying.f T.read_saying.fd ps_read_saying (spReadX K T.NoText.C) := by
  have G_saying_in := ok_saying_in (P := P) (w := w) (base := base) T 4
  refine T.read_saying.F.okX sc_read_saying (fun vs H Q E h => ?_) (fun cdv A outer s H vs Q E hr h => ?_)
  · rcases h with ⟨x, rfl, _⟩ | ⟨v, t, rfl, _⟩ <;> rfl
  have hu := hu_of hr
  have hu4 := hr.units
  have hu65 := hu65_of hr
  refine ⟨_, (pss_cons (ps_if (pt_not (pt_val (pe_callB (r := rIsiU K) uIsi (by rfl) T.n_isinstance (by decide +kernel) (pa_cons (pv 0) (pa_cons (pe_bltn (v := .ty "str") (u := .type "str") (by rfl) T.n_str (by decide +kernel) rfl) pa_nil))))) (pss_one (ps_raise rfl (takes_of rfl rfl rfl rfl) (pmk_own PySem.F.excBase_ValueError T.NoText.x T.NoText.g T.NoText.k (raises_own T.NoText.b T.NoText.t) rfl))) pss_nil)
  (pss_cons (ps_set (i := 1) sc_read_saying.nd rfl (Or.inl rfl) (pe_call G_saying_in (hr.mono (by omega)) (by rfl) T.saying_in.g T.saying_in.F.kp T.saying_in.b .nil pass0 (pa_cons (pv 0) (pa_cons (pe_glob (by rfl) T.g_DEEPEST.g T.g_DEEPEST.r) pa_nil))))
  (pss_cons (ps_if (pt_cmpR uIsN (pv 1) pe_non (nomark _)) (pss_one (ps_raise rfl (takes_of rfl rfl rfl rfl) (pmk_own PySem.F.excBase_ValueError T.NoText.x T.NoText.g T.NoText.k (raises_own T.NoText.b T.NoText.t) rfl))) pss_nil)
  (pss_one (ps_ret (pv 1)))))), ?_⟩
  rcases h with ⟨x, rfl, hx, q, qn⟩ | ⟨v, t, rfl, ht, hk, qn⟩
  · walk_at "go"
    refine j_isiU (.ty _) (.base (.str _)) (kit_ty (r := true) (by decide +kernel)) ?_
    walk_at "go"
    refine ⟨x, rfl, hx, fun v H2 s2 r => ?_⟩
    cases e : readL 3 (TL.tl x) with
    | none =>
      rw [e] at r
      have r : v = .non := r
      subst r
      walk_at "go"
      exact qn e H2 s2
    | some s =>
      rw [e] at r
      have r : Dt K H2 v s.toD := r
      obtain ⟨p, hp, _⟩ := say_inv r
      subst hp
      walk_at "go"
      exact q s e _ H2 s2 r
  · walk_at "go"
    refine j_isiU (.ty _) ht hk ?_
    walk_at "go"
    exact qn
theorem ok__law_told (T : Txt K mg) : FnOk P w K mg base CX0 12 T._law_told.f T._law_told.fd ps__law_told (spTold K) := by
  have G_read_saying := ok_read_saying (P := P) (w := w) (base := base) T
  refine T._law_told.F.ok sc__law_told (fun vs H Q E h => ?_) (fun cdv A outer s H vs Q E hr h => ?_)
  · rcases h with ⟨x, rfl, _⟩ | ⟨v, t, rfl, _⟩ <;> rfl
  have hu := hu_of hr
  have hu4 := hr.units
  have hu65 := hu65_of hr
  have xm : PySem.W.exmOne K (.ref T.NoText.C) (.ref T.BesideError.C) = some true := exm_by T.BesideError.b T.BesideError.t T.BesideError.i T.sub_NoText_BesideError
  have un : ∃ (v : V) (R : V → Hp → Prop), vs = [v] ∧ (∀ v' H2, R v' H2 → Q v' H2) ∧ ∀ (Q' : VK) (E' : XK), (∀ v' H2, R v' H2 → Q' v' H2) →
      (∀ H2, (∀ H3, Same H2 H3 → Q .non H3) → E' (.ref T.NoText.C) none H2) → spReadX K T.NoText.C [v] H Q' E' := by
    rcases h with ⟨x, rfl, hx, q⟩ | ⟨v, t, rfl, ht, hk, q⟩
    · refine ⟨.str x, fun v' H2 => Same H H2 ∧ ∃ s, readL 3 (TL.tl x) = some s ∧ Dt K H2 v' s.toD, rfl, ?_, ?_⟩
      · rintro v' H2 ⟨s2, s, e, d⟩
        have := q v' H2 s2
        rw [e] at this
        exact this d
      · intro Q' E' a b
        refine .inl ⟨x, rfl, hx, fun s e v' H2 s2 d => a v' H2 ⟨s2, s, e, d⟩, fun e H2 s2 => b H2 fun H3 s3 => ?_⟩
        have := q .non H3 (s2.trans s3)
        rw [e] at this
        exact this rfl
    · refine ⟨v, fun _ _ => False, rfl, fun _ _ z => z.elim, fun Q' E' a b => .inr ⟨v, t, rfl, ht, hk, b H q⟩⟩
  obtain ⟨v, R, rfl, qR, key⟩ := un
  have k1 : PySem.W.kitOne K (.ref T.NoText.C) (.ref T.NoText.C) = some true := kit_ref T.NoText.t T.NoText.i T.sub_NoText_NoText (fun _ => rfl)
  have k2 : PySem.W.kitOne K (.ref T.NoText.C) (.type "ValueError") = some true := kit_ve T.NoText.v
  have n1 : T.NoText.C ≠ T.NoMarks.C := fun z => by
    have h1 := T.sub_NoText_NoText
    have h2 := T.sub_NoText_NoMarks
    rw [← z, h1] at h2
    cases h2
  have n2 : T.NoText.C ≠ T.NoSaying.C := fun z => by
    have h1 := T.sub_NoText_NoText
    have h2 := T.sub_NoText_NoSaying
    rw [← z, h1] at h2
    cases h2
  have n3 : T.NoText.C ≠ T.NoWeb.C := fun z => by
    have h1 := T.sub_NoText_NoText
    have h2 := T.sub_NoText_NoWeb
    rw [← z, h1] at h2
    cases h2
  have k3 : PySem.W.kitAny K (.ref T.NoText.C) [.ref T.NoMarks.C, .ref T.NoSaying.C, .ref T.NoWeb.C] = some false := by
    unfold PySem.W.kitAny
    rw [kit_ref T.NoMarks.t T.NoMarks.i T.sub_NoText_NoMarks (fun z => absurd z n1)]
    dsimp only
    unfold PySem.W.kitAny
    rw [kit_ref T.NoSaying.t T.NoSaying.i T.sub_NoText_NoSaying (fun z => absurd z n2)]
    dsimp only
    unfold PySem.W.kitAny
    rw [kit_ref T.NoWeb.t T.NoWeb.i T.sub_NoText_NoWeb (fun z => absurd z n3)]
    rfl
  refine ⟨_, (pss_cons (ps_set (i := 1) sc__law_told.nd rfl (Or.inl rfl) pe_non)
  (pss_cons (ps_set (i := 2) sc__law_told.nd rfl (Or.inl rfl) pe_non)
  (pss_cons (ps_try_keep (i := 3) rfl rfl sc__law_told.nd rfl rfl ⟨by rfl, rfl, .inl T.BesideError.g⟩ takes0 (fun W pn xe tk px =>
  (pss_one (ps_set (i := 2) sc__law_told.nd rfl (Or.inl rfl) (pe_callS G_read_saying (hr.mono (by omega)) (by rfl) T.read_saying.g T.read_saying.F.kp T.read_saying.b (fun σ => passAt tk σ) (pa_cons (pv 0) pa_nil))))) (fun aX pnX =>
  (pss_one (ps_set (i := 1) sc__law_told.nd rfl (Or.inl rfl) (pv 3)))))
  (pss_cons (ps_if (pt_cmpR uIsN (pv 1) pe_non (nomark _)) (pss_one (ps_ret (pv 2))) pss_nil)
  (pss_cons (ps_if (PW.pt (pw_or (pt_not (pt_val (pe_callB (r := rIsiU K) uIsi (by rfl) T.n_isinstance (by decide +kernel) (pa_cons (pv 1) (pa_cons (pe_glob (v := .ref T.NoText.C) (by rfl) T.NoText.g rfl) pa_nil))))) (pw_or1 (pt_not (pt_val (pe_callB (r := rIsiU K) uIsi (by rfl) T.n_isinstance (by decide +kernel) (pa_cons (pv 1) (pa_cons (pe_bltn (v := .ty "ValueError") (u := .type "ValueError") (by rfl) T.n_ValueError (by decide +kernel) rfl) pa_nil)))))))) (pss_one (ps_ret pe_str)) pss_nil)
  (pss_cons (ps_if (pt_val (pe_callB (r := rIsiU K) uIsi (by rfl) T.n_isinstance (by decide +kernel) (pa_cons (pv 1) (pa_cons (pe_tup (pa_cons (pe_glob (v := .ref T.NoMarks.C) (by rfl) T.NoMarks.g rfl) (pa_cons (pe_glob (v := .ref T.NoSaying.C) (by rfl) T.NoSaying.g rfl) (pa_cons (pe_glob (v := .ref T.NoWeb.C) (by rfl) T.NoWeb.g rfl) pa_nil)))) pa_nil)))) (pss_one (ps_ret pe_str)) pss_nil)
  (pss_one (ps_ret pe_non)))))))), ?_⟩
  walk_at "go"
  refine key _ _ (fun v' H2 r => ?_) (fun H2 q2 => ?_)
  · walk_at "go"
    exact qR v' H2 r
  · refine j_keep xm fun a H3 n3 s3 e3 => ?_
    walk_at "go"
    refine j_isX e3 T.NoText.e (.own _) k1 ?_
    walk_at "go"
    refine j_isX e3 T.NoText.e (.ty _) k2 ?_
    walk_at "go"
    refine j_al fun tp H4 n4 s4 e4 => ?_
    walk_at "go"
    refine j_isXT (s4 _ _ e3) T.NoText.e e4 (.cons (.own _) (.cons (.own _) (.cons (.own _) .nil))) k3 ?_
    walk_at "go"
    exact q2 H4 (s3.trans s4)
end

/-! ### the law's own defs -/
/-- a saying made by the law: each tuple's object has no dict -/
inductive Sz (H : Hp) : V → Say → Prop
  | pl {p : Addr} {ob : Obj} {w : Str} : H p = some (.frz ob (.tup [.str w])) → ob.dict = none → Sz H (.ref p) (.pl w)
  | many {p : Addr} {ob : Obj} {n : Nat} : H p = some (.frz ob (.tup [.str "many", .int n])) → ob.dict = none → Sz H (.ref p) (.many n)
  | jn {p : Addr} {ob : Obj} {w : Str} {va vb : V} {a b : Say} : H p = some (.frz ob (.tup [.str w, va, vb])) → ob.dict = none → Sz H va a → Sz H vb b → Sz H (.ref p) (.jn w a b)
theorem ts_sz {H H' : Hp} (s : TSm H H') {v : V} {x : Say} (h : Sz H v x) : Sz H' v x := by
  induction h with
  | pl h d => exact .pl (s.z _ _ _ h) d
  | many h d => exact .many (s.z _ _ _ h) d
  | jn h d _ _ ia ib => exact .jn (s.z _ _ _ h) d ia ib
theorem Sz.dt {K : PySem.W.Frag} {H : Hp} {v : V} {x : Say} (h : Sz H v x) : Dt K H v x.toD := by
  induction h with
  | pl h d => exact .tup (.inr (.inl ⟨_, h⟩)) (.cons (.str _) .nil)
  | many h d => exact .tup (.inr (.inl ⟨_, h⟩)) (.cons (.str _) (.cons (.int _) .nil))
  | jn h d _ _ ia ib => exact .tup (.inr (.inl ⟨_, h⟩)) (.cons (.str _) (.cons ia (.cons ib .nil)))
theorem PoolAt.lst {H : Hp} {l : Addr} (h : PoolAt H l) : ∃ xs, H l = some (.lst xs) := let ⟨_, _, e, _⟩ := h; ⟨_, e⟩
theorem PoolAt.same {H H' : Hp} {l : Addr} (h : PoolAt H l) (s : Same H H') : PoolAt H' l := let ⟨c, z, e, r⟩ := h; ⟨c, z, s _ _ e, r⟩
theorem pool_ne {H : Hp} {l p : Addr} (h : PoolAt H l) (n : H p = none) : p ≠ l := fun e => by
  obtain ⟨xs, q⟩ := h.lst
  rw [e, q] at n
  cases n
/-- what stands elsewhere stays -/
theorem hid_at {H H' : Hp} {l p : Addr} {o : HO} (s : Same (hide l H) (hide l H')) (n : p ≠ l) (h : H p = some o) : H' p = some o := by
  have := s p o (by rw [hide_ne n]; exact h)
  rwa [hide_ne n] at this
theorem atI_strs {l : List Str} {r : Int} (h0 : 0 ≤ r) (h1 : r < l.length) : ∃ w ∈ l, atI (l.map V.str) r = some (.str w) := by
  obtain ⟨j, rfl⟩ := Int.eq_ofNat_of_zero_le h0
  have hj : j < l.length := by omega
  exact ⟨l[j], List.getElem_mem hj, atI_nat (by rw [List.getElem?_map, List.getElem?_eq_getElem hj]; rfl)⟩
theorem atI_ints {l : List Int} {r : Int} (h0 : 0 ≤ r) (h1 : r < l.length) : ∃ w ∈ l, atI (l.map V.int) r = some (.int w) := by
  obtain ⟨j, rfl⟩ := Int.eq_ofNat_of_zero_le h0
  have hj : j < l.length := by omega
  exact ⟨l[j], List.getElem_mem hj, atI_nat (by rw [List.getElem?_map, List.getElem?_eq_getElem hj]; rfl)⟩
def spPlain : Sp := fun vs H Q _ => ∃ l, vs = [.ref l] ∧ PoolAt H l ∧ ∀ v H2 (s : Say), PoolAt H2 l → Same (hide l H) (hide l H2) → Sz H2 v s → s.Ok 0 → Q v H2
def spSaying : Nat → Sp
  | 0 => fun _ _ _ _ => False
  | d + 1 => fun vs H Q _ => ∃ l, vs = [.ref l, .int d] ∧ PoolAt H l ∧ ∀ v H2 (s : Say), PoolAt H2 l → Same (hide l H) (hide l H2) → Sz H2 v s → s.Ok d → Q v H2
def spText (K : PySem.W.Frag) : Nat → Sp
  | 0 => fun _ _ _ _ => False
  | d + 1 => fun vs H Q _ => ∃ (v : V) (s : Say), vs = [v] ∧ Dt K H v s.toD ∧ s.Ok d ∧ d ≤ 3 ∧ ∀ H2, Same H H2 → Q (.str (mk s.txt)) H2
def spSame (K : PySem.W.Frag) : Nat → Sp
  | 0 => fun _ _ _ _ => False
  | d + 1 => fun vs H Q _ => ∃ (v u : V) (s : Say), vs = [v, u] ∧ Dt K H v s.toD ∧ Sz H u s ∧ s.Ok d ∧ d ≤ 3 ∧ ∀ H2, Same H H2 → Q (.bl true) H2
theorem ok_up : ∀ (d : Nat) (s : Say), s.Ok 0 → s.Ok d
  | d, .pl w, h => by cases d <;> exact h
  | d, .many n, h => by cases d <;> exact h
  | _, .jn _ _ _, h => h.elim
theorem words_ok : ∀ w ∈ plainL ++ joinedL ++ [("many" : Str)], PyData.strOk w = true := by decide +kernel
theorem sd_lay : ∀ (d : Nat) (s : Say), s.Ok d → s.toD.canLay0 = true
  | d, .pl w, h => by
    have hw : w ∈ plainL := by cases d <;> exact h
    have := words_ok w (List.mem_append_left _ (List.mem_append_left _ hw))
    simp [Say.toD, PyData.canLay0, PyData.canLayAll0, this]
  | d, .many n, h => by
    have := words_ok "many" (List.mem_append_right _ (List.mem_singleton.mpr rfl))
    simp [Say.toD, PyData.canLay0, PyData.canLayAll0, this]
  | d + 1, .jn w a b, h => by
    have := words_ok w (List.mem_append_left _ (List.mem_append_right _ h.1))
    simp [Say.toD, PyData.canLay0, PyData.canLayAll0, this, sd_lay d a h.2.1, sd_lay d b h.2.2]
theorem sd_depth : ∀ (d : Nat) (s : Say), s.Ok d → s.toD.depth ≤ d + 1
  | d, .pl w, h => by simp [Say.toD, PyData.depth, PyData.depthAll]
  | d, .many n, h => by simp [Say.toD, PyData.depth, PyData.depthAll]
  | d + 1, .jn w a b, h => by
    have ha := sd_depth d a h.2.1
    have hb := sd_depth d b h.2.2
    simp only [Say.toD, PyData.depth, PyData.depthAll]
    omega
theorem sd_shaped {d : Nat} {s : Say} (h : s.Ok d) (hd : d ≤ 3) : SeqAt.shaped s.toD = true := by
  have h2 := sd_depth d s h
  show (s.toD.canLay0 && decide (s.toD.depth ≤ 64)) = true
  rw [Bool.and_eq_true]
  exact ⟨sd_lay d s h, decide_eq_true (by omega)⟩
theorem ev_cons (x y : PyData) (xs ys : List PyData) : PyData.eqvAll (x :: xs) (y :: ys) = (PyData.eqv x y && PyData.eqvAll xs ys) := by simp only [PyData.eqvAll]
theorem ev_nil : PyData.eqvAll [] [] = true := by simp only [PyData.eqvAll]
theorem ev_ln (x : PyData) (xs : List PyData) : PyData.eqvAll (x :: xs) [] = false := by simp only [PyData.eqvAll]
theorem ev_nl (x : PyData) (xs : List PyData) : PyData.eqvAll [] (x :: xs) = false := by simp only [PyData.eqvAll]
theorem ev_tup (xs ys : List PyData) : PyData.eqv (.tuple xs) (.tuple ys) = PyData.eqvAll xs ys := by simp only [PyData.eqv]
theorem ev_str (x y : Str) : PyData.eqv (.str x) (.str y) = (x == y) := by simp only [PyData.eqv]
theorem ev_int (x y : Int) : PyData.eqv (.int x) (.int y) = (x == y) := by simp only [PyData.eqv]
theorem ev_it (x : Int) (ys : List PyData) : PyData.eqv (.int x) (.tuple ys) = false := by simp only [PyData.eqv]
theorem ev_ti (x : Int) (ys : List PyData) : PyData.eqv (.tuple ys) (.int x) = false := by simp only [PyData.eqv]
theorem ev_st (x : Str) (ys : List PyData) : PyData.eqv (.str x) (.tuple ys) = false := by simp only [PyData.eqv]
theorem ev_ts (x : Str) (ys : List PyData) : PyData.eqv (.tuple ys) (.str x) = false := by simp only [PyData.eqv]
theorem sd_tup (s : Say) : ∃ ds, s.toD = .tuple ds := by cases s <;> exact ⟨_, rfl⟩
theorem sd_eqv (a b : Say) : PyData.eqv a.toD b.toD = true ↔ a = b := by
  induction a generalizing b with
  | pl w =>
    cases b with
    | pl w' => simp only [Say.toD, ev_tup, ev_cons, ev_nil, ev_str, Bool.and_true, beq_iff_eq, Say.pl.injEq]
    | many n => simp only [Say.toD, ev_tup, ev_cons, ev_nl, Bool.and_false, reduceCtorEq]
    | jn w' x y => simp only [Say.toD, ev_tup, ev_cons, ev_nl, Bool.and_false, reduceCtorEq]
  | many n =>
    cases b with
    | pl w' => simp only [Say.toD, ev_tup, ev_cons, ev_ln, Bool.and_false, reduceCtorEq]
    | many m =>
      simp only [Say.toD, ev_tup, ev_cons, ev_nil, ev_str, ev_int, Bool.and_true, Bool.and_eq_true, beq_iff_eq, Say.many.injEq, true_and]
      omega
    | jn w' x y =>
      obtain ⟨ds, e⟩ := sd_tup x
      simp only [Say.toD, ev_tup, ev_cons, e, ev_it, Bool.false_and, Bool.and_false, reduceCtorEq]
  | jn w x y ihx ihy =>
    cases b with
    | pl w' => simp only [Say.toD, ev_tup, ev_cons, ev_ln, Bool.and_false, reduceCtorEq]
    | many m =>
      obtain ⟨ds, e⟩ := sd_tup x
      simp only [Say.toD, ev_tup, ev_cons, e, ev_ti, Bool.false_and, Bool.and_false, reduceCtorEq]
    | jn w' x' y' => simp only [Say.toD, ev_tup, ev_cons, ev_nil, ev_str, Bool.and_true, Bool.and_eq_true, beq_iff_eq, Say.jn.injEq, ihx, ihy]
section
variable {P : Program} {w : World} {K : PySem.W.Frag} {mg : Str → Option Value} {base : Heap}
theorem ok__law_plain (T : Txt K mg) : FnOk P w K mg base CX0 2 T._law_plain.f T._law_plain.fd ps__law_plain spPlain := by
  have G__law_take := ok__law_take (P := P) (w := w) (base := base) T
  refine T._law_plain.F.ok sc__law_plain (fun vs H Q E h => ?_) (fun cdv A outer s H vs Q E hr h => ?_)
  · obtain ⟨l, rfl, _⟩ := h
    rfl
  obtain ⟨l, rfl, hp, q⟩ := h
  have hu := hu_of hr
  have hu4 := hr.units
  have hu65 := hu65_of hr
  refine ⟨_, (pss_cons (ps_set (i := 1) sc__law_plain.nd rfl (Or.inl rfl) (pe_lst (pa_cons pe_str (pa_cons pe_str (pa_cons pe_str (pa_cons pe_str (pa_cons pe_str (pa_cons pe_str (pa_cons pe_str (pa_cons pe_str (pa_cons pe_str (pa_cons pe_str pa_nil))))))))))))
  (pss_cons (ps_set (i := 2) sc__law_plain.nd rfl (Or.inl rfl) (pe_ix (r := rIx K) ix_seq (pv 1) (pe_call G__law_take (hr.mono (by omega)) (by rfl) T._law_take.g T._law_take.F.kp T._law_take.b .nil pass0 (pa_cons (pv 0) (pa_cons pe_int pa_nil))) (fun _ _ => rfl)))
  (pss_cons (ps_if (pt_cmpR (r := rEqU K) (uEq hu4) (pv 2) pe_str (nomark _)) (pss_one (ps_ret (pe_tupZ (pa_cons (pv 2) (pa_cons (pe_op uAdd pe_int (pe_call G__law_take (hr.mono (by omega)) (by rfl) T._law_take.g T._law_take.F.kp T._law_take.b .nil pass0 (pa_cons (pv 0) (pa_cons (pe_ix (r := rIx K) ix_seq (pe_lst (pa_cons pe_int (pa_cons pe_int (pa_cons pe_int pa_nil)))) (pe_call G__law_take (hr.mono (by omega)) (by rfl) T._law_take.g T._law_take.F.kp T._law_take.b .nil pass0 (pa_cons (pv 0) (pa_cons pe_int pa_nil))) (fun _ _ => rfl)) pa_nil)))) pa_nil))))) pss_nil)
  (pss_one (ps_ret (pe_tupZ (pa_cons (pv 2) pa_nil))))))), ?_⟩
  walk_at "go"
  refine j_al fun p H1 n1 s1 e1 => ?_
  have e1 : H1 p = some (.lst (List.map V.str (plainL ++ [("many" : Str)]))) := e1
  have np := pool_ne hp n1
  have hp1 := hp.same s1
  walk_at "go"
  refine ⟨l, 10, rfl, hp1, by decide, by decide, fun r H2 r0 r1 hp2 s2 => ?_⟩
  obtain ⟨wd, hw, ew⟩ := atI_strs (l := plainL ++ [("many" : Str)]) r0 r1
  refine j_ixL (.of (hid_at s2 np e1)) ew ?_
  walk_at "go"
  have s12 : Same (hide l H) (hide l H2) := (hide_mono s1).trans s2
  refine ite2 (fun hm => ?_) (fun hm => ?_)
  · have hm' : wd = "many" := V.str.inj (of_decide_eq_true hm)
    subst hm'
    walk_at "go"
    refine j_tupZ ?_
    walk_at "go"
    refine j_al fun p3 H3 n3 s3 e3 => ?_
    have e3 : H3 p3 = some (.lst (List.map V.int [9, 64, 4095])) := e3
    have np3 := pool_ne hp2 n3
    walk_at "go"
    refine ⟨l, 3, rfl, hp2.same s3, by decide, by decide, fun r' H4 r0' r1' hp4 s4 => ?_⟩
    obtain ⟨m, hm, em⟩ := atI_ints (l := [9, 64, 4095]) r0' r1'
    refine j_ixL (.of (hid_at s4 np3 e3)) em ?_
    have hm2 : m = 9 ∨ m = 64 ∨ m = 4095 := by simpa using hm
    walk_at "go"
    refine ⟨l, m, rfl, hp4, by omega, by omega, fun z H5 z0 z1 hp5 s5 => ?_⟩
    walk_at "go"
    refine j_szAlZ rfl ?_
    refine j_alZ fun p6 H6 ob n6 s6 od e6 => ?_
    have ez : (1 : Int) + z = ((z.toNat + 1 : Nat) : Int) := by omega
    rw [ez] at e6
    refine q _ H6 (.many (z.toNat + 1)) (hp5.same s6) ?_ (.many e6 od) ⟨by omega, by omega⟩
    exact s12.trans ((hide_mono s3).trans (s4.trans (s5.trans (hide_mono s6))))
  · have hm' : wd ≠ "many" := fun z => hm (decide_eq_true (by rw [z]))
    have hw' : wd ∈ plainL := by
      rcases List.mem_append.mp hw with h | h
      · exact h
      · exact absurd (List.mem_singleton.mp h) hm'
    walk_at "go"
    refine j_tupZ ?_
    walk_at "go"
    refine j_szAlZ rfl ?_
    refine j_alZ fun p6 H6 ob n6 s6 od e6 => ?_
    exact q _ H6 (.pl wd) (hp2.same s6) (s12.trans (hide_mono s6)) (.pl e6 od) hw'
end

section
variable {P : Program} {w : World} {K : PySem.W.Frag} {mg : Str → Option Value} {base : Heap}
theorem ok__law_saying (T : Txt K mg) : ∀ d, FnOk P w K mg base CX0 (d + 2) T._law_saying.f T._law_saying.fd ps__law_saying (spSaying d)
  | 0 => (fn_none fun _ _ _ _ z => z).mono (by omega)
  | d + 1 => by
    have G__law_saying := ok__law_saying T d
    have G__law_plain := ok__law_plain (P := P) (w := w) (base := base) T
    have G__law_take := ok__law_take (P := P) (w := w) (base := base) T
    refine T._law_saying.F.ok sc__law_saying (fun vs H Q E h => ?_) (fun cdv A outer s H vs Q E hr h => ?_)
    · obtain ⟨l, rfl, _⟩ := h
      rfl
    obtain ⟨l, rfl, hp, q⟩ := h
    have hu := hu_of hr
    have hu4 := hr.units
    have hu65 := hu65_of hr
    refine ⟨_, (pss_cons (ps_if (PW.pt (pw_or (pt_cmpR (r := rEqU K) (uEq hu4) (pv 1) pe_int (nomark _)) (pw_or1 (pt_cmpR (r := rEqU K) (uEq hu4) (pe_call G__law_take (hr.mono (by omega)) (by rfl) T._law_take.g T._law_take.F.kp T._law_take.b .nil pass0 (pa_cons (pv 0) (pa_cons pe_int pa_nil))) pe_int (nomark _))))) (pss_one (ps_ret (pe_call G__law_plain (hr.mono (by omega)) (by rfl) T._law_plain.g T._law_plain.F.kp T._law_plain.b .nil pass0 (pa_cons (pv 0) pa_nil)))) pss_nil)
  (pss_cons (ps_set (i := 2) sc__law_saying.nd rfl (Or.inl rfl) (pe_ix (r := rIx K) ix_seq (pe_lst (pa_cons pe_str (pa_cons pe_str pa_nil))) (pe_call G__law_take (hr.mono (by omega)) (by rfl) T._law_take.g T._law_take.F.kp T._law_take.b .nil pass0 (pa_cons (pv 0) (pa_cons pe_int pa_nil))) (fun _ _ => rfl)))
  (pss_cons (ps_set (i := 3) sc__law_saying.nd rfl (Or.inl rfl) (pe_call G__law_saying (hr.mono (by omega)) (by rfl) T._law_saying.g T._law_saying.F.kp T._law_saying.b .nil pass0 (pa_cons (pv 0) (pa_cons (pe_op op_sub (pv 1) pe_int) pa_nil))))
  (pss_one (ps_ret (pe_tupZ (pa_cons (pv 2) (pa_cons (pv 3) (pa_cons (pe_call G__law_saying (hr.mono (by omega)) (by rfl) T._law_saying.g T._law_saying.F.kp T._law_saying.b .nil pass0 (pa_cons (pv 0) (pa_cons (pe_op op_sub (pv 1) pe_int) pa_nil))) pa_nil))))))))), ?_⟩
    have plain : ∀ H1, PoolAt H1 l → Same (hide l H) (hide l H1) → spPlain [.ref l] H1 Q E := fun H1 hp1 s1 => by
      refine ⟨l, rfl, hp1, fun v H2 s hp2 s2 z ok => q v H2 s hp2 (s1.trans s2) z (ok_up d s ok)⟩
    walk_at "s"; walk_at "s"; walk_at "s"; walk_at "s"; walk_at "s"; walk_at "s"; walk_at "s"; walk_at "s"; walk_at "s"
    refine ite2 (fun h0 => ?_) (fun h0 => ?_)
    · walk_at "go"
      exact plain H hp (Same.refl _)
    have hd : d ≠ 0 := fun z => h0 (decide_eq_true (by rw [z]; rfl))
    obtain ⟨e, rfl⟩ : ∃ e, d = e + 1 := ⟨d - 1, by omega⟩
    walk_at "go"
    refine ⟨l, 3, rfl, hp, by decide, by decide, fun r H1 r0 r1 hp1 s1 => ?_⟩
    walk_at "go"
    refine ite2 (fun h1 => ?_) (fun h1 => ?_)
    · walk_at "go"
      exact plain H1 hp1 s1
    walk_at "go"
    refine j_al fun p2 H2 n2 s2 e2 => ?_
    have e2 : H2 p2 = some (.lst (List.map V.str joinedL)) := e2
    have np2 := pool_ne hp1 n2
    walk_at "go"
    refine ⟨l, 2, rfl, hp1.same s2, by decide, by decide, fun r H3 r0 r1 hp3 s3 => ?_⟩
    obtain ⟨wd, hw, ew⟩ := atI_strs (l := joinedL) r0 r1
    refine j_ixL (.of (hid_at s3 np2 e2)) ew ?_
    walk_at "go"
    have ed : ((e + 1 : Nat) : Int) - 1 = ((e : Nat) : Int) := by omega
    refine ⟨l, by rw [ed]; rfl, hp3, fun v1 H4 a hp4 s4 z1 o1 => ?_⟩
    walk_at "go"
    refine j_tupZ ?_
    walk_at "go"
    refine ⟨l, by rw [ed]; rfl, hp4, fun v2 H5 b hp5 s5 z2 o2 => ?_⟩
    walk_at "go"
    refine j_szAlZ rfl ?_
    refine j_alZ fun p6 H6 ob n6 s6 od e6 => ?_
    obtain ⟨xs4, l4⟩ := hp4.lst
    have z1' : Sz H6 v1 a := ts_sz (ts_same s6) (ts_sz (ts_mut l4 s5) z1)
    have z2' : Sz H6 v2 b := ts_sz (ts_same s6) z2
    exact q _ H6 (.jn wd a b) (hp5.same s6) (s1.trans ((hide_mono s2).trans (s3.trans (s4.trans (s5.trans (hide_mono s6)))))) (.jn e6 od z1' z2') ⟨hw, o1, o2⟩
end

/-- signs of the small alphabet -/
def Asc (x : Str) : Prop := ∀ c ∈ TL.tl x, c < 128
theorem asc_cut {x : Str} (h : Asc x) (lo hi : Option Int) : Asc (cutS x lo hi) := fun c hc => by
  rw [tl_cut] at hc
  exact h c (List.mem_of_mem_drop (List.mem_of_mem_take hc))
theorem asc_app {x y : Str} (hx : Asc x) (hy : Asc y) : Asc (x ++ y) := fun c hc => by
  rw [TL.tl_append] at hc
  rcases List.mem_append.mp hc with h | h
  · exact hx c h
  · exact hy c h
theorem asc_one {c : Nat} (h : c < 128) : Asc ⟨#[c]⟩ := fun b hb => by
  have e : b = c := by
    have : b ∈ [c] := hb
    simpa using this
  omega
theorem asc_rep {a z : Str} {n : Nat} (h : Asc a) (e : TL.tl z = (List.replicate n (TL.tl a)).flatten) : Asc z := fun c hc => by
  rw [e, List.mem_flatten] at hc
  obtain ⟨l, hl, hc⟩ := hc
  rw [(List.mem_replicate.mp hl).2] at hc
  exact h c hc
theorem rep_len {a z : Str} {n : Nat} (e : TL.tl z = (List.replicate n (TL.tl a)).flatten) : z.length = n * a.length := by
  rw [TL.len_tl, e, List.length_flatten, List.map_replicate, List.sum_replicate_nat, TL.len_tl]
theorem app_len (a b : Str) : (a ++ b).length = a.length + b.length := by rw [TL.len_tl, TL.tl_append, List.length_append, ← TL.len_tl, ← TL.len_tl]
def signsA : Str := " !\"#$&'()*+,-./0123456789:;<=>?@ABCDEFGHIJKLMNOPQRSTUVWXYZ[\\]^_`"
def signsB : Str := "abcdefghijklmnopqrstuvwxyz{|}~\n\t"
theorem asc_of (x : Str) (h : (TL.tl x).all (fun c => decide (c < 128)) = true) : Asc x := fun c hc => of_decide_eq_true (List.all_eq_true.mp h c hc)
theorem atI_sign {x : Str} {r : Int} (h0 : 0 ≤ r) (h1 : r < x.length) : ∃ c ∈ TL.tl x, atI x.cps.toList r = some c := by
  obtain ⟨j, rfl⟩ := Int.eq_ofNat_of_zero_le h0
  have e : x.length = (TL.tl x).length := TL.len_tl x
  have hj : j < (TL.tl x).length := by omega
  exact ⟨(TL.tl x)[j], List.getElem_mem hj, atI_nat (by rw [List.getElem?_eq_getElem hj])⟩
def spSign : Sp := fun vs H Q _ => ∃ l, vs = [.ref l] ∧ PoolAt H l ∧ ∀ c H2, c < 128 → PoolAt H2 l → Same (hide l H) (hide l H2) → Q (.str ⟨#[c]⟩) H2
def spOther : Sp := fun vs H Q _ => ∃ (x : Str) (l : Addr), vs = [.str x, .ref l] ∧ PoolAt H l ∧ x.length ≤ 200 ∧ Asc x ∧ ∀ z H2, z.length ≤ 500 → Asc z → PoolAt H2 l → Same (hide l H) (hide l H2) → Q (.str z) H2
def spNumber (K : PySem.W.Frag) : Sp := fun vs H Q _ => ∃ x : Str, vs = [.str x] ∧ x.length ≤ 100000 ∧ Asc x ∧ ∀ v H2, Same H H2 → (match manyL (TL.tl x) with | none => v = .non | some n => Dt K H2 v (Say.many n).toD) → Q v H2
section
variable {P : Program} {w : World} {K : PySem.W.Frag} {mg : Str → Option Value} {base : Heap}
theorem ok__law_sign (T : Txt K mg) : FnOk P w K mg base CX0 2 T._law_sign.f T._law_sign.fd ps__law_sign spSign := by
  have G__law_take := ok__law_take (P := P) (w := w) (base := base) T
  refine T._law_sign.F.ok sc__law_sign (fun vs H Q E h => ?_) (fun cdv A outer s H vs Q E hr h => ?_)
  · obtain ⟨l, rfl, _⟩ := h
    rfl
  obtain ⟨l, rfl, hp, q⟩ := h
  have hu := hu_of hr
  have hu4 := hr.units
  have hu65 := hu65_of hr
  refine ⟨_, (pss_cons (ps_set (i := 1) sc__law_sign.nd rfl (Or.inl rfl) pe_str)
  (pss_cons (ps_set (i := 1) sc__law_sign.nd rfl (Or.inl rfl) (pe_op uAdd (pv 1) pe_str))
  (pss_one (ps_ret (pe_ix (r := rIx K) ix_seq (pv 1) (pe_call G__law_take (hr.mono (by omega)) (by rfl) T._law_take.g T._law_take.F.kp T._law_take.b .nil pass0 (pa_cons (pv 0) (pa_cons (pe_callB (r := rLenU K) uLen (by rfl) T.n_len (by decide +kernel) (pa_cons (pv 1) pa_nil)) pa_nil))) (fun _ _ => rfl)))))), ?_⟩
  walk_at "go"
  refine j_addS (show signsA.length + signsB.length ≤ sizeLine by rw [sizeLine_eq]; decide +kernel) ?_
  walk_at "go"
  have hl : (signsA ++ signsB).length ≤ 1000 := by rw [app_len]; decide +kernel
  have h0 : 0 < (signsA ++ signsB).length := by rw [app_len]; decide +kernel
  have ha : Asc (signsA ++ signsB) := asc_app (asc_of _ (by decide +kernel)) (asc_of _ (by decide +kernel))
  refine j_lenS (line_big (Nat.le_trans hl (by decide))) ?_
  walk_at "go"
  change spTake [.ref l, .int ((signsA ++ signsB).length : Nat)] H (fun y H2 => rIx K (.str (signsA ++ signsB)) y H2 Q) E0
  generalize signsA ++ signsB = z at hl h0 ha
  refine ⟨l, _, rfl, hp, by omega, by omega, fun r H2 r0 r1 hp2 s2 => ?_⟩
  obtain ⟨c, hc, e⟩ := atI_sign r0 r1
  exact j_ixS (line_big (Nat.le_trans hl (by decide))) e (q c H2 (ha c hc) hp2 s2)
theorem ok__law_other (T : Txt K mg) : FnOk P w K mg base CX0 3 T._law_other.f T._law_other.fd ps__law_other spOther := by
  have G__law_sign := ok__law_sign (P := P) (w := w) (base := base) T
  have G__law_take := ok__law_take (P := P) (w := w) (base := base) T
  refine T._law_other.F.ok sc__law_other (fun vs H Q E h => ?_) (fun cdv A outer s H vs Q E hr h => ?_)
  · obtain ⟨x, l, rfl, _⟩ := h
    rfl
  obtain ⟨x, l, rfl, hp, hx, ax, q⟩ := h
  have hu := hu_of hr
  have hu4 := hr.units
  have hu65 := hu65_of hr
  refine ⟨_, (pss_cons (ps_set (i := 2) sc__law_other.nd rfl (Or.inl rfl) (pe_call G__law_take (hr.mono (by omega)) (by rfl) T._law_take.g T._law_take.F.kp T._law_take.b .nil pass0 (pa_cons (pv 1) (pa_cons (pe_op uAdd (pe_callB (r := rLenU K) uLen (by rfl) T.n_len (by decide +kernel) (pa_cons (pv 0) pa_nil)) pe_int) pa_nil))))
  (pss_cons (ps_set (i := 3) sc__law_other.nd rfl (Or.inl rfl) (pe_call G__law_take (hr.mono (by omega)) (by rfl) T._law_take.g T._law_take.F.kp T._law_take.b .nil pass0 (pa_cons (pv 1) (pa_cons pe_int pa_nil))))
  (pss_cons (ps_set (i := 4) sc__law_other.nd rfl (Or.inl rfl) (pe_ix (r := rIx K) ix_seq (pe_lst (pa_cons (pe_call G__law_sign (hr.mono (by omega)) (by rfl) T._law_sign.g T._law_sign.F.kp T._law_sign.b .nil pass0 (pa_cons (pv 1) pa_nil)) (pa_cons (pe_ix (r := rIx K) ix_seq pe_str (pe_call G__law_take (hr.mono (by omega)) (by rfl) T._law_take.g T._law_take.F.kp T._law_take.b .nil pass0 (pa_cons (pv 1) (pa_cons pe_int pa_nil))) (fun _ _ => rfl)) pa_nil))) (pe_call G__law_take (hr.mono (by omega)) (by rfl) T._law_take.g T._law_take.F.kp T._law_take.b .nil pass0 (pa_cons (pv 1) (pa_cons pe_int pa_nil))) (fun _ _ => rfl)))
  (pss_cons (ps_if (pt_cmpR (r := rEqU K) (uEq hu4) (pv 3) pe_int (nomark _)) (pss_one (ps_ret (pe_op uAdd (pe_op uAdd (pe_slice (r := rSlU K) uSl (pv 0) po_none (po_some (pv 2))) (pv 4)) (pe_slice (r := rSlU K) uSl (pv 0) (po_some (pv 2)) po_none)))) pss_nil)
  (pss_one (ps_ret (pe_op uAdd (pe_op uAdd (pe_slice (r := rSlU K) uSl (pv 0) po_none (po_some (pv 2))) (pe_op uMulU (pv 4) (pe_callTy uInt (by rfl) T.n_int (by decide +kernel) (pa_cons (pe_cmpR (r := rEqU K) (uEq hu4) (pv 3) pe_int (nomark _)) pa_nil)))) (pe_slice (r := rSlU K) uSl (pv 0) (po_some (pe_op uAdd (pv 2) pe_int)) po_none)))))))), ?_⟩
  walk_at "go"
  refine j_lenS (line_big (by omega)) ?_
  walk_at "go"
  refine ⟨l, _, rfl, hp, by omega, by omega, fun r1 H1 a1 b1 hp1 s1 => ?_⟩
  walk_at "go"
  refine ⟨l, 3, rfl, hp1, by decide, by decide, fun r2 H2 a2 b2 hp2 s2 => ?_⟩
  walk_at "go"
  refine ⟨l, rfl, hp2, fun c H3 hc hp3 s3 => ?_⟩
  walk_at "go"
  refine ⟨l, 8, rfl, hp3, by decide, by decide, fun r4 H4 a4 b4 hp4 s4 => ?_⟩
  have ea : Asc "(), 0159" := asc_of _ (by decide +kernel)
  obtain ⟨c2, m2, e2⟩ := atI_sign (x := "(), 0159") a4 (show r4 < ((8 : Nat) : Int) by omega)
  refine j_ixS (line_big (by decide +kernel)) e2 ?_
  walk_at "go"
  refine j_al fun p5 H5 n5 s5 e5 => ?_
  have np := pool_ne hp4 n5
  walk_at "go"
  refine ⟨l, 2, rfl, hp4.same s5, by decide, by decide, fun r6 H6 a6 b6 hp6 s6 => ?_⟩
  obtain ⟨w6, hw6, e6⟩ : ∃ w6 : Str, (w6 = ⟨#[c]⟩ ∨ w6 = ⟨#[c2]⟩) ∧ atI [V.str ⟨#[c]⟩, V.str ⟨#[c2]⟩] r6 = some (.str w6) := by
    have : r6 = 0 ∨ r6 = 1 := by omega
    rcases this with rfl | rfl
    · exact ⟨_, .inl rfl, rfl⟩
    · exact ⟨_, .inr rfl, rfl⟩
  refine j_ixL (.of (hid_at s6 np e5)) e6 ?_
  have aw : Asc w6 ∧ w6.length = 1 := by
    rcases hw6 with rfl | rfl
    · exact ⟨asc_one hc, rfl⟩
    · exact ⟨asc_one (ea _ m2), rfl⟩
  have sA : Same (hide l H) (hide l H6) := s1.trans (s2.trans (s3.trans (s4.trans ((hide_mono s5).trans s6))))
  have c1 := cut_len x none (some r1)
  have c3 := cut_len x (some r1) none
  have c4 := cut_len x (some (r1 + 1)) none
  walk_at "go"
  refine ite2 (fun h => ?_) (fun h => ?_)
  · walk_at "go"
    refine j_slS (line_big (by omega)) ?_
    walk_at "go"
    refine j_addS (line_big (by omega)) ?_
    walk_at "go"
    refine j_slS (line_big (by omega)) ?_
    walk_at "go"
    refine j_addS (by rw [app_len]; exact line_big (by omega)) ?_
    refine q _ H6 (by rw [app_len, app_len]; omega) (asc_app (asc_app (asc_cut ax _ _) aw.1) (asc_cut ax _ _)) hp6 sA
  · walk_at "go"
    refine j_slS (line_big (by omega)) ?_
    walk_at "go"
    have hn : ∀ b : Bool, ∃ n : Int, (if b = true then (1 : Int) else 0) = n ∧ 0 ≤ n ∧ n ≤ 1 := fun b => by cases b <;> exact ⟨_, rfl, by decide, by decide⟩
    obtain ⟨n, en, n0, n1⟩ := hn (decide (V.int r2 = V.int 1))
    rw [en]
    have ln : w6.length * n.toNat ≤ 1 := by rw [aw.2]; omega
    refine j_mulS (by omega) (by omega) (by omega) fun z ez => ?_
    have lz : z.length ≤ 1 := by rw [rep_len ez, aw.2]; omega
    have az : Asc z := asc_rep aw.1 ez
    refine j_addS (line_big (by omega)) ?_
    walk_at "go"
    refine j_slS (line_big (by omega)) ?_
    refine j_addS (by rw [app_len]; exact line_big (by omega)) ?_
    exact q _ H6 (by rw [app_len, app_len]; omega) (asc_app (asc_app (asc_cut ax _ _) az) (asc_cut ax _ _)) hp6 sA
theorem ev_list (xs ys : List PyData) : PyData.eqv (.list xs) (.list ys) = PyData.eqvAll xs ys := by simp only [PyData.eqv]
theorem strs_of : ∀ (ys : List V), (∀ y ∈ ys, ∃ c, y = .str ⟨#[c]⟩ ∧ c < 128) → ∃ cs : List Nat, ys = cs.map (fun c => V.str ⟨#[c]⟩) ∧ ∀ c ∈ cs, c < 128
  | [], _ => ⟨[], rfl, fun _ h => absurd h List.not_mem_nil⟩
  | y :: ys, h => by
    obtain ⟨c, rfl, hc⟩ := h _ List.mem_cons_self
    obtain ⟨cs, rfl, hcs⟩ := strs_of ys fun z hz => h z (List.mem_cons_of_mem _ hz)
    exact ⟨c :: cs, rfl, fun b hb => by
      rcases List.mem_cons.mp hb with rfl | hb
      · exact hc
      · exact hcs b hb⟩
def sD (c : Nat) : PyData := .str ⟨#[c]⟩
theorem strs_dp {H : Hp} : ∀ cs : List Nat, DpAll K H (cs.map fun c => V.str ⟨#[c]⟩) (cs.map sD)
  | [] => .nil
  | c :: cs => .cons (.str _) (strs_dp cs)
theorem strs_lay : ∀ cs : List Nat, (∀ c ∈ cs, c < 128) → PyData.canLayAll0 (cs.map sD) = true
  | [], _ => rfl
  | c :: cs, h => by
    have hc := h c List.mem_cons_self
    have e : PyData.strOk ⟨#[c]⟩ = true := by
      show (#[c] : Array Nat).all (· < 0x110000) = true
      rw [Array.all_eq_true_iff_forall_mem]
      intro b hb
      have : b = c := by simpa using hb
      subst this
      exact decide_eq_true (by omega)
    simp only [List.map_cons, PyData.canLayAll0, strs_lay cs fun b hb => h b (List.mem_cons_of_mem _ hb), Bool.and_true]
    exact e
theorem strs_depth : ∀ cs : List Nat, PyData.depthAll (cs.map sD) ≤ 1
  | [] => by simp [PyData.depthAll]
  | c :: cs => by
    have := strs_depth cs
    simp only [List.map_cons, PyData.depthAll, sD, PyData.depth]
    omega
theorem strs_shaped {cs : List Nat} (h : ∀ c ∈ cs, c < 128) : SeqAt.shaped (.list (cs.map sD)) = true := by
  have h2 : (PyData.list (cs.map sD)).depth ≤ 64 := by
    have := strs_depth cs
    simp only [PyData.depth]
    omega
  show ((PyData.list (cs.map sD)).canLay0 && decide ((PyData.list (cs.map sD)).depth ≤ 64)) = true
  rw [Bool.and_eq_true]
  exact ⟨by simp only [PyData.canLay0]; exact strs_lay cs h, decide_eq_true h2⟩
theorem ok__law_number (T : Txt K mg) : FnOk P w K mg base CX0 1 T._law_number.f T._law_number.fd ps__law_number (spNumber K) := by
  refine T._law_number.F.ok sc__law_number (fun vs H Q E h => ?_) (fun cdv A outer s H vs Q E hr h => ?_)
  · obtain ⟨x, rfl, _⟩ := h
    rfl
  obtain ⟨x, rfl, hx, ax, q⟩ := h
  have hu := hu_of hr
  have hu4 := hr.units
  have hu65 := hu65_of hr
  have lx := TL.len_tl x
  have no : ∀ H2, Same H H2 → manyL (TL.tl x) = none → Q .non H2 := fun H2 s2 e => q .non H2 s2 (by rw [e])
  refine ⟨_, (pss_cons (ps_if (PW.pt (pw_or (pt_cmpR (r := rEqU K) (uEq hu4) (pv 0) pe_str (nomark _)) (pw_or (pt_cmpR op_gt (pe_callB (r := rLenU K) uLen (by rfl) T.n_len (by decide +kernel) (pa_cons (pv 0) pa_nil)) pe_int (nomark _)) (pw_or1 (pt_cmpR (r := rNeU K) (uNe hu4) (pe_lc (own := [("_law_sign_here", 1)]) rfl sc__law_number.nd (pi_str (pv 0)) (blkOk_by (own := [("_law_sign_here", 1)]) (N := names__law_number) (sc := defScope s__law_number) (by decide +kernel)) (fun _ _ _ _ _ => (pg_name (i := 1) sc__law_number.nd rfl (Or.inl rfl))) (fun _ _ _ _ _ => (pts_one (pt_cmpR (r := rNotInU K) (uNotIn hu65) (pv 1) pe_str (by rfl)))) (fun _ _ _ _ _ => (pv 1))) (pe_lst pa_nil) (nomark _)))))) (pss_one (ps_ret pe_non)) pss_nil)
  (pss_cons (ps_if (PW.pt (pw_or (pt_cmpR (r := rEqU K) (uEq hu4) (pe_ix (r := rIx K) ix_seq (pv 0) pe_int (fun _ _ => rfl)) pe_str (nomark _)) (pw_or1 (pt_cmpR op_gt (pe_callTy uInt (by rfl) T.n_int (by decide +kernel) (pa_cons (pv 0) pa_nil)) pe_int (nomark _))))) (pss_one (ps_ret pe_non)) pss_nil)
  (pss_one (ps_ret (pe_tup (pa_cons pe_str (pa_cons (pe_callTy uInt (by rfl) T.n_int (by decide +kernel) (pa_cons (pv 0) pa_nil)) pa_nil))))))), ?_⟩
  walk_at "go"
  have d0 : decide (V.str x = V.str "") = decide (x.length = 0) := by
    rw [dec_str_tl, lx]
    by_cases h : (TL.tl x).length = 0
    · rw [decide_eq_true h]
      exact decide_eq_true (List.eq_nil_of_length_eq_zero h)
    · rw [decide_eq_false h]
      exact decide_eq_false fun z => h (by rw [z]; rfl)
  rw [d0]
  refine ite2 (fun h1 => ?_) (fun h1 => ?_)
  · have h1' : x.length = 0 := of_decide_eq_true h1
    walk_at "go"
    exact no H (Same.refl _) (by unfold manyL; rw [if_pos (by omega)])
  have h1' : ¬ x.length = 0 := fun z => h1 (decide_eq_true z)
  walk_at "go"
  refine j_lenS (line_big hx) ?_
  walk_at "go"
  refine ite2 (fun h2 => ?_) (fun h2 => ?_)
  · have h2' := of_decide_eq_true h2
    walk_at "go"
    exact no H (Same.refl _) (by unfold manyL; rw [if_pos (by omega)])
  have h2' : ¬ ((4 : Int) < (x.length : Nat)) := fun z => h2 (decide_eq_true z)
  walk_at "go"
  intro Dl hD
  have hsz : x.cps.size = x.length := rfl
  refine lc_genS (fun i y G => ∀ c, x.cps[i]? = some c → y = .str ⟨#[c]⟩) (fun i => !isDig (x.cps.getD i 0)) hD (by omega) (fun i y G G' _ r => r) (fun i c hc => ⟨fun H' C N s3 _ k1 k2 => ?_⟩) (fun H' ys s3 eD m => ?_)
  · have eg : x.cps.getD i 0 = c := by
      rw [Array.getD_eq_getD_getElem?, hc]; rfl
    rw [eg] at k1 k2
    walk_at "go"
    refine ⟨rfl, ?_⟩
    walk_at "go"
    refine j_ninS ?_
    rw [dig_iff]
    walk_at "go"
    refine ite2 (fun hk => ?_) (fun hk => ?_)
    · walk_at "go"
      exact k1 hk _ H' (Same.refl _) fun c' hc' => by rw [hc] at hc'; cases hc'; rfl
    · have hk' : (!isDig c) = false := by simpa using hk
      exact k2 hk' H' (Same.refl _)
  have st : Same H H' := s3.trans (same_hide _ _)
  walk_at "go"
  refine j_al fun p2 H2 n2 s2 e2 => ?_
  obtain ⟨cs, ecs, acs⟩ := strs_of ys fun y hy => by
    obtain ⟨k, hk⟩ := List.mem_iff_getElem?.mp hy
    have hkl : k < ys.length := (List.getElem?_eq_some_iff.mp hk).1
    have hkj : k < ((List.range x.cps.size).filter fun i => !isDig (x.cps.getD i 0)).length := by rw [← m.1]; exact hkl
    have hj := List.getElem_mem hkj
    have hr := m.2 k _ y (List.getElem?_eq_getElem hkj) hk
    generalize ((List.range x.cps.size).filter fun i => !isDig (x.cps.getD i 0))[k] = j at hj hr
    have hjs : j < x.cps.size := List.mem_range.mp (List.mem_filter.mp hj).1
    exact ⟨x.cps[j], hr _ (Array.getElem?_eq_getElem hjs), ax _ (by show _ ∈ x.cps.toList; exact Array.getElem_mem_toList _)⟩
  have key : ys = [] ↔ (TL.tl x).all isDig = true := by
    rw [← List.length_eq_zero_iff, m.1, List.length_eq_zero_iff, List.filter_eq_nil_iff, List.all_eq_true]
    constructor
    · intro h c hc
      obtain ⟨j, hj⟩ := List.mem_iff_getElem?.mp hc
      have hjl : j < (TL.tl x).length := (List.getElem?_eq_some_iff.mp hj).1
      have := h j (List.mem_range.mpr (by omega))
      have eg : x.cps.getD j 0 = c := by
        rw [Array.getD_eq_getD_getElem?, ← Array.getElem?_toList]
        have hj : x.cps.toList[j]? = some c := hj
        rw [hj]; rfl
      rw [eg] at this
      simpa using this
    · intro h i hi
      have hil := List.mem_range.mp hi
      have eg : x.cps.getD i 0 = x.cps[i] := by
        rw [Array.getD_eq_getD_getElem?, Array.getElem?_eq_getElem hil]; rfl
      rw [eg]
      have := h x.cps[i] (by show _ ∈ x.cps.toList; exact Array.getElem_mem_toList _)
      simp [this]
  have tr : ∀ H3, Same H H3 → True := fun _ _ => trivial
  have sH2 : Same H H2 := st.trans s2
  refine j_neD (d := .list (cs.map sD)) (e := .list []) (.lst (.of (s2 _ _ (ecs ▸ eD))) (strs_dp cs)) (.lst (.of e2) .nil) (strs_shaped acs) (by decide) ?_
  cases cs with
  | cons c cs =>
    rw [ev_list, List.map_cons, ev_ln]
    have hn : (TL.tl x).all isDig = false := by
      cases e : (TL.tl x).all isDig with
      | false => rfl
      | true => rw [key.mpr e] at ecs; cases ecs
    walk_at "go"
    refine no H2 sH2 ?_
    unfold manyL
    by_cases h9 : (TL.tl x).length < 1 ∨ 4 < (TL.tl x).length ∨ (TL.tl x).head? = some 48
    · rw [if_pos h9]
    · rw [if_neg h9, hn]; rfl
  | nil =>
    have ecs : ys = [] := ecs
    have hall := key.mp ecs
    rw [ev_list, List.map_nil, ev_nil]
    obtain ⟨c0, r0, ex⟩ : ∃ c0 r0, TL.tl x = c0 :: r0 := by
      cases e : TL.tl x with
      | nil => rw [e] at lx; simp at lx; omega
      | cons a r => exact ⟨a, r, rfl⟩
    have ex' : x.cps.toList = c0 :: r0 := ex
    walk_at "go"
    refine j_ixS (c := c0) (line_big hx) (by rw [ex']; exact atI_nat (j := 0) rfl) ?_
    walk_at "go"
    have dc : decide (V.str ⟨#[c0]⟩ = V.str ("0" : Str)) = decide (c0 = 48) := by
      rw [dec_str_tl]
      by_cases h : c0 = 48
      · subst h; rfl
      · rw [decide_eq_false h]; exact decide_eq_false fun z => h (by
          have : TL.tl ("0" : Str) = [48] := rfl
          rw [this] at z
          exact (List.cons.inj (show [c0] = [48] from z)).1)
    rw [dc]
    refine ite2 (fun h3 => ?_) (fun h3 => ?_)
    · have h3' : c0 = 48 := of_decide_eq_true h3
      walk_at "go"
      refine no H2 sH2 ?_
      unfold manyL
      rw [if_pos (.inr (.inr (by rw [ex, h3']; rfl)))]
    · have h3' : ¬ c0 = 48 := fun z => h3 (decide_eq_true z)
      have em : manyL (TL.tl x) = (if 4095 < NumText.digitsVal (TL.tl x) then none else some (NumText.digitsVal (TL.tl x))) := by
        unfold manyL
        rw [if_neg, if_pos hall]
        rintro (h | h | h)
        · omega
        · omega
        · rw [ex] at h; exact h3' (Option.some.inj h)
      have hdig : NumText.AllDigits x.cps.toList := fun c hc => of_decide_eq_true (List.all_eq_true.mp hall c hc)
      have hne : x.cps.toList ≠ [] := by rw [ex']; exact List.cons_ne_nil _ _
      have hi := PySem.intText_digits hdig hne (by omega)
      walk_at "go"
      refine j_intS hi (by omega) ?_
      walk_at "go"
      refine ite2 (fun h5 => ?_) (fun h5 => ?_)
      · have h5' := of_decide_eq_true h5
        walk_at "go"
        refine no H2 sH2 ?_
        rw [em, if_pos (by show 4095 < NumText.digitsVal x.cps.toList; omega)]
      · have h5' : ¬ (4095 : Int) < (NumText.digitsVal x.cps.toList : Nat) := fun z => h5 (decide_eq_true z)
        rw [if_neg (by show ¬ 4095 < NumText.digitsVal x.cps.toList; omega)] at em
        walk_at "go"
        refine j_intS hi (by omega) ?_
        walk_at "go"
        refine j_al fun p H3 np s3 e3 => ?_
        refine q _ H3 (sH2.trans s3) ?_
        rw [em]
        exact Say.two e3
end

theorem cut_mid (z : Str) (n : Nat) : TL.tl (cutS z (some (n : Int)) (some (-1))) = ((TL.tl z).dropLast).drop n := by
  rw [tl_cut, HT.sIx_nat]
  have e : HT.sIx z.length z.length (some (-1)) = z.length - 1 := by
    show (if (-1 : Int) < 0 then ((-1 : Int) + (z.length : Int)).toNat else min (-1 : Int).toNat z.length) = _
    rw [if_pos (by decide)]
    omega
  rw [e, TL.len_tl, List.dropLast_eq_take, List.drop_take]
  by_cases h : n ≤ (TL.tl z).length
  · rw [Nat.min_eq_left h]
  · rw [Nat.min_eq_right (by omega), List.drop_eq_nil_of_le (by omega), List.drop_eq_nil_of_le (by omega), List.take_nil, List.take_nil]
theorem inner_eq {t w : List Nat} (h1 : t.take (w.length + 1) = w ++ [40]) (h2 : t.getLast? = some 41) : t = w ++ [40] ++ t.dropLast.drop (w.length + 1) ++ [41] := by
  have e := last_drop h2
  have hl : (w ++ [40]).length = w.length + 1 := by rw [List.length_append]; rfl
  have hlen : w.length + 1 ≤ t.length := by
    have := congrArg List.length h1
    rw [List.length_take, hl] at this
    omega
  by_cases hq : t.length = w.length + 1
  · rw [List.take_of_length_le (by omega)] at h1
    rw [h1, List.getLast?_concat] at h2
    cases h2
  · have e2 : t.dropLast.take (w.length + 1) = w ++ [40] := by
      rw [List.dropLast_eq_take, List.take_take, Nat.min_eq_left (by omega), h1]
    have e3 := List.take_append_drop (w.length + 1) t.dropLast
    rw [e2] at e3
    rw [e3]
    exact e
/-- a joined text's parts -/
theorem jn_parts {d : Nat} {t : List Nat} {w : Str} {a b : Say} (h : readL d t = some (.jn w a b)) : ∃ e, d = e + 1 ∧ w ∈ joinedL ∧ a.Ok e ∧ b.Ok e ∧
    t.take ((TL.tl w).length + 1) = TL.tl w ++ [40] ∧ t.getLast? = some 41 ∧ t.dropLast.drop ((TL.tl w).length + 1) = a.txt ++ ([44, 32] ++ b.txt) := by
  obtain ⟨h1, h2⟩ := read_some d t _ h
  cases d with
  | zero => exact h2.elim
  | succ e =>
    obtain ⟨hw, oa, ob⟩ := h2
    have e1 : t = (TL.tl w ++ [40]) ++ (a.txt ++ ([44, 32] ++ b.txt) ++ [41]) := by
      rw [h1]
      show TL.tl w ++ [40] ++ a.txt ++ [44, 32] ++ b.txt ++ [41] = _
      simp only [List.append_assoc]
    have hl : (TL.tl w ++ [40]).length = (TL.tl w).length + 1 := by rw [List.length_append]; rfl
    refine ⟨e, rfl, hw, oa, ob, ?_, ?_, ?_⟩
    · rw [e1, ← hl, List.take_left]
    · rw [e1, ← List.append_assoc, List.getLast?_concat]
    · rw [e1, ← List.append_assoc, List.dropLast_concat, ← hl, List.drop_left]
theorem jn_hit {d : Nat} {t : List Nat} {w : Str} {a b : Say} (h : readL (d + 1) t = some (.jn w a b)) :
    ((t.dropLast.drop ((TL.tl w).length + 1)).drop a.txt.length).take 2 = [44, 32] ∧ ((t.dropLast.drop ((TL.tl w).length + 1)).take a.txt.length).count 40 = ((t.dropLast.drop ((TL.tl w).length + 1)).take a.txt.length).count 41 ∧
    readL d ((t.dropLast.drop ((TL.tl w).length + 1)).take a.txt.length) = some a ∧ readL d ((t.dropLast.drop ((TL.tl w).length + 1)).drop (a.txt.length + 2)) = some b ∧ a.txt.length < (t.dropLast.drop ((TL.tl w).length + 1)).length := by
  obtain ⟨e, he, _, oa, ob, _, _, hi⟩ := jn_parts h
  have he : e = d := by omega
  subst he
  rw [hi]
  have e7 : (a.txt ++ ([44, 32] ++ b.txt)).drop (a.txt.length + 2) = b.txt := by
    rw [← List.append_assoc]
    exact List.drop_left' (by simp)
  refine ⟨by rw [List.drop_left]; rfl, by rw [List.take_left]; exact txt_bal _ a oa, by rw [List.take_left]; exact read_txt _ a oa, by rw [e7]; exact read_txt _ b ob, by simp⟩
theorem jn_make {d : Nat} {t : List Nat} {w : Str} {i : Nat} {a b : Say} (hw : w ∈ joinedL) (h1 : t.take ((TL.tl w).length + 1) = TL.tl w ++ [40]) (h2 : t.getLast? = some 41)
    (h3 : ((t.dropLast.drop ((TL.tl w).length + 1)).drop i).take 2 = [44, 32]) (ha : readL d ((t.dropLast.drop ((TL.tl w).length + 1)).take i) = some a) (hb : readL d ((t.dropLast.drop ((TL.tl w).length + 1)).drop (i + 2)) = some b) : readL (d + 1) t = some (.jn w a b) := by
  have e1 := inner_eq h1 h2
  generalize t.dropLast.drop ((TL.tl w).length + 1) = inner at *
  have e2 := drop_take_two h3
  obtain ⟨ea, oa⟩ := read_some _ _ _ ha
  obtain ⟨eb, ob⟩ := read_some _ _ _ hb
  rw [ea, eb] at e2
  refine read_iff.mpr ⟨?_, hw, oa, ob⟩
  rw [e1, e2]
  show _ = TL.tl w ++ [40] ++ a.txt ++ [44, 32] ++ b.txt ++ [41]
  simp only [List.append_assoc]
theorem not_jn {d : Nat} {t : List Nat} (hp : mk t ∉ plainL) (hm : ¬ manyC <+: t) (hj : ∀ w ∈ joinedL, ∀ a b, readL d t ≠ some (.jn w a b)) : readL d t = none := by
  cases e : readL d t with
  | none => rfl
  | some s =>
    obtain ⟨h1, h2⟩ := read_some d t s e
    cases s with
    | pl w =>
      have : w ∈ plainL := by cases d <;> exact h2
      rw [h1] at hp
      exact absurd (show mk (TL.tl w) ∈ plainL by rw [mk_tl']; exact this) hp
    | many n => exact absurd (by rw [h1]; exact ⟨_, rfl⟩) hm
    | jn w a b =>
      obtain ⟨_, _, hw, _⟩ := jn_parts e
      exact absurd e (hj w hw a b)
def spLRead (K : PySem.W.Frag) : Nat → Sp
  | 0 => fun _ _ _ _ => False
  | d + 1 => fun vs H Q _ => ∃ x : Str, vs = [.str x, .int d] ∧ x.length ≤ 100000 ∧ Asc x ∧ ∀ v H2, Same H H2 → (match readL d (TL.tl x) with | none => v = .non | some s => Dt K H2 v s.toD) → Q v H2
theorem take_many (t : List Nat) : t.take 5 = manyC ↔ manyC <+: t := ⟨fun h => ⟨t.drop 5, by rw [← h]; exact List.take_append_drop 5 t⟩, fun ⟨r, h⟩ => by rw [← h]; rfl⟩
section
variable {P : Program} {w : World} {K : PySem.W.Frag} {mg : Str → Option Value} {base : Heap}
theorem ok__law_read (T : Txt K mg) : ∀ d, FnOk P w K mg base CX0 (d + 1) T._law_read.f T._law_read.fd ps__law_read (spLRead K d)
  | 0 => (fn_none fun _ _ _ _ z => z).mono (by omega)
  | d + 1 => by
    have G__law_read := ok__law_read T d
    have G__law_number := ok__law_number (P := P) (w := w) (base := base) T
    refine T._law_read.F.ok sc__law_read (fun vs H Q E h => ?_) (fun cdv A outer s H vs Q E hr h => ?_)
    · obtain ⟨x, rfl, _⟩ := h
      rfl
    obtain ⟨x, rfl, hx, ax, q⟩ := h
    have hu := hu_of hr
    have hu4 := hr.units
    have hu65 := hu65_of hr
    have lx := TL.len_tl x
    refine ⟨_, (pss_cons (ps_if (pt_cmpR (r := rInU K) (uIn hu65) (pv 0) (pe_lst (pa_cons pe_str (pa_cons pe_str (pa_cons pe_str (pa_cons pe_str (pa_cons pe_str (pa_cons pe_str (pa_cons pe_str (pa_cons pe_str (pa_cons pe_str pa_nil)))))))))) (by rfl)) (pss_one (ps_ret (pe_tup (pa_cons (pv 0) pa_nil)))) pss_nil)
  (pss_cons (ps_if (pt_cmpR (r := rEqU K) (uEq hu4) (pe_slice (r := rSlU K) uSl (pv 0) po_none (po_some pe_int)) pe_str (nomark _)) (pss_one (ps_ret (pe_call G__law_number (hr.mono (by omega)) (by rfl) T._law_number.g T._law_number.F.kp T._law_number.b .nil pass0 (pa_cons (pe_slice (r := rSlU K) uSl (pv 0) (po_some pe_int) po_none) pa_nil)))) pss_nil)
  (pss_cons (ps_for PassesOwn.never rfl (pi_listK K rfl (pe_lst (pa_cons pe_str (pa_cons pe_str pa_nil)))) (pg_name (i := 2) sc__law_read.nd rfl (Or.inl rfl))
  (pss_cons (ps_set (i := 3) sc__law_read.nd rfl (Or.inl rfl) (pe_op uAdd (pe_callB (r := rLenU K) uLen (by rfl) T.n_len (by decide +kernel) (pa_cons (pv 2) pa_nil)) pe_int))
  (pss_one (ps_if (PW.pt (pw_and (pt_cmpR (r := rEqU K) (uEq hu4) (pe_slice (r := rSlU K) uSl (pv 0) po_none (po_some (pv 3))) (pe_op uAdd (pv 2) pe_str) (nomark _)) (pw_and (pt_cmpR (r := rEqU K) (uEq hu4) (pe_slice (r := rSlU K) uSl (pv 0) (po_some (pe_un un_neg pe_int)) po_none) pe_str (nomark _)) (pw_and1 (pt_cmpR op_gt (pv 1) pe_int (nomark _)))))) (pss_cons (ps_set (i := 4) sc__law_read.nd rfl (Or.inl rfl) (pe_slice (r := rSlU K) uSl (pv 0) (po_some (pv 3)) (po_some (pe_un un_neg pe_int))))
  (pss_one (ps_for PassesOwn.never rfl (pi_range1 (by rfl) T.n_range (pa_cons (pe_callB (r := rLenU K) uLen (by rfl) T.n_len (by decide +kernel) (pa_cons (pv 4) pa_nil)) pa_nil)) (pg_name (i := 5) sc__law_read.nd rfl (Or.inl rfl))
  (pss_one (ps_if (PW.pt (pw_and (pt_cmpR (r := rEqU K) (uEq hu4) (pe_slice (r := rSlU K) uSl (pv 4) (po_some (pv 5)) (po_some (pe_op uAdd (pv 5) pe_int))) pe_str (nomark _)) (pw_and1 (pt_cmpR (r := rEqU K) (uEq hu4) (pe_m1 PySem.F.slot_str_count PySem.F.type_str_count mt_countU (pe_slice (r := rSlU K) uSl (pv 4) po_none (po_some (pv 5))) (pe_str)) (pe_m1 PySem.F.slot_str_count PySem.F.type_str_count mt_countU (pe_slice (r := rSlU K) uSl (pv 4) po_none (po_some (pv 5))) (pe_str)) (nomark _))))) (pss_cons (ps_set (i := 6) sc__law_read.nd rfl (Or.inl rfl) (pe_call G__law_read (hr.mono (by omega)) (by rfl) T._law_read.g T._law_read.F.kp T._law_read.b .nil pass0 (pa_cons (pe_slice (r := rSlU K) uSl (pv 4) po_none (po_some (pv 5))) (pa_cons (pe_op op_sub (pv 1) pe_int) pa_nil))))
  (pss_cons (ps_set (i := 7) sc__law_read.nd rfl (Or.inl rfl) (pe_call G__law_read (hr.mono (by omega)) (by rfl) T._law_read.g T._law_read.F.kp T._law_read.b .nil pass0 (pa_cons (pe_slice (r := rSlU K) uSl (pv 4) (po_some (pe_op uAdd (pv 5) pe_int)) po_none) (pa_cons (pe_op op_sub (pv 1) pe_int) pa_nil))))
  (pss_one (ps_if (PW.pt (pw_and (pt_cmpR uNotN (pv 6) pe_non (nomark _)) (pw_and1 (pt_cmpR uNotN (pv 7) pe_non (nomark _))))) (pss_one (ps_ret (pe_tup (pa_cons (pv 2) (pa_cons (pv 6) (pa_cons (pv 7) pa_nil)))))) pss_nil)))) pss_nil))))) pss_nil))))
  (pss_one (ps_ret pe_non))))), ?_⟩
    walk_at "go"
    refine j_al fun p1 H1 n1 s1 e1 => ?_
    refine j_inLS plainL (.of e1) rfl ?_
    walk_at "go"
    refine ite2 (fun hp => ?_) (fun hp => ?_)
    · have hp' : x ∈ plainL := of_decide_eq_true hp
      walk_at "go"
      refine j_al fun p H2 n2 s2 e2 => ?_
      refine q _ H2 (s1.trans s2) ?_
      rw [plain_read hp']
      exact Say.one e2
    have hp' : x ∉ plainL := fun z => hp (decide_eq_true z)
    walk_at "go"
    refine j_slS (line_big hx) ?_
    walk_at "go"
    have dm : decide (V.str (cutS x none (some 5)) = V.str ("many " : Str)) = decide (manyC <+: TL.tl x) := by
      rw [dec_str_tl, Bool.eq_iff_iff, decide_eq_true_iff, decide_eq_true_iff, ← take_many]
      have : TL.tl (cutS x none (some ((5 : Nat) : Int))) = (TL.tl x).take 5 := cut_to x 5
      rw [show ((5 : Nat) : Int) = 5 from rfl] at this
      rw [this]
      exact Iff.rfl
    rw [dm]
    refine ite2 (fun hm => ?_) (fun hm => ?_)
    · have hm' : manyC <+: TL.tl x := of_decide_eq_true hm
      walk_at "go"
      refine j_slS (line_big hx) ?_
      refine ⟨cutS x (some ((5 : Nat) : Int)) none, rfl, Nat.le_trans (cut_len _ _ _) hx, asc_cut ax _ _, fun v H2 s2 r => ?_⟩
      refine q v H2 (s1.trans s2) ?_
      rw [cut_from] at r
      rw [many_read hp' hm']
      cases hml : manyL ((TL.tl x).drop 5) with
      | none => rw [hml] at r; exact r
      | some n => rw [hml] at r; exact r
    have hm' : ¬ manyC <+: TL.tl x := fun z => hm (decide_eq_true z)
    walk_at "go"
    refine j_al fun p2 H2 n2 s2 e2 => ?_
    refine ⟨p2, rfl, ⟨_, .of e2⟩, ?_⟩
    refine for_list (K := K) (xs := joinedL.map V.str) (fun j σ H' => ∃ y1 y2 y3 y4 y5 y6, σ = [some (.str x), some (.int d), y1, y2, y3, y4, y5, y6] ∧ Same H2 H' ∧ ∀ w ∈ joinedL.take j, ∀ a b, readL d (TL.tl x) ≠ some (.jn w a b))
      ⟨none, none, none, none, none, none, rfl, Same.refl _, fun w hw => by simp at hw⟩ ?_ ?_ ?_
    · rintro j σ H' _ ⟨_, _, _, _, _, _, _, s3, _⟩
      exact .of (s3 _ _ e2)
    · rintro j v σ H' hv ⟨y1, y2, y3, y4, y5, y6, rfl, s3, inv⟩
      obtain ⟨wd, hwj, rfl⟩ : ∃ wd, joinedL[j]? = some wd ∧ v = V.str wd := by
        rw [List.getElem?_map] at hv
        cases e : joinedL[j]? with
        | none => rw [e] at hv; cases hv
        | some wd => rw [e] at hv; exact ⟨wd, rfl, (Option.some.inj hv).symm⟩
      have hw : wd ∈ joinedL := List.mem_of_getElem? hwj
      have lw : (TL.tl wd).length ≤ 6 := (joined_codes wd hw).2.1
      have lw' := TL.len_tl wd
      -- where the word is none
      have stop : ∀ (y1 y2 y3 y4 y5 y6 : Option V) (H3 : Hp), Same H2 H3 → (∀ a b, readL d (TL.tl x) ≠ some (.jn wd a b)) →
          ∃ z1 z2 z3 z4 z5 z6, [some (V.str x), some (V.int d), y1, y2, y3, y4, y5, y6] = [some (V.str x), some (V.int d), z1, z2, z3, z4, z5, z6] ∧ Same H2 H3 ∧ ∀ w ∈ joinedL.take (j + 1), ∀ a b, readL d (TL.tl x) ≠ some (.jn w a b) :=
        fun y1 y2 y3 y4 y5 y6 H3 s4 h => ⟨y1, y2, y3, y4, y5, y6, rfl, s4, fun w hw' => by
          rw [List.take_add_one, hwj] at hw'
          rcases List.mem_append.mp hw' with h' | h'
          · exact inv w h'
          · have : w = wd := by simpa using h'
            rw [this]; exact h⟩
      walk_at "go"
      refine j_lenS (line_big (by omega)) ?_
      walk_at "go"
      refine j_slS (line_big hx) ?_
      walk_at "go"
      refine j_addS (line_big (by have : ("(" : Str).length = 1 := rfl
                                  omega)) ?_
      walk_at "go"
      have ebg : ((wd.length : Nat) : Int) + 1 = (((TL.tl wd).length + 1 : Nat) : Int) := by omega
      rw [ebg]
      have c40 : TL.tl ("(" : Str) = [40] := rfl
      have d1 : decide (V.str (cutS x none (some (((TL.tl wd).length + 1 : Nat) : Int))) = V.str (wd ++ ("(" : Str))) = decide ((TL.tl x).take ((TL.tl wd).length + 1) = TL.tl wd ++ [40]) := by
        rw [dec_str_tl, cut_to, TL.tl_append, c40]
      rw [d1]
      have no1 : ∀ y1 y2 y3 y4 y5 y6, ¬ ((TL.tl x).take ((TL.tl wd).length + 1) = TL.tl wd ++ [40] ∧ (TL.tl x).getLast? = some 41 ∧ 0 < d) → _ := fun y1 y2 y3 y4 y5 y6 h => stop y1 y2 y3 y4 y5 y6 H' s3 fun a b hab => by
        obtain ⟨e, he, _, _, _, g1, g2, _⟩ := jn_parts hab
        exact h ⟨g1, g2, by omega⟩
      refine ite2 (fun h1 => ?_) (fun h1 => ?_)
      case refine_2 =>
        walk_at "go"
        exact no1 _ _ _ _ _ _ fun z => h1 (decide_eq_true z.1)
      have h1' := of_decide_eq_true h1
      walk_at "go"
      refine j_slS (line_big hx) ?_
      walk_at "go"
      have d2 : decide (V.str (cutS x (some (-1)) none) = V.str (")" : Str)) = decide ((TL.tl x).getLast? = some 41) := by
        rw [dec_str_tl, cut_last]
        have c41 : TL.tl (")" : Str) = [41] := rfl
        rw [c41, Bool.eq_iff_iff, decide_eq_true_iff, decide_eq_true_iff]
        exact last_sign _
      rw [show ((-1 : Int)) = -(1 : Int) from rfl] at d2
      rw [d2]
      refine ite2 (fun h2 => ?_) (fun h2 => ?_)
      case refine_2 =>
        walk_at "go"
        exact no1 _ _ _ _ _ _ fun z => h2 (decide_eq_true z.2.1)
      have h2' := of_decide_eq_true h2
      walk_at "go"
      refine ite2 (fun h3 => ?_) (fun h3 => ?_)
      case refine_2 =>
        walk_at "go"
        exact no1 _ _ _ _ _ _ fun z => h3 (decide_eq_true (by omega))
      have h3' : (0 : Int) < ((d : Nat) : Int) := of_decide_eq_true h3
      obtain ⟨e, rfl⟩ : ∃ e, d = e + 1 := ⟨d - 1, by omega⟩
      walk_at "go"
      refine j_slS (line_big hx) ?_
      walk_at "go"
      have em : TL.tl (cutS x (some (((TL.tl wd).length + 1 : Nat) : Int)) (some (-1))) = (TL.tl x).dropLast.drop ((TL.tl wd).length + 1) := cut_mid x _
      rw [show ((-1 : Int)) = -(1 : Int) from rfl] at em
      have lm : (cutS x (some (((TL.tl wd).length + 1 : Nat) : Int)) (some (-(1 : Int)))).length ≤ 100000 := Nat.le_trans (cut_len _ _ _) hx
      have am : Asc (cutS x (some (((TL.tl wd).length + 1 : Nat) : Int)) (some (-(1 : Int)))) := asc_cut ax _ _
      generalize cutS x (some (((TL.tl wd).length + 1 : Nat) : Int)) (some (-(1 : Int))) = r2 at em lm am
      refine j_lenS (line_big lm) ?_
      walk_at "go"
      refine ⟨_, rfl, by omega, by omega, ?_⟩
      have lr2 := TL.len_tl r2
      refine for_range (lo := 0) (n := ((r2.length : Nat) : Int).toNat) (fun i σ H' => ∃ y1 y2 y3, σ = [some (.str x), some (.int ((e + 1 : Nat) : Int)), some (.str wd), some (.int (((TL.tl wd).length + 1 : Nat) : Int)), some (.str r2), y1, y2, y3] ∧ Same H2 H' ∧ ∀ a b, readL (e + 1) (TL.tl x) = some (.jn wd a b) → i ≤ a.txt.length)
        ⟨_, _, _, rfl, s3, fun _ _ _ => Nat.zero_le _⟩ ?_ ?_
      · rintro i σ H3 hi ⟨y1, y2, y3, rfl, s4, inv2⟩
        have hi : i < r2.length := by omega
        have e0 : (0 : Int) + (i : Nat) = ((i : Nat) : Int) := by omega
        rw [e0]
        have next : ∀ (y1 y2 y3 : Option V) (H4 : Hp), Same H2 H4 → (∀ a b, readL (e + 1) (TL.tl x) = some (.jn wd a b) → a.txt.length ≠ i) →
            ∃ z1 z2 z3, [some (V.str x), some (.int ((e + 1 : Nat) : Int)), some (.str wd), some (.int (((TL.tl wd).length + 1 : Nat) : Int)), some (.str r2), y1, y2, y3] = [some (V.str x), some (.int ((e + 1 : Nat) : Int)), some (.str wd), some (.int (((TL.tl wd).length + 1 : Nat) : Int)), some (.str r2), z1, z2, z3] ∧ Same H2 H4 ∧ ∀ a b, readL (e + 1) (TL.tl x) = some (.jn wd a b) → i + 1 ≤ a.txt.length :=
          fun y1 y2 y3 H4 s5 h => ⟨y1, y2, y3, rfl, s5, fun a b hab => by
            have h1 := inv2 a b hab
            have h2 := h a b hab
            omega⟩
        walk_at "go"
        refine j_slS (line_big lm) ?_
        walk_at "go"
        have d3 : decide (V.str (cutS r2 (some (i : Int)) (some ((i : Int) + 2))) = V.str (", " : Str)) = decide (((TL.tl r2).drop i).take 2 = [44, 32]) := by
          rw [dec_str_tl, cut_two]
          rfl
        rw [d3]
        refine ite2 (fun h4 => ?_) (fun h4 => ?_)
        case refine_2 =>
          walk_at "go"
          refine next _ _ _ _ s4 fun a b hab hai => h4 (decide_eq_true ?_)
          have := (jn_hit hab).1
          rw [hai] at this
          rw [em]; exact this
        have h4' := of_decide_eq_true h4
        walk_at "go"
        refine j_slS (line_big lm) ?_
        walk_at "go"
        refine j_slS (line_big lm) ?_
        walk_at "go"
        have n40 : Txt.count (cutS r2 none (some (i : Int))) ("(" : Str) = ((((TL.tl r2).take i).count 40 : Nat) : Int) := by
          rw [show ("(" : Str) = ⟨#[40]⟩ from rfl, txt_count, cut_to]
        have n41 : Txt.count (cutS r2 none (some (i : Int))) (")" : Str) = ((((TL.tl r2).take i).count 41 : Nat) : Int) := by
          rw [show (")" : Str) = ⟨#[41]⟩ from rfl, txt_count, cut_to]
        rw [n40, n41]
        refine ite2 (fun h5 => ?_) (fun h5 => ?_)
        case refine_2 =>
          walk_at "go"
          refine next _ _ _ _ s4 fun a b hab hai => h5 (decide_eq_true ?_)
          have := (jn_hit hab).2.1
          rw [hai] at this
          rw [em, this]
        walk_at "go"
        refine j_slS (line_big lm) ?_
        walk_at "go"
        have ed : ((e + 1 : Nat) : Int) - 1 = ((e : Nat) : Int) := by omega
        refine ⟨cutS r2 none (some (i : Int)), by rw [ed]; rfl, Nat.le_trans (cut_len _ _ _) lm, asc_cut am _ _, fun v1 H4 s5 r1 => ?_⟩
        rw [cut_to, em] at r1
        walk_at "go"
        refine j_slS (line_big lm) ?_
        walk_at "go"
        have ei : ((i : Int) + 2) = ((i + 2 : Nat) : Int) := by omega
        refine ⟨cutS r2 (some ((i : Int) + 2)) none, by rw [ed]; rfl, Nat.le_trans (cut_len _ _ _) lm, asc_cut am _ _, fun v2 H5 s6 r2' => ?_⟩
        rw [ei, cut_from, em] at r2'
        have sx : Same H2 H5 := s4.trans (s5.trans s6)
        rw [em] at h4'
        walk_at "go"
        cases h6 : readL e (((TL.tl x).dropLast.drop ((TL.tl wd).length + 1)).take i) with
        | none =>
          rw [h6] at r1
          have r1 : v1 = .non := r1
          subst r1
          walk_at "go"
          refine next _ _ _ _ sx fun a b hab hai => ?_
          have := (jn_hit hab).2.2.1
          rw [hai, h6] at this
          cases this
        | some a =>
          rw [h6] at r1
          have r1 : Dt K H4 v1 a.toD := r1
          obtain ⟨q1, hq1, _⟩ := say_inv r1
          subst hq1
          walk_at "go"
          refine j_ifP (by simp) ?_
          walk_at "go"
          cases h7 : readL e (((TL.tl x).dropLast.drop ((TL.tl wd).length + 1)).drop (i + 2)) with
          | none =>
            rw [h7] at r2'
            have r2' : v2 = .non := r2'
            subst r2'
            walk_at "go"
            refine next _ _ _ _ sx fun a' b hab hai => ?_
            have := (jn_hit hab).2.2.2.1
            rw [hai, h7] at this
            cases this
          | some b =>
            rw [h7] at r2'
            have r2' : Dt K H5 v2 b.toD := r2'
            obtain ⟨q2, hq2, _⟩ := say_inv r2'
            subst hq2
            walk_at "go"
            refine j_ifP (by simp) ?_
            walk_at "go"
            refine j_al fun p5 H6 n5 s7 e5 => ?_
            refine q _ H6 (s1.trans (s2.trans (sx.trans s7))) ?_
            rw [jn_make hw h1' h2' h4' h6 h7]
            exact Say.three e5 (ts_dt (ts_same (s6.trans s7)) r1) (ts_dt (ts_same s7) r2')
      · rintro σ H3 ⟨y1, y2, y3, rfl, s4, inv2⟩
        refine stop _ _ _ _ _ _ H3 s4 fun a b hab => ?_
        have g1 := inv2 a b hab
        have g2 := (jn_hit hab).2.2.2.2
        rw [← em] at g2
        omega
    · rintro σ H3 ⟨y1, y2, y3, y4, y5, y6, rfl, s3, inv⟩
      walk_at "go"
      refine q .non H3 (s1.trans (s2.trans s3)) ?_
      rw [not_jn (by rw [mk_tl']; exact hp') hm' (fun w hw => inv w (by rw [List.take_of_length_le (by simp)]; exact hw))]
end

theorem mk_lenS (l : List Nat) : (mk l).length = l.length := by rw [TL.len_tl, tl_mk']
theorem txt_asc : ∀ (d : Nat) (s : Say), s.Ok d → ∀ c ∈ s.txt, c < 128
  | d, .pl w, h, c, hc => by
    have hw : w ∈ plainL := by cases d <;> exact h
    have := (plain_codes w hw).1 c hc
    omega
  | d, .many n, h, c, hc => by
    rcases List.mem_append.mp hc with hc | hc
    · have : c = 109 ∨ c = 97 ∨ c = 110 ∨ c = 121 ∨ c = 32 := by simpa [manyC] using hc
      omega
    · have := numL_dig n c hc
      omega
  | d + 1, .jn w a b, h, c, hc => by
    obtain ⟨hw, ha, hb⟩ := h
    have hc : c ∈ TL.tl w ++ [40] ++ a.txt ++ [44, 32] ++ b.txt ++ [41] := hc
    simp only [List.mem_append, List.mem_cons, List.not_mem_nil, or_false] at hc
    rcases hc with ((((hc | hc) | hc) | hc) | hc) | hc
    · have := (joined_codes w hw).1 c hc
      omega
    · omega
    · exact txt_asc d a ha c hc
    · omega
    · exact txt_asc d b hb c hc
    · omega
theorem j_dnew {σ : L2.St} {H : Hp} {Q : VK} (q : Al (.dK []) H Q) : tDNewK σ H Q := q
/-- a thing that is no saying's text -/
inductive Odd (H : Hp) : V → Prop
  | str {x : Str} (h : x.length ≤ 100000) (e : readL 3 (TL.tl x) = none) : Odd H (.str x)
  | non : Odd H .non
  | int (i : Int) : Odd H (.int i)
  | bl (b : Bool) : Odd H (.bl b)
  | tup {a : Addr} {xs : List V} (h : H a = some (.tup xs)) : Odd H (.ref a)
  | lst {a : Addr} {xs : List V} (h : H a = some (.lst xs)) : Odd H (.ref a)
  | dK {a : Addr} {kvs : List (Key × V)} (h : H a = some (.dK kvs)) : Odd H (.ref a)
theorem Odd.same {H H' : Hp} {v : V} (s : Same H H') (h : Odd H v) : Odd H' v := by
  cases h with
  | str h e => exact .str h e
  | non => exact .non
  | int i => exact .int i
  | bl b => exact .bl b
  | tup h => exact .tup (s _ _ h)
  | lst h => exact .lst (s _ _ h)
  | dK h => exact .dK (s _ _ h)
theorem Odd.told {K : PySem.W.Frag} {H : Hp} {v : V} {Q : VK} {E : XK} (h : Odd H v) (q : ∀ H2, Same H H2 → Q .non H2) : spTold K [v] H Q E := by
  cases h with
  | str h e => exact .inl ⟨_, rfl, h, fun v H2 s2 r => by rw [e] at r; have r : v = .non := r; rw [r]; exact q H2 s2⟩
  | non => exact .inr ⟨_, _, rfl, .base .non, kit_ty (r := false) (by decide +kernel), q⟩
  | int i => exact .inr ⟨_, _, rfl, .base (.int i), kit_ty (r := false) (by decide +kernel), q⟩
  | bl b => exact .inr ⟨_, _, rfl, .base (.bl b), kit_ty (r := false) (by decide +kernel), q⟩
  | tup h => exact .inr ⟨_, _, rfl, .base (.tup h), kit_ty (r := false) (by decide +kernel), q⟩
  | lst h => exact .inr ⟨_, _, rfl, .base (.lst h), kit_ty (r := false) (by decide +kernel), q⟩
  | dK h => exact .inr ⟨_, _, rfl, .base (.dK h), kit_ty (r := false) (by decide +kernel), q⟩
theorem odd_long {H : Hp} {z : Str} (h1 : 142 < z.length) (h2 : z.length ≤ 100000) : Odd H (.str z) := .str h2 (read_long (Nat.le_refl 3) (by rw [← TL.len_tl]; exact h1))
def dueS : Say := .jn "either" (.many 4095) (.jn "both" (.pl "odd") (.pl "ball"))
def spLaw (K : PySem.W.Frag) : Sp := fun vs H Q _ => ∃ (a : Addr) (ns : List Int), vs = [.ref a] ∧ SqL K H a (ns.map V.int) ∧ ns.length ≤ 63 ∧ ∀ H', Q (.bl true) H'
section
variable {P : Program} {w : World} {K : PySem.W.Frag} {mg : Str → Option Value} {base : Heap}
/-- told and read alike -/
theorem told_ne {t : List Nat} {v1 v2 : V} {H1 H2 : Hp} {Q : VK} (s : Same H1 H2) (r1 : match readL 3 t with | none => v1 = .non | some s => Dt K H1 v1 s.toD) (r2 : match readL 3 t with | none => v2 = .non | some s => Dt K H2 v2 s.toD) (q : Q (.bl false) H2) : rNeU K v1 v2 H2 Q := by
  cases e : readL 3 t with
  | none =>
    rw [e] at r1 r2
    have r1 : v1 = .non := r1
    have r2 : v2 = .non := r2
    subst r1 r2
    refine j_ne rfl ?_
    simpa using q
  | some s =>
    rw [e] at r1 r2
    have r1 : Dt K H1 v1 s.toD := r1
    have r2 : Dt K H2 v2 s.toD := r2
    obtain ⟨_, ok⟩ := read_some _ _ _ e
    have sh := sd_shaped ok (Nat.le_refl 3)
    refine j_neD (ts_dt (ts_same ‹_›) r1).dp r2.dp sh sh ?_
    rw [(sd_eqv s s).mpr rfl]
    exact q
theorem ok_law (T : Txt K mg) : FnOk P w K mg base CX0 20 T.law.f T.law.fd ps_law (spLaw K) := by
  have G__law_pool := ok__law_pool (P := P) (w := w) (base := base) T
  have G__law_saying := ok__law_saying (P := P) (w := w) (base := base) T 4
  have G_show_saying := ok_show_saying (P := P) (w := w) (base := base) T 4
  have G__law_other := ok__law_other (P := P) (w := w) (base := base) T
  have G__law_told := ok__law_told (P := P) (w := w) (base := base) T
  have G__law_read := ok__law_read (P := P) (w := w) (base := base) T 4
  refine T.law.F.ok sc_law (fun vs H Q E h => ?_) (fun cdv A outer s H vs Q E hr h => ?_)
  · obtain ⟨a, ns, rfl, _⟩ := h
    rfl
  obtain ⟨a, ns, rfl, hS, h63, q⟩ := h
  have hu := hu_of hr
  have hu4 := hr.units
  have hu65 := hu65_of hr
  refine ⟨_, (pss_cons (ps_for PassesOwn.never rfl (pi_range1 (by rfl) T.n_range (pa_cons (pe_callB (call_max2 rfl) (by rfl) T.n_max (by decide +kernel) (pa_cons pe_int (pa_cons (pe_callB (call_min2 rfl) (by rfl) T.n_min (by decide +kernel) (pa_cons (pe_callB (r := rLenU K) uLen (by rfl) T.n_len (by decide +kernel) (pa_cons (pv 0) pa_nil)) (pa_cons pe_int pa_nil))) pa_nil))) pa_nil)) (pg_name (i := 1) sc_law.nd rfl (Or.inl rfl))
  (pss_cons (ps_set (i := 2) sc_law.nd rfl (Or.inl rfl) (pe_call G__law_pool (hr.mono (by omega)) (by rfl) T._law_pool.g T._law_pool.F.kp T._law_pool.b .nil pass0 (pa_cons (pv 0) (pa_cons (pv 1) pa_nil))))
  (pss_cons (ps_set (i := 3) sc_law.nd rfl (Or.inl rfl) (pe_call G__law_saying (hr.mono (by omega)) (by rfl) T._law_saying.g T._law_saying.F.kp T._law_saying.b .nil pass0 (pa_cons (pv 2) (pa_cons pe_int pa_nil))))
  (pss_cons (ps_set (i := 4) sc_law.nd rfl (Or.inl rfl) (pe_call G_show_saying (hr.mono (by omega)) (by rfl) T.show_saying.g T.show_saying.F.kp T.show_saying.b .nil pass0 (pa_cons (pv 3) pa_nil)))
  (pss_cons (ps_set (i := 5) sc_law.nd rfl (Or.inl rfl) (pe_call G__law_other (hr.mono (by omega)) (by rfl) T._law_other.g T._law_other.F.kp T._law_other.b .nil pass0 (pa_cons (pv 4) (pa_cons (pv 2) pa_nil))))
  (pss_cons (ps_if (PW.pt (pw_or (pt_cmpR (r := rNeU K) (uNe hu4) (pe_call G__law_told (hr.mono (by omega)) (by rfl) T._law_told.g T._law_told.F.kp T._law_told.b .nil pass0 (pa_cons (pv 5) pa_nil)) (pe_call G__law_read (hr.mono (by omega)) (by rfl) T._law_read.g T._law_read.F.kp T._law_read.b .nil pass0 (pa_cons (pv 5) (pa_cons pe_int pa_nil))) (nomark _)) (pw_or1 (pt_cmpR (r := rNeU K) (uNe hu4) (pe_call G__law_told (hr.mono (by omega)) (by rfl) T._law_told.g T._law_told.F.kp T._law_told.b .nil pass0 (pa_cons (pv 4) pa_nil)) (pv 3) (nomark _))))) (pss_one (ps_ret pe_bl)) pss_nil)
  (pss_one (ps_if (pt_cmpR (r := rNeU K) (uNe hu4) (pe_call G__law_told (hr.mono (by omega)) (by rfl) T._law_told.g T._law_told.F.kp T._law_told.b .nil pass0 (pa_cons (pe_op uAdd (pv 4) (pv 5)) pa_nil)) (pe_call G__law_read (hr.mono (by omega)) (by rfl) T._law_read.g T._law_read.F.kp T._law_read.b .nil pass0 (pa_cons (pe_op uAdd (pv 4) (pv 5)) (pa_cons pe_int pa_nil))) (nomark _)) (pss_one (ps_ret pe_bl)) pss_nil))))))))
  (pss_cons (ps_set (i := 6) sc_law.nd rfl (Or.inl rfl) (pe_lst (pa_cons pe_str (pa_cons pe_str (pa_cons pe_str (pa_cons pe_str (pa_cons pe_str (pa_cons pe_str (pa_cons pe_str (pa_cons pe_str (pa_cons pe_str (pa_cons pe_str pa_nil))))))))))))
  (pss_cons (ps_set (i := 6) sc_law.nd rfl (Or.inl rfl) (pe_op uAdd (pv 6) (pe_lst (pa_cons (pe_op uAdd (pe_op uAdd (pe_op uMulU pe_str pe_int) pe_str) (pe_op uMulU pe_str pe_int)) (pa_cons pe_str (pa_cons pe_str pa_nil))))))
  (pss_cons (ps_set (i := 6) sc_law.nd rfl (Or.inl rfl) (pe_op uAdd (pv 6) (pe_lst (pa_cons pe_str (pa_cons pe_str (pa_cons pe_str (pa_cons pe_str (pa_cons (pe_op uAdd pe_str (pe_op uMulU pe_str pe_int)) (pa_cons (pe_op uMulU pe_str pe_int) pa_nil)))))))))
  (pss_cons (ps_set (i := 6) sc_law.nd rfl (Or.inl rfl) (pe_op uAdd (pv 6) (pe_lst (pa_cons (pe_op uAdd (pe_op uAdd (pe_op uMulU pe_str pe_int) pe_str) (pe_op uMulU pe_str pe_int)) (pa_cons (pe_op uMulU pe_str pe_int) pa_nil)))))
  (pss_cons (ps_for PassesOwn.never rfl (pi_listK K rfl (pe_op uAdd (pv 6) (pe_lst (pa_cons pe_non (pa_cons pe_int (pa_cons pe_bl (pa_cons (pe_tup (pa_cons pe_str pa_nil)) (pa_cons (pe_lst (pa_cons pe_str pa_nil)) (pa_cons pe_dnewK (pa_cons pe_int (pa_cons (pe_tup pa_nil) pa_nil))))))))))) (pg_name (i := 7) sc_law.nd rfl (Or.inl rfl))
  (pss_one (ps_if (pt_cmpR uNotN (pe_call G__law_told (hr.mono (by omega)) (by rfl) T._law_told.g T._law_told.F.kp T._law_told.b .nil pass0 (pa_cons (pv 7) pa_nil)) pe_non (nomark _)) (pss_one (ps_ret pe_bl)) pss_nil)))
  (pss_cons (ps_set (i := 8) sc_law.nd rfl (Or.inl rfl) (pe_tup (pa_cons pe_str (pa_cons (pe_tup (pa_cons pe_str (pa_cons pe_int pa_nil))) (pa_cons (pe_tup (pa_cons pe_str (pa_cons (pe_tup (pa_cons pe_str pa_nil)) (pa_cons (pe_tup (pa_cons pe_str pa_nil)) pa_nil)))) pa_nil)))))
  (pss_one (ps_ret (pe_cmpR (r := rEqU K) (uEq hu4) (pe_call G__law_told (hr.mono (by omega)) (by rfl) T._law_told.g T._law_told.F.kp T._law_told.b .nil pass0 (pa_cons pe_str pa_nil)) (pv 8) (nomark _))))))))))), ?_⟩
  walk_at "go"
  refine j_lenL hS ?_
  walk_at "go"
  refine ⟨_, _, rfl, ?_⟩
  walk_at "go"
  refine ⟨_, _, rfl, ?_⟩
  rw [List.length_map]
  have hb : ∀ n : Nat, ∃ j : Nat, j ≤ 20 ∧ (if (if (20 : Int) < (n : Int) then (20 : Int) else (n : Int)) > 1 then (if (20 : Int) < (n : Int) then (20 : Int) else (n : Int)) else 1) = ((j : Nat) : Int) := fun n => by
    by_cases h : (20 : Int) < (n : Int)
    · exact ⟨20, by omega, by rw [if_pos h]; rfl⟩
    · rw [if_neg h]
      by_cases h1 : (n : Int) > 1
      · exact ⟨n, by omega, by rw [if_pos h1]⟩
      · exact ⟨1, by omega, by rw [if_neg h1]; rfl⟩
  obtain ⟨j, hj, ej⟩ := hb ns.length
  rw [ej]
  walk_at "go"
  refine ⟨_, rfl, by omega, by omega, ?_⟩
  refine for_range (lo := 0) (n := ((j : Nat) : Int).toNat) (fun i σ H' => ∃ y1 y2 y3 y4 y5, σ = [some (.ref a), y1, y2, y3, y4, y5, none, none, none] ∧ Same H H') ⟨none, none, none, none, none, rfl, Same.refl _⟩ ?_ ?_
  · rintro i σ H0 hi ⟨y1, y2, y3, y4, y5, rfl, s0⟩
    have hi : i < 20 := by omega
    walk_at "go"
    refine ⟨a, ns, 0 + (i : Int), rfl, s0.seq hS, by omega, by omega, fun l H1 nl s1 hp1 => ?_⟩
    walk_at "go"
    refine ⟨l, rfl, hp1, fun v2 H2 x hp2 s2 zx ox => ?_⟩
    walk_at "go"
    refine ⟨v2, x, rfl, zx.dt, ox, Nat.le_refl 3, ?_⟩
    walk_at "go"
    have lx : (mk x.txt).length ≤ 142 := by
      have := (txt_len 3 x ox).2
      rw [mk_lenS]; omega
    have asx : Asc (mk x.txt) := txt_asc 3 x ox
    refine ⟨mk x.txt, l, rfl, hp2, by omega, asx, fun z H3 lz az hp3 s3 => ?_⟩
    obtain ⟨xs2, l2⟩ := hp2.lst
    have zx3 := ts_sz (ts_mut l2 s3) zx
    clear zx
    have sA : Same H (hide l H3) := (same_to_hide (s0.free nl) (s0.trans s1)).trans (s2.trans s3)
    have sB : Same H H3 := sA.trans (same_hide _ _)
    clear sA s2 s3 s1
    walk_at "go"
    refine .inl ⟨z, rfl, by omega, fun v4 H4 s4 r4 => ?_⟩
    walk_at "go"
    refine ⟨z, rfl, by omega, az, fun v5 H5 s5 r5 => ?_⟩
    refine told_ne s5 r4 r5 ?_
    walk_at "go"
    refine .inl ⟨mk x.txt, rfl, by omega, fun v6 H6 s6 r6 => ?_⟩
    rw [tl_mk', read_txt 3 x ox] at r6
    have r6 : Dt K H6 v6 x.toD := r6
    have s36 := s4.trans (s5.trans s6)
    have zx6 := ts_sz (ts_same s36) zx3
    have sh := sd_shaped ox (Nat.le_refl 3)
    walk_at "go"
    refine j_neD r6.dp zx6.dt.dp sh sh ?_
    rw [(sd_eqv x x).mpr rfl]
    walk_at "go"
    refine j_addS (line_big (by omega)) ?_
    have lxz : (mk x.txt ++ z).length ≤ 1000 := by rw [app_len]; omega
    refine .inl ⟨mk x.txt ++ z, rfl, by omega, fun v7 H7 s7 r7 => ?_⟩
    walk_at "go"
    refine j_addS (line_big (by omega)) ?_
    walk_at "go"
    refine ⟨mk x.txt ++ z, rfl, by omega, asc_app asx az, fun v8 H8 s8 r8 => ?_⟩
    refine told_ne s8 r7 r8 ?_
    walk_at "go"
    exact ⟨_, _, _, _, _, rfl, sB.trans (s36.trans (s7.trans s8))⟩
  · rintro σ H1 ⟨y1, y2, y3, y4, y5, rfl, s1⟩
    clear hb
    walk_at "go"
    refine j_al fun p1 G1 n1 t1 e1 => ?_
    walk_at "go"
    refine j_mulS (by decide) (by decide) (by decide +kernel) fun za ea => ?_
    walk_at "go"
    have la : za.length = 20 := by rw [rep_len ea]; decide +kernel
    refine j_addS (line_big (by rw [la]; decide +kernel)) ?_
    walk_at "go"
    refine j_mulS (by decide) (by decide) (by decide +kernel) fun zb eb => ?_
    have lb : zb.length = 28 := by rw [rep_len eb]; decide +kernel
    have lt : ("tree" : Str).length = 4 := by decide +kernel
    refine j_addS (line_big (by rw [app_len, la, lb, lt]; decide)) ?_
    walk_at "go"
    refine j_al fun p2 G2 n2 t2 e2 => ?_
    refine j_addL (t2 _ _ e1) e2 (line_big (Nat.le_of_ble_eq_true rfl)) ?_
    refine j_al fun p3 G3 n3 t3 e3 => ?_
    walk_at "go"
    refine j_mulS (by decide) (by decide) (by decide +kernel) fun zc ec => ?_
    have lc : zc.length = 4400 := by rw [rep_len ec]; decide +kernel
    have lm : ("many " : Str).length = 5 := by decide +kernel
    refine j_addS (line_big (by rw [lc, lm]; decide)) ?_
    walk_at "go"
    refine j_mulS (by decide) (by decide) (by decide +kernel) fun zd ed => ?_
    have ld : zd.length = 9000 := by rw [rep_len ed]; decide +kernel
    walk_at "go"
    refine j_al fun p4 G4 n4 t4 e4 => ?_
    refine j_addL (t4 _ _ e3) e4 (line_big (Nat.le_of_ble_eq_true rfl)) ?_
    refine j_al fun p5 G5 n5 t5 e5 => ?_
    walk_at "go"
    refine j_mulS (by decide) (by decide) (by decide +kernel) fun ze ee => ?_
    have le : ze.length = 4000 := by rw [rep_len ee]; decide +kernel
    walk_at "go"
    refine j_addS (line_big (by rw [le, lt]; decide)) ?_
    walk_at "go"
    refine j_mulS (by decide) (by decide) (by decide +kernel) fun zf ef => ?_
    have lf : zf.length = 5600 := by rw [rep_len ef]; decide +kernel
    refine j_addS (line_big (by rw [app_len, le, lt, lf]; decide)) ?_
    walk_at "go"
    refine j_mulS (by decide) (by decide) (by decide +kernel) fun zg eg => ?_
    have lg : zg.length = 9500 := by rw [rep_len eg]; decide +kernel
    walk_at "go"
    refine j_al fun p6 G6 n6 t6 e6 => ?_
    refine j_addL (t6 _ _ e5) e6 (line_big (Nat.le_of_ble_eq_true rfl)) ?_
    refine j_al fun p7 G7 n7 t7 e7 => ?_
    walk_at "go"
    refine j_al fun p8 G8 n8 t8 e8 => ?_
    walk_at "go"
    refine j_al fun p9 G9 n9 t9 e9 => ?_
    walk_at "go"
    refine j_dnew ?_
    refine j_al fun pa Ga na ta ea' => ?_
    walk_at "go"
    refine j_al fun pb Gb nb tb eb' => ?_
    walk_at "go"
    refine j_al fun pc Gc nc tc ec' => ?_
    refine j_addL (tc _ _ (tb _ _ (ta _ _ (t9 _ _ (t8 _ _ e7))))) ec' (line_big (Nat.le_of_ble_eq_true rfl)) ?_
    refine j_al fun pd Gd nd td ed' => ?_
    have f1 : ∀ w ∈ (["", " ", "many", "many ", "many 0", "many 4096", "many 05", "many  5", "both(tree)", "both(tree,near)", "both(tree, near, odd)", "(tree, near)", "both (tree, near)", "Tree", "tree\n", "many -1"] : List Str), w.length ≤ 100000 ∧ (readL 3 (TL.tl w)).isNone = true := by decide +kernel
    have f2 : (readL 3 (TL.tl (za ++ ("tree" : Str) ++ zb))).isNone = true := by
      rw [TL.tl_append, TL.tl_append, ea, eb]
      decide +kernel
    have o1 : ∀ w ∈ (["", " ", "many", "many ", "many 0", "many 4096", "many 05", "many  5", "both(tree)", "both(tree,near)", "both(tree, near, odd)", "(tree, near)", "both (tree, near)", "Tree", "tree\n", "many -1"] : List Str), Odd Gd (.str w) := fun w hw => .str (f1 w hw).1 (Option.isNone_iff_eq_none.mp (f1 w hw).2)
    have o2 : Odd Gd (.str (za ++ ("tree" : Str) ++ zb)) := .str (by rw [app_len, app_len, la, lb, lt]; decide) (Option.isNone_iff_eq_none.mp f2)
    have o3 : Odd Gd (.str (("many " : Str) ++ zc)) := odd_long (by rw [app_len, lc, lm]; decide) (by rw [app_len, lc, lm]; decide)
    have o4 : Odd Gd (.str zd) := odd_long (by rw [ld]; decide) (by rw [ld]; decide)
    have o5 : Odd Gd (.str (ze ++ ("tree" : Str) ++ zf)) := odd_long (by rw [app_len, app_len, le, lt, lf]; decide) (by rw [app_len, app_len, le, lt, lf]; decide)
    have o6 : Odd Gd (.str zg) := odd_long (by rw [lg]; decide) (by rw [lg]; decide)
    have h8 : Gd p8 = some (.tup [.str "tree"]) := td _ _ (tc _ _ (tb _ _ (ta _ _ (t9 _ _ e8))))
    have h9 : Gd p9 = some (.lst [.str "tree"]) := td _ _ (tc _ _ (tb _ _ (ta _ _ e9)))
    have ha : Gd pa = some (.dK []) := td _ _ (tc _ _ (tb _ _ ea'))
    have hb' : Gd pb = some (.tup []) := td _ _ (tc _ _ eb')
    walk_at "go"
    refine ⟨⟨_, .of ed'⟩, ?_⟩
    have odds : ∀ v ∈ ((([V.str "", .str " ", .str "many", .str "many ", .str "many 0", .str "many 4096", .str "many 05", .str "many  5", .str "both(tree)", .str "both(tree,near)"] ++ [V.str (za ++ ("tree" : Str) ++ zb), .str "both(tree, near, odd)", .str "(tree, near)"]) ++
        [V.str "both (tree, near)", .str "Tree", .str "tree\n", .str "many -1", .str (("many " : Str) ++ zc), .str zd]) ++ [V.str (ze ++ ("tree" : Str) ++ zf), .str zg]) ++ [V.non, .int 5, .bl true, .ref p8, .ref p9, .ref pa, .int 0, .ref pb], Odd Gd v := by
      intro v hv
      simp only [List.mem_append, List.mem_cons, List.not_mem_nil, or_false] at hv
      rcases hv with (((((rfl | rfl | rfl | rfl | rfl | rfl | rfl | rfl | rfl | rfl) | (rfl | rfl | rfl)) | (rfl | rfl | rfl | rfl | rfl | rfl)) | (rfl | rfl)) | (rfl | rfl | rfl | rfl | rfl | rfl | rfl | rfl))
      all_goals first
        | exact o2
        | exact o3
        | exact o4
        | exact o5
        | exact o6
        | exact .non
        | exact .int _
        | exact .bl _
        | exact .tup h8
        | exact .lst h9
        | exact .dK ha
        | exact .tup hb'
        | (refine o1 _ ?_; simp only [List.mem_cons]; first | exact .inl rfl | simp)
    refine for_list (K := K) (xs := ((([V.str "", .str " ", .str "many", .str "many ", .str "many 0", .str "many 4096", .str "many 05", .str "many  5", .str "both(tree)", .str "both(tree,near)"] ++ [V.str (za ++ ("tree" : Str) ++ zb), .str "both(tree, near, odd)", .str "(tree, near)"]) ++
        [V.str "both (tree, near)", .str "Tree", .str "tree\n", .str "many -1", .str (("many " : Str) ++ zc), .str zd]) ++ [V.str (ze ++ ("tree" : Str) ++ zf), .str zg]) ++ [V.non, .int 5, .bl true, .ref p8, .ref p9, .ref pa, .int 0, .ref pb])
      (fun i σ H' => ∃ y, σ = [some (.ref a), y1, y2, y3, y4, y5, some (.ref p7), y, none] ∧ Same Gd H') ⟨none, rfl, Same.refl _⟩ ?_ ?_ ?_
    · rintro i σ H' _ ⟨_, _, s3⟩
      exact .of (s3 _ _ ed')
    · rintro i v σ H' hv ⟨y, rfl, s3⟩
      have ov := (odds v (List.mem_of_getElem? hv)).same s3
      walk_at "go"
      refine ov.told fun H2 s4 => ?_
      walk_at "go"
      exact ⟨_, rfl, s3.trans s4⟩
    · rintro σ H2 ⟨y, rfl, s3⟩
      walk_at "go"
      refine j_al fun q1 K1 m1 u1 f1 => ?_
      walk_at "go"
      refine j_al fun q2 K2 m2 u2 f2 => ?_
      walk_at "go"
      refine j_al fun q3 K3 m3 u3 f3 => ?_
      walk_at "go"
      refine j_al fun q4 K4 m4 u4 f4 => ?_
      walk_at "go"
      refine j_al fun q5 K5 m5 u5 f5 => ?_
      walk_at "go"
      have d4 : Dt K K5 (.ref q4) (Say.jn "both" (.pl "odd") (.pl "ball")).toD := Say.three (u5 _ _ f4) (Say.one (u5 _ _ (u4 _ _ (u3 _ _ f2)))) (Say.one (u5 _ _ (u4 _ _ f3)))
      have d1 : Dt K K5 (.ref q1) (Say.many 4095).toD := Say.two (u5 _ _ (u4 _ _ (u3 _ _ (u2 _ _ f1))))
      have d5 : Dt K K5 (.ref q5) dueS.toD := Say.three f5 d1 d4
      have okd : dueS.Ok 3 := by
        refine ⟨by decide +kernel, ⟨by decide, by decide⟩, by decide +kernel, ?_, ?_⟩
        · show ("odd" : Str) ∈ plainL
          decide +kernel
        · show ("ball" : Str) ∈ plainL
          decide +kernel
      have et : TL.tl ("either(many 4095, both(odd, ball))" : Str) = dueS.txt := by decide +kernel
      refine .inl ⟨_, rfl, by decide +kernel, fun v K6 s6 r => ?_⟩
      rw [et, read_txt 3 _ okd] at r
      have r : Dt K K6 v dueS.toD := r
      have sh := sd_shaped okd (Nat.le_refl 3)
      walk_at "go"
      refine j_eqD r.dp (ts_dt (ts_same s6) d5).dp sh sh ?_
      rw [(sd_eqv dueS dueS).mpr rfl]
      exact q K6
end

theorem all_mk {l : PySem.W.OpenLaw} {w : World} {K : PySem.W.Frag} {h : Heap} {mg : Str → Option Value} {fa : Addr} (X : K.In h) (G : h.Ns mainGlobals mg) (hfa : mg "law" = some (.ref fa))
    {f1 : Addr} {od1 an1 : Option Addr} {sl1 : Array (Option Value)} {oc1 kV1 dc1 pm1 cd1 ct1 : Value}
    {f2 : Addr} {od2 an2 : Option Addr} {sl2 : Array (Option Value)} {oc2 kV2 dc2 pm2 cd2 ct2 : Value}
    {f3 : Addr} {od3 an3 : Option Addr} {sl3 : Array (Option Value)} {oc3 kV3 dc3 pm3 cd3 ct3 : Value}
    {f4 : Addr} {od4 an4 : Option Addr} {sl4 : Array (Option Value)} {oc4 kV4 dc4 pm4 cd4 ct4 : Value}
    {f5 : Addr} {od5 an5 : Option Addr} {sl5 : Array (Option Value)} {oc5 kV5 dc5 pm5 cd5 ct5 : Value}
    {f6 : Addr} {od6 an6 : Option Addr} {sl6 : Array (Option Value)} {oc6 kV6 dc6 pm6 cd6 ct6 : Value}
    {f7 : Addr} {od7 an7 : Option Addr} {sl7 : Array (Option Value)} {oc7 kV7 dc7 pm7 cd7 ct7 : Value}
    {f8 : Addr} {od8 an8 : Option Addr} {sl8 : Array (Option Value)} {oc8 kV8 dc8 pm8 cd8 ct8 : Value}
    {f9 : Addr} {od9 an9 : Option Addr} {sl9 : Array (Option Value)} {oc9 kV9 dc9 pm9 cd9 ct9 : Value}
    {f10 : Addr} {od10 an10 : Option Addr} {sl10 : Array (Option Value)} {oc10 kV10 dc10 pm10 cd10 ct10 : Value}
    {f11 : Addr} {od11 an11 : Option Addr} {sl11 : Array (Option Value)} {oc11 kV11 dc11 pm11 cd11 ct11 : Value}
    {f12 : Addr} {od12 an12 : Option Addr} {sl12 : Array (Option Value)} {oc12 kV12 dc12 pm12 cd12 ct12 : Value}
    {f13 : Addr} {od13 an13 : Option Addr} {sl13 : Array (Option Value)} {oc13 kV13 dc13 pm13 cd13 ct13 : Value}
    {f14 : Addr} {od14 an14 : Option Addr} {sl14 : Array (Option Value)} {oc14 kV14 dc14 pm14 cd14 ct14 : Value}
    {f15 : Addr} {od15 an15 : Option Addr} {sl15 : Array (Option Value)} {oc15 kV15 dc15 pm15 cd15 ct15 : Value}
    {f16 : Addr} {od16 an16 : Option Addr} {sl16 : Array (Option Value)} {oc16 kV16 dc16 pm16 cd16 ct16 : Value}
    {f17 : Addr} {od17 an17 : Option Addr} {sl17 : Array (Option Value)} {oc17 kV17 dc17 pm17 cd17 ct17 : Value}
    {ta1 : Addr} {td1 : Option Addr} {tn1 : Nat} {ts1 : Array (Option Value)} {tk1_0 tk1_1 tk1_2 tk1_3 tk1_4 tk1_5 tk1_6 tk1_7 tk1_8 : Tok}
    {ta2 : Addr} {td2 : Option Addr} {tn2 : Nat} {ts2 : Array (Option Value)} {tk2_0 tk2_1 : Tok}
    {tk3 : Tok}
    {tk4 : Tok}
    {tk5 : Tok}
    {tk6 : Tok}
    {x1 : Addr}
    {x2 : Addr}
    {x3 : Addr}
    {x4 : Addr}
    {x5 : Addr}
    (a1 : PySem.W.nsIn K mainGlobals "show_saying" = some (some (.ref f1)))
    (l1 : K.lookup f1 = some ⟨oc1, od1, .func (PySem.W.fnOf "show_saying" "show_saying" (defArgs s_show_saying) (defBody s_show_saying) (defScope s_show_saying) .none kV1 dc1 pm1 an1 cd1 ct1), sl1⟩)
    (c1 : PySem.W.codeIn K cd1 "show_saying" = true) (k1 : PySem.W.keepIn K (.ref f1) = true)
    (a2 : PySem.W.nsIn K mainGlobals "split_place" = some (some (.ref f2)))
    (l2 : K.lookup f2 = some ⟨oc2, od2, .func (PySem.W.fnOf "split_place" "split_place" (defArgs s_split_place) (defBody s_split_place) (defScope s_split_place) .none kV2 dc2 pm2 an2 cd2 ct2), sl2⟩)
    (c2 : PySem.W.codeIn K cd2 "split_place" = true) (k2 : PySem.W.keepIn K (.ref f2) = true)
    (a3 : PySem.W.nsIn K mainGlobals "many_in" = some (some (.ref f3)))
    (l3 : K.lookup f3 = some ⟨oc3, od3, .func (PySem.W.fnOf "many_in" "many_in" (defArgs s_many_in) (defBody s_many_in) (defScope s_many_in) .none kV3 dc3 pm3 an3 cd3 ct3), sl3⟩)
    (c3 : PySem.W.codeIn K cd3 "many_in" = true) (k3 : PySem.W.keepIn K (.ref f3) = true)
    (a4 : PySem.W.nsIn K mainGlobals "joined_in" = some (some (.ref f4)))
    (l4 : K.lookup f4 = some ⟨oc4, od4, .func (PySem.W.fnOf "joined_in" "joined_in" (defArgs s_joined_in) (defBody s_joined_in) (defScope s_joined_in) .none kV4 dc4 pm4 an4 cd4 ct4), sl4⟩)
    (c4 : PySem.W.codeIn K cd4 "joined_in" = true) (k4 : PySem.W.keepIn K (.ref f4) = true)
    (a5 : PySem.W.nsIn K mainGlobals "saying_in" = some (some (.ref f5)))
    (l5 : K.lookup f5 = some ⟨oc5, od5, .func (PySem.W.fnOf "saying_in" "saying_in" (defArgs s_saying_in) (defBody s_saying_in) (defScope s_saying_in) .none kV5 dc5 pm5 an5 cd5 ct5), sl5⟩)
    (c5 : PySem.W.codeIn K cd5 "saying_in" = true) (k5 : PySem.W.keepIn K (.ref f5) = true)
    (a6 : PySem.W.nsIn K mainGlobals "read_saying" = some (some (.ref f6)))
    (l6 : K.lookup f6 = some ⟨oc6, od6, .func (PySem.W.fnOf "read_saying" "read_saying" (defArgs s_read_saying) (defBody s_read_saying) (defScope s_read_saying) .none kV6 dc6 pm6 an6 cd6 ct6), sl6⟩)
    (c6 : PySem.W.codeIn K cd6 "read_saying" = true) (k6 : PySem.W.keepIn K (.ref f6) = true)
    (a7 : PySem.W.nsIn K mainGlobals "_law_cell_at" = some (some (.ref f7)))
    (l7 : K.lookup f7 = some ⟨oc7, od7, .func (PySem.W.fnOf "_law_cell_at" "_law_cell_at" (defArgs s__law_cell_at) (defBody s__law_cell_at) (defScope s__law_cell_at) .none kV7 dc7 pm7 an7 cd7 ct7), sl7⟩)
    (c7 : PySem.W.codeIn K cd7 "_law_cell_at" = true) (k7 : PySem.W.keepIn K (.ref f7) = true)
    (a8 : PySem.W.nsIn K mainGlobals "_law_pool" = some (some (.ref f8)))
    (l8 : K.lookup f8 = some ⟨oc8, od8, .func (PySem.W.fnOf "_law_pool" "_law_pool" (defArgs s__law_pool) (defBody s__law_pool) (defScope s__law_pool) .none kV8 dc8 pm8 an8 cd8 ct8), sl8⟩)
    (c8 : PySem.W.codeIn K cd8 "_law_pool" = true) (k8 : PySem.W.keepIn K (.ref f8) = true)
    (a9 : PySem.W.nsIn K mainGlobals "_law_take" = some (some (.ref f9)))
    (l9 : K.lookup f9 = some ⟨oc9, od9, .func (PySem.W.fnOf "_law_take" "_law_take" (defArgs s__law_take) (defBody s__law_take) (defScope s__law_take) .none kV9 dc9 pm9 an9 cd9 ct9), sl9⟩)
    (c9 : PySem.W.codeIn K cd9 "_law_take" = true) (k9 : PySem.W.keepIn K (.ref f9) = true)
    (a10 : PySem.W.nsIn K mainGlobals "_law_plain" = some (some (.ref f10)))
    (l10 : K.lookup f10 = some ⟨oc10, od10, .func (PySem.W.fnOf "_law_plain" "_law_plain" (defArgs s__law_plain) (defBody s__law_plain) (defScope s__law_plain) .none kV10 dc10 pm10 an10 cd10 ct10), sl10⟩)
    (c10 : PySem.W.codeIn K cd10 "_law_plain" = true) (k10 : PySem.W.keepIn K (.ref f10) = true)
    (a11 : PySem.W.nsIn K mainGlobals "_law_saying" = some (some (.ref f11)))
    (l11 : K.lookup f11 = some ⟨oc11, od11, .func (PySem.W.fnOf "_law_saying" "_law_saying" (defArgs s__law_saying) (defBody s__law_saying) (defScope s__law_saying) .none kV11 dc11 pm11 an11 cd11 ct11), sl11⟩)
    (c11 : PySem.W.codeIn K cd11 "_law_saying" = true) (k11 : PySem.W.keepIn K (.ref f11) = true)
    (a12 : PySem.W.nsIn K mainGlobals "_law_sign" = some (some (.ref f12)))
    (l12 : K.lookup f12 = some ⟨oc12, od12, .func (PySem.W.fnOf "_law_sign" "_law_sign" (defArgs s__law_sign) (defBody s__law_sign) (defScope s__law_sign) .none kV12 dc12 pm12 an12 cd12 ct12), sl12⟩)
    (c12 : PySem.W.codeIn K cd12 "_law_sign" = true) (k12 : PySem.W.keepIn K (.ref f12) = true)
    (a13 : PySem.W.nsIn K mainGlobals "_law_other" = some (some (.ref f13)))
    (l13 : K.lookup f13 = some ⟨oc13, od13, .func (PySem.W.fnOf "_law_other" "_law_other" (defArgs s__law_other) (defBody s__law_other) (defScope s__law_other) .none kV13 dc13 pm13 an13 cd13 ct13), sl13⟩)
    (c13 : PySem.W.codeIn K cd13 "_law_other" = true) (k13 : PySem.W.keepIn K (.ref f13) = true)
    (a14 : PySem.W.nsIn K mainGlobals "_law_number" = some (some (.ref f14)))
    (l14 : K.lookup f14 = some ⟨oc14, od14, .func (PySem.W.fnOf "_law_number" "_law_number" (defArgs s__law_number) (defBody s__law_number) (defScope s__law_number) .none kV14 dc14 pm14 an14 cd14 ct14), sl14⟩)
    (c14 : PySem.W.codeIn K cd14 "_law_number" = true) (k14 : PySem.W.keepIn K (.ref f14) = true)
    (a15 : PySem.W.nsIn K mainGlobals "_law_read" = some (some (.ref f15)))
    (l15 : K.lookup f15 = some ⟨oc15, od15, .func (PySem.W.fnOf "_law_read" "_law_read" (defArgs s__law_read) (defBody s__law_read) (defScope s__law_read) .none kV15 dc15 pm15 an15 cd15 ct15), sl15⟩)
    (c15 : PySem.W.codeIn K cd15 "_law_read" = true) (k15 : PySem.W.keepIn K (.ref f15) = true)
    (a16 : PySem.W.nsIn K mainGlobals "_law_told" = some (some (.ref f16)))
    (l16 : K.lookup f16 = some ⟨oc16, od16, .func (PySem.W.fnOf "_law_told" "_law_told" (defArgs s__law_told) (defBody s__law_told) (defScope s__law_told) .none kV16 dc16 pm16 an16 cd16 ct16), sl16⟩)
    (c16 : PySem.W.codeIn K cd16 "_law_told" = true) (k16 : PySem.W.keepIn K (.ref f16) = true)
    (a17 : PySem.W.nsIn K mainGlobals "law" = some (some (.ref f17)))
    (l17 : K.lookup f17 = some ⟨oc17, od17, .func (PySem.W.fnOf "law" "law" (defArgs s_law) (defBody s_law) (defScope s_law) .none kV17 dc17 pm17 an17 cd17 ct17), sl17⟩)
    (c17 : PySem.W.codeIn K cd17 "law" = true) (k17 : PySem.W.keepIn K (.ref f17) = true)
    (q1 : PySem.W.nsIn K mainGlobals "PLAIN" = some (some (.ref ta1)))
    (r1 : K.lookup ta1 = some ⟨.type "tuple", td1, .seq #[.str "tree" tk1_0, .str "near" tk1_1, .str "bare" tk1_2, .str "sides" tk1_3, .str "odd" tk1_4, .str "pairing" tk1_5, .str "cheapest" tk1_6, .str "round" tk1_7, .str "ball" tk1_8] tn1, ts1⟩)
    (q2 : PySem.W.nsIn K mainGlobals "JOINED" = some (some (.ref ta2)))
    (r2 : K.lookup ta2 = some ⟨.type "tuple", td2, .seq #[.str "both" tk2_0, .str "either" tk2_1] tn2, ts2⟩)
    (q3 : PySem.W.nsIn K mainGlobals "DEEPEST" = some (some (.int 3 tk3)))
    (q4 : PySem.W.nsIn K mainGlobals "MOST_MANY" = some (some (.int 4095 tk4)))
    (q5 : PySem.W.nsIn K mainGlobals "FIGURES" = some (some (.str "0123456789" tk5)))
    (q6 : PySem.W.nsIn K mainGlobals "LONGEST_NUMBER" = some (some (.int 4 tk6)))
    (z1 : PySem.W.nsIn K mainGlobals "ValueError" = some none)
    (z2 : PySem.W.nsIn K mainGlobals "enumerate" = some none)
    (z3 : PySem.W.nsIn K mainGlobals "int" = some none)
    (z4 : PySem.W.nsIn K mainGlobals "isinstance" = some none)
    (z5 : PySem.W.nsIn K mainGlobals "len" = some none)
    (z6 : PySem.W.nsIn K mainGlobals "max" = some none)
    (z7 : PySem.W.nsIn K mainGlobals "min" = some none)
    (z8 : PySem.W.nsIn K mainGlobals "range" = some none)
    (z9 : PySem.W.nsIn K mainGlobals "str" = some none)
    (xa1 : PySem.W.nsIn K mainGlobals "BesideError" = some (some (.ref x1)))
    (xb1 : PySem.W.subIn K (.ref x1) (.type "BaseException") = some true)
    (xt1 : PySem.W.typeIn K (.ref x1) = some (.type "type"))
    (xi1 : PySem.W.isClsIn K x1 = true)
    (xa2 : PySem.W.nsIn K mainGlobals "NoWeb" = some (some (.ref x2)))
    (xb2 : PySem.W.subIn K (.ref x2) (.type "BaseException") = some true)
    (xt2 : PySem.W.typeIn K (.ref x2) = some (.type "type"))
    (xi2 : PySem.W.isClsIn K x2 = true)
    (xa3 : PySem.W.nsIn K mainGlobals "NoSaying" = some (some (.ref x3)))
    (xb3 : PySem.W.subIn K (.ref x3) (.type "BaseException") = some true)
    (xt3 : PySem.W.typeIn K (.ref x3) = some (.type "type"))
    (xi3 : PySem.W.isClsIn K x3 = true)
    (xa4 : PySem.W.nsIn K mainGlobals "NoText" = some (some (.ref x4)))
    (xb4 : PySem.W.subIn K (.ref x4) (.type "BaseException") = some true)
    (xt4 : PySem.W.typeIn K (.ref x4) = some (.type "type"))
    (xi4 : PySem.W.isClsIn K x4 = true)
    (xx4 : PySem.W.excIn K x4 [.type "ValueError", .type "Exception", .type "BaseException", .type "object"] "ValueError.__new__" = true)
    (xk4 : PySem.W.keepIn K (.ref x4) = true)
    (xv4 : PySem.W.subIn K (.ref x4) (.type "ValueError") = some true)
    (xg4 : PySem.W.findIn K (.ref x4) "__getattribute__" = some (some (.builtin "BaseException.__getattribute__")))
    (xh4 : PySem.W.findIn K (.ref x4) "__getattr__" = some none)
    (xd4 : PySem.W.hasDictIn K x4 = true)
    (xc4 : PySem.W.findIn K (.ref x4) "__class__" = some (some (.builtin "object.__class__")))
    (xn4 : PySem.W.specialIn K (.builtin "object.__class__") "__get__" = some (some (.builtin "getset_descriptor.__get__")))
    (xy4 : PySem.W.takesIn K (.builtin "object.__class__") = some true)
    (xm4 : PySem.W.mroIn K x4 (.type "object") = some true)
    (xa5 : PySem.W.nsIn K mainGlobals "NoMarks" = some (some (.ref x5)))
    (xb5 : PySem.W.subIn K (.ref x5) (.type "BaseException") = some true)
    (xt5 : PySem.W.typeIn K (.ref x5) = some (.type "type"))
    (xi5 : PySem.W.isClsIn K x5 = true)
    (xs4_1 : PySem.W.subIn K (.ref x4) (.ref x1) = some true)
    (xs4_2 : PySem.W.subIn K (.ref x4) (.ref x2) = some false)
    (xs4_3 : PySem.W.subIn K (.ref x4) (.ref x3) = some false)
    (xs4_4 : PySem.W.subIn K (.ref x4) (.ref x4) = some true)
    (xs4_5 : PySem.W.subIn K (.ref x4) (.ref x5) = some false) :
    ∃ fd : FuncData, (∀ (s : Shared) (v : Value), BindsTo s fd ⟨[v], []⟩ [("_law_script", v)]) ∧ ∀ base : Heap, K.In base → base.Ns mainGlobals mg → FnOk l.prog w K mg base CX0 20 fa fd ["_law_script"] (spLaw K) := by
  have e := hfa.symm.trans (PySem.W.mg_of X G a17)
  cases e
  let T : Txt K mg := {
    show_saying := ⟨f1, _, fun_mk (st := s_show_saying) l1 c1 k1, PySem.W.mg_of X G a1, (fun_mk (st := s_show_saying) l1 c1 k1).binds (ps := ps_show_saying) fun _ _ _ _ _ _ us hl => match us, hl with | [_], _ => rfl⟩
    split_place := ⟨f2, _, fun_mk (st := s_split_place) l2 c2 k2, PySem.W.mg_of X G a2, (fun_mk (st := s_split_place) l2 c2 k2).binds (ps := ps_split_place) fun _ _ _ _ _ _ us hl => match us, hl with | [_], _ => rfl⟩
    many_in := ⟨f3, _, fun_mk (st := s_many_in) l3 c3 k3, PySem.W.mg_of X G a3, (fun_mk (st := s_many_in) l3 c3 k3).binds (ps := ps_many_in) fun _ _ _ _ _ _ us hl => match us, hl with | [_], _ => rfl⟩
    joined_in := ⟨f4, _, fun_mk (st := s_joined_in) l4 c4 k4, PySem.W.mg_of X G a4, (fun_mk (st := s_joined_in) l4 c4 k4).binds (ps := ps_joined_in) fun _ _ _ _ _ _ us hl => match us, hl with | [_, _], _ => rfl⟩
    saying_in := ⟨f5, _, fun_mk (st := s_saying_in) l5 c5 k5, PySem.W.mg_of X G a5, (fun_mk (st := s_saying_in) l5 c5 k5).binds (ps := ps_saying_in) fun _ _ _ _ _ _ us hl => match us, hl with | [_, _], _ => rfl⟩
    read_saying := ⟨f6, _, fun_mk (st := s_read_saying) l6 c6 k6, PySem.W.mg_of X G a6, (fun_mk (st := s_read_saying) l6 c6 k6).binds (ps := ps_read_saying) fun _ _ _ _ _ _ us hl => match us, hl with | [_], _ => rfl⟩
    _law_cell_at := ⟨f7, _, fun_mk (st := s__law_cell_at) l7 c7 k7, PySem.W.mg_of X G a7, (fun_mk (st := s__law_cell_at) l7 c7 k7).binds (ps := ps__law_cell_at) fun _ _ _ _ _ _ us hl => match us, hl with | [_, _], _ => rfl⟩
    _law_pool := ⟨f8, _, fun_mk (st := s__law_pool) l8 c8 k8, PySem.W.mg_of X G a8, (fun_mk (st := s__law_pool) l8 c8 k8).binds (ps := ps__law_pool) fun _ _ _ _ _ _ us hl => match us, hl with | [_, _], _ => rfl⟩
    _law_take := ⟨f9, _, fun_mk (st := s__law_take) l9 c9 k9, PySem.W.mg_of X G a9, (fun_mk (st := s__law_take) l9 c9 k9).binds (ps := ps__law_take) fun _ _ _ _ _ _ us hl => match us, hl with | [_, _], _ => rfl⟩
    _law_plain := ⟨f10, _, fun_mk (st := s__law_plain) l10 c10 k10, PySem.W.mg_of X G a10, (fun_mk (st := s__law_plain) l10 c10 k10).binds (ps := ps__law_plain) fun _ _ _ _ _ _ us hl => match us, hl with | [_], _ => rfl⟩
    _law_saying := ⟨f11, _, fun_mk (st := s__law_saying) l11 c11 k11, PySem.W.mg_of X G a11, (fun_mk (st := s__law_saying) l11 c11 k11).binds (ps := ps__law_saying) fun _ _ _ _ _ _ us hl => match us, hl with | [_, _], _ => rfl⟩
    _law_sign := ⟨f12, _, fun_mk (st := s__law_sign) l12 c12 k12, PySem.W.mg_of X G a12, (fun_mk (st := s__law_sign) l12 c12 k12).binds (ps := ps__law_sign) fun _ _ _ _ _ _ us hl => match us, hl with | [_], _ => rfl⟩
    _law_other := ⟨f13, _, fun_mk (st := s__law_other) l13 c13 k13, PySem.W.mg_of X G a13, (fun_mk (st := s__law_other) l13 c13 k13).binds (ps := ps__law_other) fun _ _ _ _ _ _ us hl => match us, hl with | [_, _], _ => rfl⟩
    _law_number := ⟨f14, _, fun_mk (st := s__law_number) l14 c14 k14, PySem.W.mg_of X G a14, (fun_mk (st := s__law_number) l14 c14 k14).binds (ps := ps__law_number) fun _ _ _ _ _ _ us hl => match us, hl with | [_], _ => rfl⟩
    _law_read := ⟨f15, _, fun_mk (st := s__law_read) l15 c15 k15, PySem.W.mg_of X G a15, (fun_mk (st := s__law_read) l15 c15 k15).binds (ps := ps__law_read) fun _ _ _ _ _ _ us hl => match us, hl with | [_, _], _ => rfl⟩
    _law_told := ⟨f16, _, fun_mk (st := s__law_told) l16 c16 k16, PySem.W.mg_of X G a16, (fun_mk (st := s__law_told) l16 c16 k16).binds (ps := ps__law_told) fun _ _ _ _ _ _ us hl => match us, hl with | [_], _ => rfl⟩
    law := ⟨fa, _, fun_mk (st := s_law) l17 c17 k17, PySem.W.mg_of X G a17, (fun_mk (st := s_law) l17 c17 k17).binds (ps := ps_law) fun _ _ _ _ _ _ us hl => match us, hl with | [_], _ => rfl⟩
    g_PLAIN := ⟨ta1, _, PySem.W.mg_of X G q1, rfl, fun _ => .inr ⟨_, _, _, r1, rfl, rfl, by show 9 ≤ sizeLine; decide, (.cons ⟨_, rfl⟩ (.cons ⟨_, rfl⟩ (.cons ⟨_, rfl⟩ (.cons ⟨_, rfl⟩ (.cons ⟨_, rfl⟩ (.cons ⟨_, rfl⟩ (.cons ⟨_, rfl⟩ (.cons ⟨_, rfl⟩ (.cons ⟨_, rfl⟩ .nil)))))))))⟩⟩
    g_JOINED := ⟨ta2, _, PySem.W.mg_of X G q2, rfl, fun _ => .inr ⟨_, _, _, r2, rfl, rfl, by show 2 ≤ sizeLine; decide, (.cons ⟨_, rfl⟩ (.cons ⟨_, rfl⟩ .nil))⟩⟩
    g_DEEPEST := ⟨_, PySem.W.mg_of X G q3, ⟨_, rfl⟩⟩
    g_MOST_MANY := ⟨_, PySem.W.mg_of X G q4, ⟨_, rfl⟩⟩
    g_FIGURES := ⟨_, PySem.W.mg_of X G q5, ⟨_, rfl⟩⟩
    g_LONGEST_NUMBER := ⟨_, PySem.W.mg_of X G q6, ⟨_, rfl⟩⟩
    n_ValueError := PySem.W.mg_none_of X G z1
    n_enumerate := PySem.W.mg_none_of X G z2
    n_int := PySem.W.mg_none_of X G z3
    n_isinstance := PySem.W.mg_none_of X G z4
    n_len := PySem.W.mg_none_of X G z5
    n_max := PySem.W.mg_none_of X G z6
    n_min := PySem.W.mg_none_of X G z7
    n_range := PySem.W.mg_none_of X G z8
    n_str := PySem.W.mg_none_of X G z9
    BesideError := ⟨x1, PySem.W.mg_of X G xa1, xb1, xt1, xi1⟩
    NoWeb := ⟨x2, PySem.W.mg_of X G xa2, xb2, xt2, xi2⟩
    NoSaying := ⟨x3, PySem.W.mg_of X G xa3, xb3, xt3, xi3⟩
    NoText := ⟨x4, PySem.W.mg_of X G xa4, xx4, xk4, xb4, xt4, xi4, ⟨xg4, xh4, xb4, xd4, xc4, xn4, xy4, xm4⟩, xv4⟩
    NoMarks := ⟨x5, PySem.W.mg_of X G xa5, xb5, xt5, xi5⟩
    sub_NoText_BesideError := xs4_1
    sub_NoText_NoWeb := xs4_2
    sub_NoText_NoSaying := xs4_3
    sub_NoText_NoText := xs4_4
    sub_NoText_NoMarks := xs4_5
  }
  exact ⟨PySem.W.fnOf "law" "law" (defArgs s_law) (defBody s_law) (defScope s_law) .none kV17 dc17 pm17 an17 cd17 ct17, fun s v => .of_eq rfl, fun base _ _ => ok_law T⟩
end B
open PySem PySem.W PyProof.Rows
set_option maxHeartbeats 0 in
theorem PySem.Challenge.cw_besidesay_k13_texts_that_are_none_holds : PySem.Challenge.rw_besidesay_k13_texts_that_are_none.Holds := by
  w_on; o_law; k_head; (case hw => w_witness2)
  k_fill
  refine L2.walk_of (l := PySem.Challenge.rw_besidesay_k13_texts_that_are_none) (n := 63) (k := 20) (x := "_law_script") (CX := fun _ => L2.CX0) (sp := fun w => B.spLaw _) rfl (by decide) rfl ⟨rfl, by decide, by decide⟩ (fun w h Y => PySem.W.kIn_of Y) ?F (fun _ _ a ns hl _ hS => ⟨a, ns, rfl, hS, hl, fun _ => rfl⟩) (fun _ _ _ _ _ h => h)
  case F =>
    intro w mg fa h KX G hmg
    refine' B.all_mk KX G hmg ?a1 ?l1 ?c1 ?k1 ?a2 ?l2 ?c2 ?k2 ?a3 ?l3 ?c3 ?k3 ?a4 ?l4 ?c4 ?k4 ?a5 ?l5 ?c5 ?k5 ?a6 ?l6 ?c6 ?k6 ?a7 ?l7 ?c7 ?k7 ?a8 ?l8 ?c8 ?k8 ?a9 ?l9 ?c9 ?k9 ?a10 ?l10 ?c10 ?k10 ?a11 ?l11 ?c11 ?k11 ?a12 ?l12 ?c12 ?k12 ?a13 ?l13 ?c13 ?k13 ?a14 ?l14 ?c14 ?k14 ?a15 ?l15 ?c15 ?k15 ?a16 ?l16 ?c16 ?k16 ?a17 ?l17 ?c17 ?k17 ?q1 ?r1 ?q2 ?r2 ?q3 ?q4 ?q5 ?q6 ?z1 ?z2 ?z3 ?z4 ?z5 ?z6 ?z7 ?z8 ?z9 ?xa1 ?xb1 ?xt1 ?xi1 ?xa2 ?xb2 ?xt2 ?xi2 ?xa3 ?xb3 ?xt3 ?xi3 ?xa4 ?xb4 ?xt4 ?xi4 ?xx4 ?xk4 ?xv4 ?xg4 ?xh4 ?xd4 ?xc4 ?xn4 ?xy4 ?xm4 ?xa5 ?xb5 ?xt5 ?xi5 ?xs4_1 ?xs4_2 ?xs4_3 ?xs4_4 ?xs4_5
    (case a1 => k_is); (case l1 => k_is); (case c1 => k_is); (case k1 => k_is); (case a2 => k_is); (case l2 => k_is)
    (case c2 => k_is); (case k2 => k_is); (case a3 => k_is); (case l3 => k_is); (case c3 => k_is); (case k3 => k_is)
    (case a4 => k_is); (case l4 => k_is); (case c4 => k_is); (case k4 => k_is); (case a5 => k_is); (case l5 => k_is)
    (case c5 => k_is); (case k5 => k_is); (case a6 => k_is); (case l6 => k_is); (case c6 => k_is); (case k6 => k_is)
    (case a7 => k_is); (case l7 => k_is); (case c7 => k_is); (case k7 => k_is); (case a8 => k_is); (case l8 => k_is)
    (case c8 => k_is); (case k8 => k_is); (case a9 => k_is); (case l9 => k_is); (case c9 => k_is); (case k9 => k_is)
    (case a10 => k_is); (case l10 => k_is); (case c10 => k_is); (case k10 => k_is); (case a11 => k_is); (case l11 => k_is)
    (case c11 => k_is); (case k11 => k_is); (case a12 => k_is); (case l12 => k_is); (case c12 => k_is); (case k12 => k_is)
    (case a13 => k_is); (case l13 => k_is); (case c13 => k_is); (case k13 => k_is); (case a14 => k_is); (case l14 => k_is)
    (case c14 => k_is); (case k14 => k_is); (case a15 => k_is); (case l15 => k_is); (case c15 => k_is); (case k15 => k_is)
    (case a16 => k_is); (case l16 => k_is); (case c16 => k_is); (case k16 => k_is); (case a17 => k_is); (case l17 => k_is)
    (case c17 => k_is); (case k17 => k_is); (case q1 => k_is); (case r1 => k_is); (case q2 => k_is); (case r2 => k_is)
    (case q3 => k_is); (case q4 => k_is); (case q5 => k_is); (case q6 => k_is); (case z1 => k_is); (case z2 => k_is)
    (case z3 => k_is); (case z4 => k_is); (case z5 => k_is); (case z6 => k_is); (case z7 => k_is); (case z8 => k_is)
    (case z9 => k_is); (case xa1 => k_is); (case xb1 => k_is); (case xt1 => k_is); (case xi1 => k_is); (case xa2 => k_is)
    (case xb2 => k_is); (case xt2 => k_is); (case xi2 => k_is); (case xa3 => k_is); (case xb3 => k_is); (case xt3 => k_is)
    (case xi3 => k_is); (case xa4 => k_is); (case xb4 => k_is); (case xt4 => k_is); (case xi4 => k_is); (case xx4 => k_exc)
    (case xk4 => k_is); (case xv4 => k_is); (case xg4 => k_is); (case xh4 => k_is); (case xd4 => k_is); (case xc4 => k_is)
    (case xn4 => k_is); (case xy4 => k_is); (case xm4 => k_is); (case xa5 => k_is); (case xb5 => k_is); (case xt5 => k_is)
    (case xi5 => k_is); (case xs4_1 => first | rfl | k_is); (case xs4_2 => first | rfl | k_is); (case xs4_3 => first | rfl | k_is); (case xs4_4 => first | rfl | k_is); (case xs4_5 => first | rfl | k_is)
